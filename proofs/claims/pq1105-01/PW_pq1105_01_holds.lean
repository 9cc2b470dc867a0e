import PyProof.Rows.All
import Wide.All
import OpenK.AllK
import Wide.FinOn
import Lean
import PySem.Challenge.RW_pq1105_01
set_option Elab.async false
set_option maxRecDepth 100000
set_option linter.unusedVariables false
set_option tactic.hygienic false
set_option bootstrap.genMatcherCode false
set_option genSizeOf false
set_option genInjectivity false
namespace Mine.Internal
namespace Mine
theorem cp {p : Prop} (h : (p → False) → False) : p:=Classical.byContradiction h
open PySem PySem.W PyProof.Rows
open Sem (wp)
noncomputable def exF (self : Value) : Code × Pos → Bool
  | (.builtin "bytearray.__contains__" ⟨v :: _,_⟩,_) | (.builtin "bytearray.__mod__" ⟨v :: _,_⟩,_)
  | (.builtin "bytearray.__rmod__" ⟨_ :: v :: _,_⟩,_) | (.builtin "_struct.pack_into.held" ⟨v :: _,_⟩,_)=>Builtin.Bytes.sameRef v self
  | (.builtin "bytearray.find.held" ⟨_ :: _ :: held,_⟩,_)=>held.any (Builtin.Bytes.sameRef self)
  | (.builtin id ⟨v :: _,_⟩,_)=>Builtin.Bytes.sameRef v self && Builtin.Bytes.decodersThatHold.contains id
  | _=>false
theorem zfb (self : Value) : Builtin.Bytes.exported self = (do return (← stack).any (exF self)):=rfl
noncomputable def q6 : List String:=["bytearray.__contains__","bytearray.__mod__","bytearray.__rmod__","_struct.pack_into.held","bytearray.find.held"] ++ Builtin.Bytes.decodersThatHold
noncomputable def jG : Code → Bool
 | .builtin id _=>!q6.contains id
 | _=>true
theorem zfm {c : Code} (h : jG c = true) (self : Value) (p : Pos) : exF self (c,p) = false:=by
 cases c with
 | builtin id args =>
  have h' : q6.contains id = false:=(Bool.not_eq_true' _).mp h
  have hh : ∀ s,s ∈ q6 → id ≠ s:=fun s hs e=>Bool.false_ne_true (h'.symm.trans (List.contains_iff_mem.mpr (e ▸ hs)))
  have hd : Builtin.Bytes.decodersThatHold.contains id = false:=Bool.eq_false_iff.mpr fun q=>hh id (List.mem_append_right _ (List.contains_iff_mem.mp q)) rfl
  obtain ⟨l,kw⟩:=args
  have a1:=hh "bytearray.__contains__" (.head _)
  have a2:=hh "bytearray.__mod__" (.tail _ (.head _))
  have a3:=hh "bytearray.__rmod__" (.tail _ (.tail _ (.head _)))
  have a4:=hh "_struct.pack_into.held" (.tail _ (.tail _ (.tail _ (.head _))))
  have a5:=hh "bytearray.find.held" (.tail _ (.tail _ (.tail _ (.tail _ (.head _)))))
  delta exF exF.match_1
  refine (dif_neg a1).trans ((dif_neg a2).trans ((dif_neg a3).trans ((dif_neg a4).trans ((dif_neg a5).trans ?_))))
  cases l with
  | nil=>rfl
  | cons v r=>exact (congrArg _ hd).trans (Bool.and_false _)
 | _=>rfl
structure Clean (Γ : Ctx) : Prop where
 here : jG Γ.code = true
 below : ∀ x ∈ Γ.below,jG x.1 = true
theorem Clean.enter {Γ : Ctx} (h : Clean Γ) {c : Code} (hc : jG c = true) (hd : Option Value) (p : Pos) : Clean (Γ.enter c hd p) :=
 ⟨hc,fun x hx=>by
  rcases List.mem_cons.mp hx with rfl | hx
  ·exact h.here
  ·exact h.below x hx⟩
theorem Clean.goto {Γ : Ctx} (h : Clean Γ) {c : Code} (hc : jG c = true) : Clean (Γ.goto c):=⟨hc,h.below⟩
theorem Clean.none {Γ : Ctx} (h : Clean Γ) (self : Value) (p : Pos) : ((Γ.code,p) :: Γ.below).any (exF self) = false:=by
 rw [List.any_eq_false]
 intro x hx
 rcases List.mem_cons.mp hx with rfl | hx
 ·rw [zfm h.here];exact Bool.false_ne_true
 ·obtain ⟨c,q⟩:=x
  rw [zfm (h.below _ hx)];exact Bool.false_ne_true
noncomputable def wpN {α : Type} (M : Model) (A : Around) (t : Sem α) (Q : α → Shared → Prop) (E : Value → Shared → Prop) (s : Shared) : Prop :=
 ∀ Γ p,Γ.In A → Clean Γ → wp M Γ t (fun a uu s'=>Q a s') (fun e uu s'=>E e s') p s
noncomputable def z4 (M : Model) (A : Around) (c : Code) (R : Result → Shared → Prop) (s : Shared) : Prop :=
 ∀ Γ p,Γ.code = c → Γ.Below A → Clean Γ → wpCode M Γ R p s
section
variable {α β : Type} {M : Model} {A : Around} {E : Value → Shared → Prop} {s : Shared}
theorem wpN.of {t : Sem α} {Q : α → Shared → Prop} (h : wpAny M A t Q E s) : wpN M A t Q E s:=fun Γ p hΓ uu=>h Γ p hΓ
theorem z4.of {c : Code} {R : Result → Shared → Prop} (h : codeAny M A c R s) : z4 M A c R s:=fun Γ p hc hΓ uu=>h Γ p hc hΓ
theorem zg {a : α} {Q : α → Shared → Prop} (h : Q a s) : wpN M A (pure a) Q E s:=fun uu uu uu uu=>h
theorem zW {t : Sem α} {Q Q' : α → Shared → Prop} {E' : Value → Shared → Prop} (h : wpN M A t Q E s) (hQ : ∀ a s,Q a s → Q' a s) (hE : ∀ e s,E e s → E' e s) : wpN M A t Q' E' s :=
 fun Γ p hΓ hC=>Sem.wp_mono M Γ t (fun a uu s=>hQ a s) (fun e uu s=>hE e s) p s (h Γ p hΓ hC)
theorem zb {m : Sem α} {f : α → Sem β} {Q : β → Shared → Prop} (h : wpN M A m (fun a s'=>wpN M A (f a) Q E s') E s) : wpN M A (m >>= f) Q E s:=fun Γ p hΓ hC=>by
 rw [Sem.wp_bind']
 exact Sem.wp_mono M Γ m (fun a p' s' h'=>h' Γ p' hΓ hC) (fun uu uu uu h'=>h') p s (h Γ p hΓ hC)
theorem zm {m : Sem α} {f : α → Sem β} {Q : β → Shared → Prop} (h : wpAny M A m (fun a s'=>wpN M A (f a) Q E s') E s) : wpN M A (m >>= f) Q E s:=zb (wpN.of h)
theorem zl {pos : Pos} {Q : Unit → Shared → Prop} (h : Q () s) : wpN M A (standAt pos) Q E s:=fun uu uu uu uu=>h
theorem qx {t : String} {Q : Unit → Shared → Prop} (h : Q () s) : wpN M A (rule t) Q E s:=fun uu uu uu uu=>h
theorem zah {Q : Unit → Shared → Prop} (h : Q () s) : wpN M A point Q E s:=fun uu uu uu uu=>h
theorem zp {vs : List Value} {m : Sem α} {Q : α → Shared → Prop} (h : wpN M A m Q E s) : wpN M A (holding vs m) Q E s :=
 fun Γ p hΓ hC=>by rw [Sem.wp_holding];exact h Γ p hΓ hC
theorem zT {t : Sem α} {a : α} {Q : α → Shared → Prop} (e : t = pure a) (h : Q a s) : wpN M A t Q E s:=by rw [e];exact zg h
theorem zJ {m : Sem α} {k : Value → Sem Unit} {Q : α → Shared → Prop} (h : wpN M A m Q (fun uu uu=>False) s) : wpN M A (m.onRaise k) Q E s:=fun Γ p hΓ hC=>by
 rw [Sem.wp_onRaise]
 exact Sem.wp_mono M Γ m (fun uu uu uu h'=>h') (fun e p' s' h'=>h'.elim) p s (h Γ p hΓ hC)
theorem zdw {m : Sem α} {Q : Except Value α → Shared → Prop} (h : wpN M A m (fun a=>Q (.ok a)) (fun uu uu=>False) s) : wpN M A m.attempt Q E s:=fun Γ p hΓ hC=>by
 rw [Sem.wp_attempt]
 exact Sem.wp_mono M Γ m (fun uu uu uu h'=>h') (fun e p' s' h'=>h'.elim) p s (h Γ p hΓ hC)
theorem zmf {vs : List Value} {m : Sem α} {Q : α → Shared → Prop} (h : wpN M A m Q E s) : wpN M A (m.keep vs) Q E s:=fun Γ p hΓ hC=>by
 first
 | (rw [Sem.wp_keep];exact h Γ p hΓ hC)
 | (simp only [Sem.wp_keep];exact h Γ p hΓ hC)
theorem zqm {c : Prop} {d : Decidable c} {a b : Sem α} {Q : α → Shared → Prop} (h : wpN M A a Q E s) (h' : wpN M A b Q E s) : wpN M A (if c then a else b) Q E s:=by split <;> assumption
theorem zql {c : Prop} [Decidable c] {a b : Sem α} {Q : α → Shared → Prop} (h : if c then wpN M A a Q E s else wpN M A b Q E s) : wpN M A (if c then a else b) Q E s:=by split <;> simp_all
theorem zbq {self : Value} {Q : Bool → Shared → Prop} (h : Q false s) : wpN M A (Builtin.Bytes.exported self) Q E s:=fun Γ p hΓ hC=>by
 rw [zfb]
 show Q (((Γ.code,p) :: Γ.below).any (exF self)) s
 rw [hC.none];exact h
theorem zbp {c : Code} {h : Option Value} {Q : Flow → Shared → Prop} (hcl : jG c = true)
  (hc : z4 M (A.mark h) c (fun r s'=>match r with | .ok f=>Q f s' | .error e=>E e s') s) (hnb : h ≠ some byPass) : wpN M A (run c h) Q E s :=
 fun Γ p hΓ hC=>by rw [Sem.wp_run];exact hc _ p rfl (hΓ.enter c h p hnb) (hC.enter hcl h p)
theorem zaw : A.mark none = A:=rfl
theorem zbo {c : Code} {Q : Value → Shared → Prop} (hcl : jG c = true)
  (hc : z4 M A c (fun r s'=>match r with | .ok (.ret v)=>Q v s' | .ok _=>False | .error e=>E e s') s) : wpN M A (runValue c) Q E s :=
 fun Γ p hΓ hC=>by rw [Sem.wp_runValue];exact hc _ p rfl (hΓ.enter c none p (by intro x;cases x)) (hC.enter hcl none p)
theorem kX {f : Value} {pos : List Value} {kw : List (Str × Value)} {Q : Value → Shared → Prop}
  (hc : z4 M A (.call f ⟨pos,kw⟩) (fun r s'=>match r with | .ok (.ret v)=>Q v s' | .ok _=>False | .error e=>E e s') s) : wpN M A (call f pos kw) Q E s:=zbo rfl hc
theorem zic {c : Code} {R R' : Result → Shared → Prop} (h : z4 M A c R s) (hR : ∀ r s,R r s → R' r s) : z4 M A c R' s :=
 fun Γ p hc hΓ hC=>wpCode_mono hR (h Γ p hc hΓ hC)
theorem zB {c : Code} {R : Result → Shared → Prop}
  (h : wpN M (A.under c) (M.den c) (fun fin s'=>match fin with | .done f=>R (.ok f) s' | .again c'=>c'.quiet = true ∧ jG c' = true ∧ z4 M A c' R s')
   (fun e s'=>R (.error e) s') s) : z4 M A c R s:=fun Γ p hc hΓ hC=>by
 rw [wpCode_iff_wp,hc]
 refine Sem.wp_mono M Γ _ (fun fin p' s' h'=>?_) (fun uu uu uu h'=>h') p s (h Γ p (hc ▸ hΓ.in) hC)
 cases fin with
 | done f=>exact h'
 | again c'=>exact ⟨h'.1,h'.2.2 (Γ.goto c') p' rfl (hΓ.goto c') (hC.goto h'.2.1)⟩
theorem zu6 {c : Code} {R : Result → Shared → Prop} (hq : c.quiet = true) (hcl : jG c = true) (I : Nat → Shared → Prop)
  (turn : ∀ n s,I n s → wpN M (A.under c) (M.den c)
   (fun fin s'=>match fin with | .done f=>R (.ok f) s' | .again c'=>(c' = c ∧ ∃ m,m < n ∧ I m s') ∨ (c'.quiet = true ∧ jG c' = true ∧ z4 M A c' R s')) (fun e s'=>R (.error e) s') s)
  (n : Nat) (h : I n s) : z4 M A c R s:=by
 induction n using Nat.strongRecOn generalizing s with
 | ind n ih =>
  refine zB (zW (turn n s h) (fun fin s' hf=>?_) fun uu uu h'=>h')
  cases fin with
  | done f=>exact hf
  | again c' =>
   rcases hf with ⟨rfl,m,hm,hI⟩ | hf
   ·exact ⟨hq,hcl,ih m hm hI⟩
   ·exact hf
end
end Mine
namespace Mine
open PySem
noncomputable abbrev Bop:=Operator
noncomputable abbrev Cop:=CmpOp
set_option genCtorIdx false in
inductive ME where
 | cnone | cbool (b : Bool) | cint (i : Int) | cstr (n : Nat) | cbytes (b : List UInt8)
 | loc (x : Nat) | glob (x : Nat)
 | bin (op : Bop) (a b : ME) | not (a : ME) | neg (a : ME)
 | bool (isAnd : Bool) (l : List ME)
 | ite (c a b : ME)
 | cmp (op : Cop) (a b : ME) | cmp2 (op1 op2 : Cop) (a b c : ME)
 | call (f : ME) (args : List ME) | meth (o : ME) (n : Nat) (args : List ME) | attr (o : ME) (n : Nat)
 | sub (o i : ME) | slice (o lo hi st : ME)
 | tup (l : List ME) | lst (l : List ME) | dict (ks : List Nat) (vs : List ME)
 | comp (elt : ME) (t : List Nat) (k : Nat) (its ifs : List ME)
set_option genCtorIdx false in
inductive MT where
 | name (x : Nat) | attr (o : ME) (n : Nat) | sub (o i : ME) | slice (o lo hi : ME) | tup (l : List MT)
set_option genCtorIdx false in
inductive MS where
 | expr (e : ME) | assign (t : MT) (e : ME) | swap (xs : List Nat) (e : ME) | aug (x : Nat) (e : ME) | ret (e : ME)
 | pass | cont | ifs (c : ME) (a b : List MS) | whl (c : ME) (b : List MS)
 | for (t : List Nat) (k : Nat) (its : List ME) (b : List MS) | stuck
set_option genCtorIdx false in
inductive PV where
 | none | bool (b : Bool) | int (i : Int) | str (n : Nat) | bytes (b : List UInt8) | barr (b : List UInt8)
 | tup (l : List PV) | lst (l : List PV) | loc (i : Nat) | fn (a : Addr) | bi (k : Nat)
set_option genCtorIdx false in
inductive MObj where
 | list (l : List PV) | dict (l : List (Nat × PV)) | ns (l : List (Nat × PV)) | barr (b : List UInt8) | inst (c : Addr) (d : Nat) | hid
noncomputable abbrev Loc:=Nat → Option PV
noncomputable abbrev Hp:=List MObj
set_option genCtorIdx false in
inductive Fl where
 | next | cont | ret (v : PV)
structure FnD where
 params : List Nat
 dflts : List PV
 body : List MS
structure ClsD where
 init : Addr
 meths : List (Nat × Addr)
 attrs : List Nat
structure Prg where
 glob : Nat → Option PV
 fn : Addr → Option FnD
 cls : Addr → Option ClsD
 cat : Nat → Nat → Option Nat
 ofInt : Int → Option Nat
noncomputable def z5 (L : Loc) (x : Nat) (v : PV) : Loc:=fun y=>if y = x then some v else L y
theorem zq5 {a b : Bool} (h : PV.bool a = PV.bool b) : a = b:=PV.noConfusion h id
theorem pv_int {a b : Int} (h : PV.int a = PV.int b) : a = b:=PV.noConfusion h id
theorem zua {a b : List PV} (h : PV.lst a = PV.lst b) : a = b:=PV.noConfusion h id
theorem zri {a b : Nat} (h : MT.name a = MT.name b) : a = b:=MT.noConfusion h id
theorem zu1 {a b c : Nat} (h : a < b) (k : Nat.ble b c = true) : a < c:=Nat.lt_of_lt_of_le h (Nat.le_of_ble_eq_true k)
theorem zu2 {a b c : Nat} (h : a ≤ b) (k : Nat.ble b c = true) : a ≤ c:=Nat.le_trans h (Nat.le_of_ble_eq_true k)
theorem zu3 {a b c : Nat} (h : a < b) (k : Nat.ble b (c + 1) = true) : a ≤ c:=Nat.le_of_lt_succ (zu1 h k)
theorem zu4 {a b c : Nat} (h : a ≤ b) (k : Nat.ble (b + 1) c = true) : a < c:=zu2 (Nat.succ_le_succ h) k
theorem zv1 {a b c d : Nat} (h : a < b) (k : Nat.ble (b + d) c = true) : a + d < c:=zu1 (Nat.add_lt_add_right h d) k
theorem zv2 {a b c d : Nat} (h : a ≤ b) (k : Nat.ble (b + d) c = true) : a + d ≤ c:=zu2 (Nat.add_le_add_right h d) k
theorem zv3 {a b c d e : Nat} (h : a < b) (k : Nat.ble (b + d + e) c = true) : a + d + e < c:=zv1 (Nat.add_lt_add_right h d) k
theorem zv4 {a b c d e : Nat} (h : a ≤ b) (k : Nat.ble (b + d + e) c = true) : a + d + e ≤ c:=zv2 (Nat.add_le_add_right h d) k
theorem zv5 {a b c d : Nat} (h : a < b) (k : Nat.ble (b + d) (c + 1) = true) : a + d ≤ c:=Nat.le_of_lt_succ (zv1 h k)
theorem zv6 {a b c d : Nat} (h : a ≤ b) (k : Nat.ble (b + d + 1) c = true) : a + d < c:=zv2 (Nat.add_le_add_right h d) k
theorem zv7 {a b c d : Nat} (h : a ≤ b) (k : Nat.ble (d + b) c = true) : d + a ≤ c:=zu2 (Nat.add_le_add_left h d) k
theorem zv8 {a b c d : Nat} (h : a < b) (k : Nat.ble (d + b) c = true) : d + a < c:=zu1 (Nat.add_lt_add_left h d) k
theorem zv9 {a b c d : Nat} (h : a < b) (k : Nat.ble (d + b) (c + 1) = true) : d + a ≤ c:=Nat.le_of_lt_succ (zv8 h k)
theorem zw1 {a b c d e : Nat} (h : a < b) (g : c ≤ d) (k : Nat.ble (b + d) e = true) : a + c < e:=zu1 (Nat.add_lt_add_of_lt_of_le h g) k
theorem zw2 {a b c d e : Nat} (h : a ≤ b) (g : c ≤ d) (k : Nat.ble (b + d) e = true) : a + c ≤ e:=zu2 (Nat.add_le_add h g) k
theorem zw3 {a b c d e f x : Nat} (h : a < b) (g : c ≤ d) (k : Nat.ble (b + d + f) x = true) : a + c + f < x:=zv1 (zw1 h g (Nat.ble_self_eq_true _)) k
theorem zw4 {a b c d e f x : Nat} (h : a < b) (g : c ≤ d) (i : e ≤ f) (k : Nat.ble (b + d + f) x = true) : a + c + e < x:=zw1 (zw1 h g (Nat.ble_self_eq_true _)) i k
theorem zw5 {a b c d e f x : Nat} (h : a ≤ b) (g : c ≤ d) (i : e ≤ f) (k : Nat.ble (b + d + f) x = true) : a + c + e ≤ x:=zw2 (zw2 h g (Nat.ble_self_eq_true _)) i k
theorem zw6 {a b c d e f x : Nat} (h : a < b) (g : c ≤ d) (i : e ≤ f) (k : Nat.ble (b + (d + f)) x = true) : a + (c + e) < x:=zw1 h (zw2 g i (Nat.ble_self_eq_true _)) k
theorem zn1 {i n k : Nat} (h : i < n) : i ≠ n + k:=Nat.ne_of_lt (Nat.lt_of_lt_of_le h (Nat.le_add_right _ _))
theorem zn2 {w a b : Nat} (h : Nat.beq a b = false) : w + a ≠ w + b:=fun e=>Bool.false_ne_true (h.symm.trans (Nat.add_left_cancel e ▸ Nat.beq_refl a))
theorem zn3 {w a : Nat} (h : Nat.beq a 0 = false) : w + a ≠ w:=fun e=>Bool.false_ne_true (h.symm.trans (Nat.add_eq_left.mp e ▸ Nat.beq_refl 0))
theorem zn4 {w n k m : Nat} (h : w + k ≤ n) (c : Nat.ble (m + 1) k = true) : w + m ≠ n:=Nat.ne_of_lt (Nat.lt_of_lt_of_le (Nat.add_lt_add_left (Nat.le_of_ble_eq_true c) w) h)
theorem zn5 {w n k m j : Nat} (h : w + k ≤ n) (c : Nat.ble (m + 1) k = true) : w + m ≠ n + j:=Nat.ne_of_lt (Nat.lt_of_lt_of_le (Nat.add_lt_add_left (Nat.le_of_ble_eq_true c) w) (Nat.le_trans h (Nat.le_add_right _ _)))
theorem zn6 {i n m k : Nat} (h : i < n) (g : n ≤ m) : i ≠ m + k:=zn1 (Nat.lt_of_lt_of_le h g)
theorem zn7 {i n m : Nat} (h : i < n) (g : n ≤ m) : i ≠ m:=Nat.ne_of_lt (Nat.lt_of_lt_of_le h g)
theorem zn8 {w n k m j : Nat} (h : w + k ≤ n) (c : Nat.ble (m + j + 1) k = true) : w + m + j ≠ n:=(Nat.add_assoc w m j) ▸ zn4 h c
theorem zn9 {w n k m j i : Nat} (h : w + k ≤ n) (c : Nat.ble (m + j + 1) k = true) : w + m + j ≠ n + i:=(Nat.add_assoc w m j) ▸ zn5 h c
theorem zc1 (a : Nat) : ¬ (a : Int) < 0:=Int.not_lt.mpr (Int.natCast_nonneg a)
theorem zc2 {a b : Nat} (h : a ≤ b) (k : Nat.ble b 1000000 = true) : (a : Int) ≤ 1000000:=Int.ofNat_le.mpr (zu2 h k)
theorem zc3 {a b : Nat} (h : a < b) (k : Nat.ble b 1000001 = true) : (a : Int) ≤ 1000000:=Int.ofNat_le.mpr (zu3 h k)
theorem zc4 {a : Nat} (h : 0 < a) : (a : Int) ≠ 0:=fun e=>Nat.ne_of_gt h (Int.ofNat_inj.mp e)
theorem zc5 {a : Nat} (h : a ≠ 0) : (a : Int) ≠ 0:=fun e=>h (Int.ofNat_inj.mp e)
theorem zc6 {a : Nat} (h : ¬ a = 0) : ¬ (a : Int) = 0:=fun e=>h (Int.ofNat_inj.mp e)
theorem zc7 {a : Nat} (h : 0 < a) : ((a : Nat) : Int) - 1 = ((a - 1 : Nat) : Int):=(Int.ofNat_sub h).symm
theorem zc8 {a b : Nat} (h : a ≤ b) (k : Nat.ble b 1000 = true) : (a : Int) ≤ 1000:=Int.ofNat_le.mpr (zu2 h k)
theorem zc9 (a : Nat) : (-1000 : Int) ≤ (a : Int):=Int.le_trans (by decide) (Int.natCast_nonneg a)
noncomputable def bn {α β : Type} (o : Option α) (f : α → Option β) : Option β:=match o with
 | some a=>f a
 | none=>none
noncomputable def pr2 {α β : Type} (f : α → Hp → Option β) (r : α × Hp) : Option β:=match r with | (a,H)=>f a H
noncomputable def bn2 {α β : Type} (o : Option (α × Hp)) (f : α → Hp → Option β) : Option β:=bn o (pr2 f)
noncomputable def gr {β : Type} (b : Bool) (o : Option β) : Option β:=match b with
 | true=>o
 | false=>none
theorem zq {α β : Type} {o : Option α} {f : α → Option β} {r : β} {C : Prop} (h : bn o f = some r) (k : ∀ a,o = some a → f a = some r → C) : C:=match o,h,k with
 | some a,h,k=>k a rfl h
 | none,h,_=>nomatch h
theorem vx {α β : Type} {o : Option (α × Hp)} {f : α → Hp → Option β} {r : β} {C : Prop} (h : bn2 o f = some r) (k : ∀ a H,o = some (a,H) → f a H = some r → C) : C:=zq h fun a=>k a.1 a.2
theorem yp {β : Type} {b : Bool} {o : Option β} {r : β} {C : Prop} (h : gr b o = some r) (k : b = true → o = some r → C) : C:=match b,h,k with
 | true,h,k=>k rfl h
 | false,h,_=>nomatch h
theorem xq {β : Type} {p : Prop} {_ : Decidable p} {o : Option β} {r : β} {C : Prop} (h : gr (decide p) o = some r) (k : p → o = some r → C) : C:=yp h fun g=>k (of_decide_eq_true g)
theorem ki {β : Type} {b : Bool} {x y : Option β} {r : β} {C : Prop} (h : cond b x y = some r) (k1 : b = true → x = some r → C) (k2 : b = false → y = some r → C) : C:=match b,h,k1,k2 with
 | true,h,k,_=>k rfl h
 | false,h,_,k=>k rfl h
theorem zk {α β : Type} {o : Option α} {f : α → Option β} {r : β} {C : Prop} (k : ∀ a,o = some a → f a = some r → C) (h : bn o f = some r) : C:=zq h k
theorem zC {α β : Type} {o : Option (α × Hp)} {f : α → Hp → Option β} {r : β} {C : Prop} (k : ∀ a H,o = some (a,H) → f a H = some r → C) (h : bn2 o f = some r) : C:=vx h k
theorem zR {β : Type} {b : Bool} {o : Option β} {r : β} {C : Prop} (k : b = true → o = some r → C) (h : gr b o = some r) : C:=yp h k
theorem zX {β : Type} {p : Prop} {_ : Decidable p} {o : Option β} {r : β} {C : Prop} (k : p → o = some r → C) (h : gr (decide p) o = some r) : C:=xq h k
theorem jh {β : Type} {b : Bool} {x y : Option β} {r : β} {C : Prop} (k1 : b = true → x = some r → C) (k2 : b = false → y = some r → C) (h : cond b x y = some r) : C:=ki h k1 k2
theorem z6 {α β : Type} {a c : α} {b d : β} (h : some (a,b) = some (c,d)) : a = c ∧ b = d:=Prod.mk.inj (Option.some.inj h)
theorem zd {β : Type} {r : β} {C : Prop} (h : none = some r) : C:=nomatch h
theorem zr {α β : Type} {o : Option α} {f : α → Option β} {a : α} (h : o = some a) : bn o f = f a:=h ▸ rfl
theorem zI {α β : Type} {o : Option (α × Hp)} {f : α → Hp → Option β} {a : α} {H : Hp} (h : o = some (a,H)) : bn2 o f = f a H:=h ▸ rfl
theorem wq {β : Type} {b : Bool} {o : Option β} (h : b = true) : gr b o = o:=h ▸ rfl
theorem zA {β : Type} {p : Prop} {_ : Decidable p} {o : Option β} (h : p) : gr (decide p) o = o:=wq (decide_eq_true h)
noncomputable def zqd : PV → Option Bool
 | .bool b=>some b
 | _=>none
noncomputable def yt : PV → Option Int
 | .int b=>some b
 | _=>none
noncomputable def zf9 : PV → Option Nat
 | .str b=>some b
 | _=>none
noncomputable def zbl : PV → Option (List PV)
 | .lst b=>some b
 | _=>none
noncomputable def zkc : PV → Option (List PV)
 | .tup b=>some b
 | _=>none
noncomputable def zkd : PV → Option (List UInt8)
 | .bytes b=>some b
 | _=>none
noncomputable def wx : PV → Option Nat
 | .loc b=>some b
 | _=>none
noncomputable def xR : PV → Option Unit
 | .none=>some ()
 | _=>none
theorem zi1 {v : PV} {b : Bool} (h : zqd v = some b) : v = .bool b:=by
 cases v with
 | bool x=>exact congrArg PV.bool (Option.some.inj h)
 | _=>exact zd h
theorem zH {v : PV} {b : Int} (h : yt v = some b) : v = .int b:=by
 cases v with
 | int x=>exact congrArg PV.int (Option.some.inj h)
 | _=>exact zd h
theorem kt {v : PV} {b : Nat} (h : zf9 v = some b) : v = .str b:=by
 cases v with
 | str x=>exact congrArg PV.str (Option.some.inj h)
 | _=>exact zd h
theorem jW {v : PV} {b : List PV} (h : zbl v = some b) : v = .lst b:=by
 cases v with
 | lst x=>exact congrArg PV.lst (Option.some.inj h)
 | _=>exact zd h
theorem v8 {v : PV} {b : List PV} (h : zkc v = some b) : v = .tup b:=by
 cases v with
 | tup x=>exact congrArg PV.tup (Option.some.inj h)
 | _=>exact zd h
theorem zga {v : PV} {b : List UInt8} (h : zkd v = some b) : v = .bytes b:=by
 cases v with
 | bytes x=>exact congrArg PV.bytes (Option.some.inj h)
 | _=>exact zd h
theorem yX {v : PV} {b : Nat} (h : wx v = some b) : v = .loc b:=by
 cases v with
 | loc x=>exact congrArg PV.loc (Option.some.inj h)
 | _=>exact zd h
theorem qn {v : PV} {b : Unit} (h : xR v = some b) : v = .none:=by
 cases v with
 | none=>rfl
 | _=>exact zd h
noncomputable def prB {β : Type} (f : Bool → Hp → Option β) (r : PV × Hp) : Option β:=match r with | (v,H)=>bn (zqd v) fun b=>f b H
noncomputable def bnB {β : Type} (o : Option (PV × Hp)) (f : Bool → Hp → Option β) : Option β:=bn o (prB f)
noncomputable def prI {β : Type} (f : Int → Hp → Option β) (r : PV × Hp) : Option β:=match r with | (v,H)=>bn (yt v) fun b=>f b H
noncomputable def bnI {β : Type} (o : Option (PV × Hp)) (f : Int → Hp → Option β) : Option β:=bn o (prI f)
noncomputable def prL {β : Type} (f : Nat → Hp → Option β) (r : PV × Hp) : Option β:=match r with | (v,H)=>bn (wx v) fun b=>f b H
noncomputable def bnL {β : Type} (o : Option (PV × Hp)) (f : Nat → Hp → Option β) : Option β:=bn o (prL f)
noncomputable def prT {β : Type} (f : List PV → Hp → Option β) (r : PV × Hp) : Option β:=match r with | (v,H)=>bn (zkc v) fun b=>f b H
noncomputable def bnT {β : Type} (o : Option (PV × Hp)) (f : List PV → Hp → Option β) : Option β:=bn o (prT f)
theorem zp1 {β : Type} {o : Option (PV × Hp)} {f : Bool → Hp → Option β} {r : β} {C : Prop} (h : bnB o f = some r) (k : ∀ a H,o = some (.bool a,H) → f a H = some r → C) : C :=
 zq h fun r e h=>zq h fun b hb h=>k b r.2 (zi1 hb ▸ e) h
theorem zp0 {β : Type} {o : Option (PV × Hp)} {f : Int → Hp → Option β} {r : β} {C : Prop} (h : bnI o f = some r) (k : ∀ a H,o = some (.int a,H) → f a H = some r → C) : C :=
 zq h fun r e h=>zq h fun b hb h=>k b r.2 (zH hb ▸ e) h
theorem zpz {β : Type} {o : Option (PV × Hp)} {f : Nat → Hp → Option β} {r : β} {C : Prop} (h : bnL o f = some r) (k : ∀ a H,o = some (.loc a,H) → f a H = some r → C) : C :=
 zq h fun r e h=>zq h fun b hb h=>k b r.2 (yX hb ▸ e) h
theorem zpy {β : Type} {o : Option (PV × Hp)} {f : List PV → Hp → Option β} {r : β} {C : Prop} (h : bnT o f = some r) (k : ∀ a H,o = some (.tup a,H) → f a H = some r → C) : C :=
 zq h fun r e h=>zq h fun b hb h=>k b r.2 (v8 hb ▸ e) h
theorem zka {β : Type} {o : Option (PV × Hp)} {f : Bool → Hp → Option β} {r : β} {C : Prop} (k : ∀ a H,o = some (.bool a,H) → f a H = some r → C) (h : bnB o f = some r) : C:=zp1 h k
theorem bnI_k {β : Type} {o : Option (PV × Hp)} {f : Int → Hp → Option β} {r : β} {C : Prop} (k : ∀ a H,o = some (.int a,H) → f a H = some r → C) (h : bnI o f = some r) : C:=zp0 h k
theorem bnL_k {β : Type} {o : Option (PV × Hp)} {f : Nat → Hp → Option β} {r : β} {C : Prop} (k : ∀ a H,o = some (.loc a,H) → f a H = some r → C) (h : bnL o f = some r) : C:=zpz h k
theorem bnT_k {β : Type} {o : Option (PV × Hp)} {f : List PV → Hp → Option β} {r : β} {C : Prop} (k : ∀ a H,o = some (.tup a,H) → f a H = some r → C) (h : bnT o f = some r) : C:=zpy h k
noncomputable def zoq : MObj → Option (List PV)
 | .list b=>some b
 | _=>none
noncomputable def zor : MObj → Option (List (Nat × PV))
 | .dict b=>some b
 | _=>none
noncomputable def inNs : MObj → Option (List (Nat × PV))
 | .ns b=>some b
 | _=>none
noncomputable def zos : MObj → Option (List UInt8)
 | .barr b=>some b
 | _=>none
noncomputable def zhs : MObj → Option (Addr × Nat)
 | .inst c d=>some (c,d)
 | _=>none
theorem zhr {o : MObj} {b : List PV} (h : zoq o = some b) : o = .list b:=by
 cases o with
 | list x=>exact congrArg MObj.list (Option.some.inj h)
 | _=>exact zd h
theorem zht {o : MObj} {b : List (Nat × PV)} (h : zor o = some b) : o = .dict b:=by
 cases o with
 | dict x=>exact congrArg MObj.dict (Option.some.inj h)
 | _=>exact zd h
theorem zop {o : MObj} {b : List (Nat × PV)} (h : inNs o = some b) : o = .ns b:=by
 cases o with
 | ns x=>exact congrArg MObj.ns (Option.some.inj h)
 | _=>exact zd h
theorem zhu {o : MObj} {b : List UInt8} (h : zos o = some b) : o = .barr b:=by
 cases o with
 | barr x=>exact congrArg MObj.barr (Option.some.inj h)
 | _=>exact zd h
theorem xp {o : MObj} {b : Addr × Nat} (h : zhs o = some b) : o = .inst b.1 b.2:=by
 cases o with
 | inst c d=>exact Option.some.inj h ▸ rfl
 | _=>exact zd h
noncomputable def listAt (H : Hp) (i : Nat) : Option (List PV):=bn H[i]? zoq
noncomputable def dictAt (H : Hp) (i : Nat) : Option (List (Nat × PV)):=bn H[i]? zor
noncomputable def znl (H : Hp) (i : Nat) : Option (List (Nat × PV)):=bn H[i]? inNs
noncomputable def zde (H : Hp) (i : Nat) : Option (List UInt8):=bn H[i]? zos
noncomputable def qM? (H : Hp) (i : Nat) : Option (Addr × Nat):=bn H[i]? zhs
theorem yV {H : Hp} {i : Nat} {l : List PV} (h : listAt H i = some l) : H[i]? = some (.list l):=zq h fun uu e h=>zhr h ▸ e
theorem zu0 {H : Hp} {i : Nat} {l : List (Nat × PV)} (h : dictAt H i = some l) : H[i]? = some (.dict l):=zq h fun uu e h=>zht h ▸ e
theorem xa {H : Hp} {i : Nat} {l : List (Nat × PV)} (h : znl H i = some l) : H[i]? = some (.ns l):=zq h fun uu e h=>zop h ▸ e
theorem xL {H : Hp} {i : Nat} {l : List UInt8} (h : zde H i = some l) : H[i]? = some (.barr l):=zq h fun uu e h=>zhu h ▸ e
theorem xm {H : Hp} {i : Nat} {l : Addr × Nat} (h : qM? H i = some l) : H[i]? = some (.inst l.1 l.2):=zq h fun uu e h=>xp h ▸ e
theorem yv {H : Hp} {i : Nat} {l : List PV} (h : H[i]? = some (.list l)) : listAt H i = some l:=zr h
theorem zvp {H : Hp} {i : Nat} {l : List (Nat × PV)} (h : H[i]? = some (.dict l)) : dictAt H i = some l:=zr h
theorem zca {H : Hp} {i : Nat} {l : List (Nat × PV)} (h : H[i]? = some (.ns l)) : znl H i = some l:=zr h
theorem vY {H : Hp} {i : Nat} {l : List UInt8} (h : H[i]? = some (.barr l)) : zde H i = some l:=zr h
theorem za3 {H : Hp} {i d : Nat} {c : Addr} (h : H[i]? = some (.inst c d)) : qM? H i = some (c,d):=zr h
mutual
noncomputable def okD : PV → Nat → Bool
 | .none,_=>true
 | .bool _,_=>true
 | .int _,_=>true
 | .str _,_=>true
 | .tup l,k=>match k with
  | 0=>false
  | k + 1=>xW l k
 | _,_=>false
noncomputable def xW : List PV → Nat → Bool
 | [],_=>true
 | x :: r,k=>okD x k && xW r k
end
noncomputable def isNone : PV → Bool
 | .none=>true
 | _=>false
noncomputable def eqB (a : Bool) : PV → Bool
 | .bool b=>a == b
 | .int b=>decide ((if a then 1 else 0) = b)
 | _=>false
noncomputable def eqI (a : Int) : PV → Bool
 | .bool b=>decide (a = (if b then 1 else 0))
 | .int b=>decide (a = b)
 | _=>false
noncomputable def eqS (a : Nat) : PV → Bool
 | .str b=>Nat.beq a b
 | _=>false
mutual
noncomputable def eqD : PV → PV → Bool
 | .none,y=>isNone y
 | .bool a,y=>eqB a y
 | .int a,y=>eqI a y
 | .str a,y=>eqS a y
 | .tup a,y=>match y with
  | .tup b=>eqDs a b
  | _=>false
 | _,_=>false
noncomputable def eqDs : List PV → List PV → Bool
 | [],m=>match m with
  | []=>true
  | _ :: _=>false
 | x :: r,m=>match m with
  | []=>false
  | y :: t=>eqD x y && eqDs r t
end
noncomputable def zk2 (a b : PV) : Option Bool:=gr (okD a 8)<|gr (okD b 8)<|some (eqD a b)
noncomputable def za2 : Bop → Bool
 | .Add=>true
 | _=>false
noncomputable def ztb : Bop → Bool
 | .Mult=>true
 | _=>false
theorem jT {op : Bop} (h : za2 op = true) : op = .Add:=by
 cases op with
 | Add=>rfl
 | _=>exact absurd h Bool.false_ne_true
theorem zlf {op : Bop} (h : ztb op = true) : op = .Mult:=by
 cases op with
 | Mult=>rfl
 | _=>exact absurd h Bool.false_ne_true
noncomputable def binI (op : Bop) (a b : Int) : Option Int:=match op with
 | .Add=>some (a + b)
 | .Sub=>some (a - b)
 | .Mult=>gr (decide (a.natAbs < 2 ^ 64 ∨ b.natAbs < 2 ^ 64))<|some (a * b)
 | .FloorDiv=>gr (decide (b ≠ 0 ∧ b.natAbs < 2 ^ 1000))<|some (a.fdiv b)
 | .Mod=>gr (decide (b ≠ 0))<|some (a.fmod b)
 | .Pow=>gr (decide (0 ≤ b ∧ b ≤ 1000000 ∧ a.natAbs < 2 ^ 64))<|some (a ^ b.toNat)
 | .LShift=>gr (decide (0 ≤ b ∧ b ≤ 1000000 ∧ a.natAbs < 2 ^ 64))<|some (a * 2 ^ b.toNat)
 | .RShift=>gr (decide (0 ≤ b))<|some (a.fdiv (2 ^ b.toNat))
 | .BitAnd=>some (Builtin.bitAnd a b)
 | .BitOr=>some (Builtin.bitOr a b)
 | .BitXor=>some (Builtin.bitXor a b)
 | _=>none
noncomputable def lim : Nat:=100000
noncomputable def zs8 (v : PV) (H : Hp) : Option (List PV):=match v with
 | .lst l=>some l
 | .loc i=>listAt H i
 | _=>none
noncomputable def binB (op : Bop) (x : List UInt8) (b : PV) : Option (List UInt8):=match b with
 | .bytes y=>gr (za2 op)<|gr (decide (x.length + y.length ≤ lim))<|some (x ++ y)
 | .int n=>gr (ztb op)<|gr (decide (x.length ≤ 1 ∧ n ≤ 1000 ∧ -1000 ≤ n ∧ x ≠ []))<|some (List.replicate n.toNat x).flatten
 | _=>none
noncomputable def kA (P : Prg) (op : Bop) (a b : PV) (H : Hp) : Option (PV × Hp):=match a with
 | .int x=>bn (yt b) fun y=>bn (binI op x y) fun z=>some (.int z,H)
 | .str x=>gr (za2 op)<|bn (zf9 b) fun y=>bn (P.cat x y) fun z=>some (.str z,H)
 | .lst x=>gr (za2 op)<|bn (zs8 b H) fun y=>gr (decide (x.length + y.length ≤ lim))<|some (.lst (x ++ y),H)
 | .loc i=>gr (za2 op)<|bn (listAt H i) fun x=>bn (zbl b) fun y=>gr (decide (x.length + y.length ≤ lim))<|some (.loc H.length,H ++ [.list (x ++ y)])
 | .bytes x=>bn (binB op x b) fun z=>some (.bytes z,H)
 | _=>none
noncomputable def zmb (x : PV) : List PV → Bool
 | []=>false
 | y :: r=>eqD y x || zmb x r
noncomputable def jt (x : PV) (l : List PV) : Option Bool:=gr (okD x 8)<|gr (xW l 8)<|some (zmb x l)
noncomputable def dictGet (k : Nat) : List (Nat × PV) → Option PV
 | []=>none
 | e :: r=>match Nat.beq e.1 k with
  | true=>some e.2
  | false=>dictGet k r
noncomputable def dictSet (k : Nat) (v : PV) : List (Nat × PV) → List (Nat × PV)
 | []=>[(k,v)]
 | e :: r=>match Nat.beq e.1 k with
  | true=>(k,v) :: r
  | false=>e :: dictSet k v r
noncomputable def zpp (f : Int → Int → Bool) (a b : PV) : Option Bool:=bn (yt a) fun x=>bn (yt b) fun y=>some (f x y)
noncomputable def inO (a : PV) (o : MObj) : Option Bool:=match o with
 | .dict es=>bn (zf9 a) fun k=>some (dictGet k es).isSome
 | .list l=>jt a l
 | _=>none
noncomputable def inV (a b : PV) (H : Hp) : Option Bool:=match b with
 | .tup l=>jt a l
 | .loc i=>bn H[i]? fun o=>inO a o
 | _=>none
noncomputable def jd (op : Cop) (a b : PV) (H : Hp) : Option Bool:=match op with
 | .Eq=>zk2 a b
 | .NotEq=>bn (zk2 a b) fun x=>some (!x)
 | .Lt=>zpp (fun x y=>decide (x < y)) a b
 | .LtE=>zpp (fun x y=>decide (x ≤ y)) a b
 | .Gt=>zpp (fun x y=>decide (y < x)) a b
 | .GtE=>zpp (fun x y=>decide (y ≤ x)) a b
 | .Is=>bn (xR b) fun uu=>some (isNone a)
 | .IsNot=>bn (xR b) fun uu=>some (!isNone a)
 | .In=>inV a b H
 | .NotIn=>bn (inV a b H) fun x=>some (!x)
noncomputable def zlg (n : Nat) (i : Int) : Option Nat:=gr (decide (0 ≤ i ∧ i < n ∧ n ≤ lim))<|some i.toNat
noncomputable def xj (l : List PV) (i : PV) : Option PV:=bn (yt i) fun k=>bn (zlg l.length k) fun j=>l[j]?
noncomputable def atO (o : MObj) (i : PV) : Option PV:=match o with
 | .list l=>xj l i
 | .dict es=>bn (zf9 i) fun k=>dictGet k es
 | _=>none
noncomputable def qr (o i : PV) (H : Hp) : Option PV:=match o with
 | .tup l=>xj l i
 | .lst l=>xj l i
 | .bytes b=>bn (yt i) fun k=>bn (zlg b.length k) fun j=>bn b[j]? fun x=>some (.int x.toNat)
 | .loc a=>bn H[a]? fun o=>atO o i
 | _=>none
noncomputable def yx {α : Type} (l : List α) (lo hi st : Option Int) : List α :=
 (sliceRange (sliceBounds lo hi st l.length).1 (sliceBounds lo hi st l.length).2.1 (sliceBounds lo hi st l.length).2.2).filterMap (l[·]?)
noncomputable def zb7 : PV → Option (Option Int)
 | .none=>some none
 | .int i=>some (some i)
 | _=>none
noncomputable def wQ (o lo hi st : PV) (H : Hp) : Option PV:=match o with
 | .lst l=>bn (zb7 lo) fun a=>bn (zb7 hi) fun b=>bn (zb7 st) fun c=>gr (decide (c ≠ some 0 ∧ l.length ≤ lim))<|some (.lst (yx l a b c))
 | .loc i=>bn (zde H i) fun l=>bn (yt lo) fun a=>bn (yt hi) fun b=>bn (xR st) fun uu=>gr (decide (0 ≤ a ∧ a ≤ b ∧ b ≤ l.length ∧ l.length ≤ 1000))<|some (.barr ((l.take b.toNat).drop a.toNat))
 | _=>none
noncomputable def setO (o : MObj) (i v : PV) : Option MObj:=match o with
 | .list l=>bn (yt i) fun k=>bn (zlg l.length k) fun j=>some (.list (l.set j v))
 | .dict es=>bn (zf9 i) fun k=>gr (decide (es.length < 1000))<|some (.dict (dictSet k v es))
 | _=>none
noncomputable def wU (o i v : PV) (H : Hp) : Option Hp:=bn (wx o) fun a=>bn H[a]? fun ob=>bn (setO ob i v) fun ob'=>some (H.set a ob')
noncomputable def zsz (o lo hi v : PV) (H : Hp) : Option Hp:=bn (wx o) fun i=>bn (yt lo) fun a=>bn (yt hi) fun b=>bn (zkd v) fun f=>bn (zde H i) fun l =>
 gr (decide (0 ≤ a ∧ a ≤ b ∧ b ≤ l.length ∧ (f.length : Int) = b - a ∧ l.length ≤ 1000))<|some (H.set i (.barr (l.take a.toNat ++ f ++ l.drop b.toNat)))
noncomputable def zoa (n : Nat) : List Nat → Bool
 | []=>false
 | x :: r=>Nat.beq x n || zoa n r
noncomputable def anyO {α : Type} (o : Option α) (f : α → Bool) : Bool:=match o with
 | some a=>f a
 | none=>false
theorem zma {α : Type} {o : Option α} {f : α → Bool} {C : Prop} (h : anyO o f = true) (k : ∀ a,o = some a → f a = true → C) : C:=match o,h,k with
 | some a,h,k=>k a rfl h
 | none,h,_=>absurd h Bool.false_ne_true
noncomputable def xZ (P : Prg) (c : Addr) (n : Nat) : Bool:=anyO (P.cls c) fun cd=>zoa n cd.attrs
noncomputable def getA (P : Prg) (o : PV) (n : Nat) (H : Hp) : Option PV:=bn (wx o) fun i=>bn (qM? H i) fun c=>gr (xZ P c.1 n)<|bn (znl H c.2) fun es=>dictGet n es
noncomputable def setA (P : Prg) (o : PV) (n : Nat) (v : PV) (H : Hp) : Option Hp:=bn (wx o) fun i=>bn (qM? H i) fun c=>gr (xZ P c.1 n)<|bn (znl H c.2) fun es=>gr (decide (es.length < 1000))<|some (H.set c.2 (.ns (dictSet n v es)))
noncomputable def one {α : Type} : List α → Option α
 | []=>none
 | a :: r=>match r with
  | []=>some a
  | _ :: _=>none
noncomputable def w8 {α : Type} : List α → Option (α × α)
 | []=>none
 | a :: r=>bn (one r) fun b=>some (a,b)
theorem yE {α : Type} : ∀ {l : List α} {a : α},one l = some a → l = [a]
 | [_],_,h=>congrArg ([·]) (Option.some.inj h)
theorem yS {α : Type} : ∀ {l : List α} {p : α × α},w8 l = some p → l = [p.1,p.2]
 | _ :: _,_,h=>zq h fun uu e h=>yE e ▸ Option.some.inj h ▸ rfl
noncomputable def wu (t : List Nat) (v : PV) (L : Loc) : Option Loc:=match t with
 | []=>none
 | x :: r=>match r with
  | []=>some (z5 L x v)
  | _ :: _=>bn (one r) fun y=>bn (zkc v) fun l=>bn (w8 l) fun p=>some (z5 (z5 L x p.1) y p.2)
set_option genCtorIdx false in
inductive Src where
 | vals (l : List PV) | trk (i : Nat)
theorem jO {a b : List PV} (h : Src.vals a = Src.vals b) : a = b:=Src.noConfusion h id
theorem wa {a b : Nat} (h : Src.trk a = Src.trk b) : a = b:=Src.noConfusion h id
noncomputable def z7 (n : Nat) (f : Nat → Int) : List PV:=(List.range n).map fun i=>.int (f i)
noncomputable def jF : Nat → List PV → List PV
 | _,[]=>[]
 | i,x :: r=>.tup [.int i,x] :: jF (i + 1) r
noncomputable def zbn : List PV → List PV → List PV
 | x :: r,y :: t=>.tup [x,y] :: zbn r t
 | _,_=>[]
noncomputable def isBi (k : Nat) : PV → Bool
 | .bi j=>Nat.beq j k
 | _=>false
noncomputable def zbt (k : Nat) : List PV → Option (List PV)
 | []=>none
 | f :: r=>gr (isBi k f) (some r)
noncomputable def zb3 : List PV → Option (List PV)
 | []=>none
 | a :: r=>bn (yt a) fun a=>match r with
  | []=>gr (decide (a ≤ 1000 ∧ -1000 ≤ a))<|some (z7 a.toNat fun i=>(i : Int))
  | _ :: _=>bn (w8 r) fun p=>bn (yt p.1) fun b=>bn (yt p.2) fun c=>gr (decide (c = -1 ∧ b = -1 ∧ a ≤ 1000 ∧ -1 ≤ a))<|some (z7 (a + 1).toNat fun i=>a - (i : Int))
noncomputable def srcV (v : PV) (H : Hp) : Option Src:=match v with
 | .lst l=>some (.vals l)
 | .tup l=>some (.vals l)
 | .bytes b=>some (.vals (b.map fun x=>.int x.toNat))
 | .loc i=>bn (listAt H i) fun uu=>some (.trk i)
 | _=>none
noncomputable def y8 (k : Nat) (vs : List PV) (H : Hp) : Option Src:=match k with
 | 0=>bn (one vs) fun v=>srcV v H
 | 1=>bn (zbt 8 vs) fun r=>bn (zb3 r) fun l=>some (.vals l)
 | 2=>bn (zbt 9 vs) fun r=>bn (one r) fun v=>bn (zbl v) fun l=>some (.vals (jF 0 l))
 | 3=>bn (zbt 10 vs) fun r=>bn (w8 r) fun p=>bn (zbl p.1) fun a=>bn (zbl p.2) fun b=>some (.vals (zbn a b))
 | _=>none
noncomputable def zgj : List PV → Int → Option Int
 | [],a=>some a
 | x :: r,a=>bn (yt x) fun i=>zgj r (a + i)
noncomputable def xI : List PV → Option (List UInt8)
 | []=>some []
 | x :: r=>bn (yt x) fun i=>gr (decide (0 ≤ i ∧ i < 256))<|bn (xI r) fun b=>some (UInt8.ofNat i.toNat :: b)
noncomputable def yo (x : Int) : List Int → List Int
 | []=>[x]
 | y :: r=>match decide (x ≤ y) with
  | true=>x :: y :: r
  | false=>y :: yo x r
noncomputable def zcj : List PV → Option (List Int)
 | []=>some []
 | x :: r=>bn (yt x) fun i=>bn (zcj r) fun l=>some (i :: l)
noncomputable def qV : Nat → Value
 | 1=>.builtin "len"
 | 2=>.builtin "sum"
 | 3=>.builtin "sorted"
 | 4=>.type "bytes"
 | 5=>.type "bytearray"
 | 6=>.type "tuple"
 | 7=>.type "str"
 | 8=>.type "range"
 | 9=>.type "enumerate"
 | 10=>.type "zip"
 | _=>.bool true
noncomputable def lenO : MObj → Option Nat
 | .list l=>some l.length
 | .barr l=>gr (decide (l.length ≤ 1000))<|some l.length
 | _=>none
noncomputable def lenV (v : PV) (H : Hp) : Option Nat:=match v with
 | .lst l=>some l.length
 | .tup l=>some l.length
 | .bytes l=>some l.length
 | .loc i=>bn H[i]? lenO
 | _=>none
noncomputable def zve (v : PV) : Option (List UInt8):=match v with
 | .lst l=>bn (xI l) fun b=>gr (decide (b.length ≤ 1000))<|some b
 | .bytes b=>some b
 | .barr b=>gr (decide (b.length ≤ 1000))<|some b
 | _=>none
noncomputable def barrO (v : PV) : Option (List UInt8):=match v with
 | .bytes b=>gr (decide (b.length ≤ 1000))<|some b
 | .int k=>gr (decide (0 ≤ k ∧ k ≤ 1000))<|some (List.replicate k.toNat 0)
 | _=>none
noncomputable def zfn (P : Prg) (f : Nat) (v : PV) (H : Hp) : Option (PV × Hp):=match f with
 | 1=>bn (lenV v H) fun n=>gr (decide (n ≤ lim))<|some (.int n,H)
 | 2=>bn (zbl v) fun l=>bn (zgj l 0) fun z=>some (.int z,H)
 | 3=>bn (wx v) fun i=>bn (listAt H i) fun l=>bn (zcj l) fun xs=>gr (decide (l.length ≤ 60))<|some (.lst ((xs.foldr yo []).map .int),H)
 | 4=>bn (zve v) fun b=>some (.bytes b,H)
 | 5=>bn (barrO v) fun b=>some (.loc H.length,H ++ [.barr b])
 | 6=>bn (wx v) fun i=>bn (listAt H i) fun l=>gr (decide (l.length ≤ 1000))<|some (.tup l,H)
 | 7=>bn (yt v) fun i=>bn (P.ofInt i) fun s=>some (.str s,H)
 | _=>none
noncomputable def zi9 : List PV → Bool
 | []=>true
 | x :: r=>match x with
  | .str _=>zi9 r
  | .int _=>zi9 r
  | _=>false
noncomputable def nAppend : Nat:=0
noncomputable def nInsert : Nat:=1
noncomputable def nPop : Nat:=2
noncomputable def nGet : Nat:=3
noncomputable def dGet (es : List (Nat × PV)) (v : PV) : Option PV:=match v with
 | .str k=>some ((dictGet k es).getD .none)
 | .tup l=>gr (zi9 l)<|some .none
 | _=>none
noncomputable def methL (n i : Nat) (l : List PV) (vs : List PV) (H : Hp) : Option (PV × Hp):=match n with
 | 0=>bn (one vs) fun v=>gr (decide (l.length ≤ lim))<|some (.none,H.set i (.list (l ++ [v])))
 | 1=>bn (w8 vs) fun p=>bn (yt p.1) fun k=>gr (decide (0 ≤ k ∧ k ≤ l.length ∧ l.length ≤ lim))<|some (.none,H.set i (.list (l.take k.toNat ++ p.2 :: l.drop k.toNat)))
 | 2=>bn (one vs) fun v=>bn (yt v) fun k=>gr (decide (0 ≤ k ∧ k < l.length ∧ l.length ≤ lim))<|bn l[k.toNat]? fun v=>some (v,H.set i (.list (l.eraseIdx k.toNat)))
 | _=>none
noncomputable def zer (n i : Nat) (o : MObj) (vs : List PV) (H : Hp) : Option (PV × Hp):=match o with
 | .list l=>methL n i l vs H
 | .dict es=>gr (Nat.beq n 3)<|bn (one vs) fun v=>bn (dGet es v) fun r=>some (r,H)
 | _=>none
noncomputable def jv : MObj → Nat
 | .list _=>0
 | .dict _=>1
 | .ns _=>2
 | .barr _=>3
 | .inst _ _=>4
 | .hid=>5
noncomputable def noL (t : List Nat) (L : Loc) : Loc:=fun y=>match t.contains y with
 | true=>none
 | false=>L y
noncomputable def vy : List Nat → List PV → Loc → Option Loc
 | [],[],L=>some L
 | x :: r,v :: t,L=>bn (vy r t L) fun L'=>some (z5 L' x v)
 | _,_,_=>none
noncomputable def zft (f : FnD) (vs : List PV) : Option Loc :=
 vy f.params (vs ++ f.dflts.drop (f.dflts.length + vs.length - f.params.length)) (fun uu=>none)
noncomputable def kG {α : Type} (k : Nat) : List (Nat × α) → Option α
 | []=>none
 | x :: r=>cond (Nat.beq x.1 k) (some x.2) (kG k r)
noncomputable def zcg : List Nat → List PV → List (Nat × PV) → Option (List (Nat × PV))
 | [],[],es=>some es
 | k :: r,v :: t,es=>zcg r t (dictSet k v es)
 | _,_,_=>none
noncomputable abbrev Rs:=Option (Fl × Loc × Hp)
noncomputable def pr3 {β : Type} (f : Fl → Loc → Hp → Option β) (r : Fl × Loc × Hp) : Option β:=match r with | (a,L,H)=>f a L H
noncomputable def bn3 {β : Type} (o : Rs) (f : Fl → Loc → Hp → Option β) : Option β:=bn o (pr3 f)
theorem zp2 {β : Type} {o : Rs} {f : Fl → Loc → Hp → Option β} {r : β} {C : Prop} (h : bn3 o f = some r) (k : ∀ a L H,o = some (a,L,H) → f a L H = some r → C) : C:=zq h fun a=>k a.1 a.2.1 a.2.2
theorem zfs {β : Type} {o : Rs} {f : Fl → Loc → Hp → Option β} {r : β} {C : Prop} (k : ∀ a L H,o = some (a,L,H) → f a L H = some r → C) (h : bn3 o f = some r) : C:=zp2 h k
theorem zdd {β : Type} {o : Rs} {f : Fl → Loc → Hp → Option β} {a : Fl} {L : Loc} {H : Hp} (h : o = some (a,L,H)) : bn3 o f = f a L H:=h ▸ rfl
theorem wP {a c : Fl} {L M : Loc} {H G : Hp} (h : some (a,L,H) = some (c,M,G)) : a = c ∧ L = M ∧ H = G:=⟨(z6 h).1,Prod.mk.inj (z6 h).2⟩
noncomputable def zoe (f : Fl) (L : Loc) (H : Hp) (k : Rs) : Rs:=match f with
 | .ret v=>some (.ret v,L,H)
 | .next=>k
 | .cont=>k
noncomputable def kQ (body : Loc → Hp → Rs) (t : List Nat) : List PV → Loc → Hp → Rs
 | [],L,H=>some (.next,L,H)
 | v :: r,L,H=>bn (wu t v L) fun L1=>bn3 (body L1 H) fun f L2 H2=>zoe f L2 H2 (kQ body t r L2 H2)
noncomputable def zco (body : Loc → Hp → Rs) (t : List Nat) (l : Nat) : Nat → Nat → Loc → Hp → Rs
 | 0,_,_,_=>none
 | n + 1,i,L,H=>bn (listAt H l) fun xs=>match xs[i]? with
  | some v=>bn (wu t v L) fun L1=>bn3 (body L1 H) fun f L2 H2=>zoe f L2 H2 (zco body t l n (i + 1) L2 H2)
  | none=>some (.next,L,H)
noncomputable def xV (c : Loc → Hp → Option (Bool × Hp)) (body : Loc → Hp → Rs) : Nat → Loc → Hp → Rs
 | 0,_,_=>none
 | n + 1,L,H=>bn2 (c L H) fun b H1=>cond b (bn3 (body L H1) fun f L2 H2=>zoe f L2 H2 (xV c body n L2 H2)) (some (.next,L,H1))
noncomputable def jz (k : Nat) : List MObj:=match k with
 | 3=>[.hid,.hid,.hid,.hid]
 | _=>[.hid,.hid]
noncomputable def hidO : MObj → Bool
 | .hid=>true
 | _=>false
noncomputable def wo (H : Hp) (i : Nat) : Option Unit:=bn H[i]? fun o=>gr (hidO o) (some ())
theorem zou {o : MObj} (h : hidO o = true) : o = .hid:=by
 cases o with
 | hid=>rfl
 | _=>exact absurd h Bool.false_ne_true
theorem q7 {H : Hp} {i : Nat} {u : Unit} (h : wo H i = some u) : H[i]? = some .hid:=zq h fun o e h=>yp h fun q uu=>(zou q) ▸ e
noncomputable def za4 (h0 k : Nat) (H : Hp) : Option Unit:=bn (wo H h0) fun uu=>bn (wo H (h0 + 1)) fun uu=>match k with
 | 3=>bn (wo H (h0 + 2)) fun uu=>wo H (h0 + 3)
 | _=>some ()
noncomputable def vq (elt : Loc → Hp → Option (PV × Hp)) (cnd : Loc → Hp → Option (Bool × Hp)) (t : List Nat) (h0 k : Nat) : List PV → Loc → Hp → List PV → Option (PV × Hp)
 | [],_,H,acc=>gr (decide (H.length = h0 + (jz k).length ∧ acc.length ≤ lim))<|some (.lst acc,H.take h0)
 | v :: r,L,H,acc=>bn (wu t v L) fun L1=>bn2 (cnd L1 H) fun b H1=>cond b
   (bn2 (elt L1 H1) fun x H2=>bn (za4 h0 k H2) fun uu=>gr (decide (acc.length ≤ lim))<|vq elt cnd t h0 k r L1 H2 (acc ++ [x]))
   (bn (za4 h0 k H1) fun uu=>vq elt cnd t h0 k r L1 H1 acc)
noncomputable def vp (f : ME → Loc → Hp → Option (Bool × Hp)) (ifs : List ME) (L : Loc) (H : Hp) : Option (Bool × Hp):=match ifs with
 | []=>some (true,H)
 | c :: r=>match r with
  | []=>f c L H
  | _ :: _=>none
noncomputable def qK : Nat:=2000
structure Itp where
 e : ME → Loc → Hp → Option (PV × Hp)
 es : List ME → Loc → Hp → Option (List PV × Hp)
 all : Bool → List ME → Loc → Hp → Option (PV × Hp)
 c : ME → Loc → Hp → Option (Bool × Hp)
 cs : Bool → List ME → Loc → Hp → Option (Bool × Hp)
 call : PV → List PV → Hp → Option (PV × Hp)
 call2 : PV → List PV → Hp → Option (PV × Hp)
 call1 : PV → List PV → Hp → Option (PV × Hp)
 asg : MT → PV → Loc → Hp → Option (Loc × Hp)
 asgs : List MT → List PV → Loc → Hp → Option (Loc × Hp)
 x : MS → Loc → Hp → Rs
 xs : List MS → Loc → Hp → Rs
noncomputable def lstN (l : List ME) (vs : List PV) (H : Hp) : PV × Hp:=match l with
 | []=>(.loc H.length,H ++ [.list vs])
 | _ :: r=>match r with
  | []=>(.loc H.length,H ++ [.list vs])
  | _ :: _=>(.lst vs,H)
noncomputable def ztn : Src → Option (List PV)
 | .vals l=>some l
 | .trk _=>none
noncomputable def zs6 {α : Type} (o : Option α) : Bool:=match o with
 | none=>true
 | some _=>false
noncomputable def stE (P : Prg) (I : Itp) (e : ME) (L : Loc) (H : Hp) : Option (PV × Hp):=match e with
 | .cnone=>some (.none,H)
 | .cbool b=>some (.bool b,H)
 | .cint i=>some (.int i,H)
 | .cstr s=>some (.str s,H)
 | .cbytes b=>some (.bytes b,H)
 | .loc x=>bn (L x) fun v=>some (v,H)
 | .glob x=>bn (P.glob x) fun v=>some (v,H)
 | .bin op a b=>bn2 (I.e a L H) fun x H1=>bn2 (I.e b L H1) fun y H2=>kA P op x y H2
 | .not a=>bnB (I.e a L H) fun b H1=>some (.bool (!b),H1)
 | .neg a=>bnI (I.e a L H) fun i H1=>some (.int (-i),H1)
 | .bool isAnd l=>I.all isAnd l L H
 | .ite c a b=>bn2 (I.c c L H) fun t H1=>cond t (I.e a L H1) (I.e b L H1)
 | .cmp op a b=>bn2 (I.e a L H) fun x H1=>bn2 (I.e b L H1) fun y H2=>bn (jd op x y H2) fun r=>some (.bool r,H2)
 | .cmp2 op1 op2 a b c=>bn2 (I.e a L H) fun x H1=>bn2 (I.e b L H1) fun y H2=>bn (jd op1 x y H2) fun t=>cond t
   (bn2 (I.e c L H2) fun z H3=>bn (jd op2 y z H3) fun r=>some (.bool r,H3)) (some (.bool false,H2))
 | .call f args=>bn2 (I.e f L H) fun fv H1=>bn2 (I.es args L H1) fun vs H2=>I.call fv vs H2
 | .meth o m args=>bnL (I.e o L H) fun i H1=>bn H1[i]? fun o1=>cond (Nat.beq (jv o1) 4)
   (bn (zhs o1) fun c=>bn (P.cls c.1) fun cd=>bn (kG m cd.meths) fun fa=>bn (znl H1 c.2) fun es=>gr (zs6 (dictGet m es))<|bn2 (I.es args L H1) fun vs H2=>I.call (.fn fa) (.loc i :: vs) H2)
   (bn2 (I.es args L H1) fun vs H2=>bn H2[i]? fun o2=>gr (Nat.beq (jv o1) (jv o2))<|zer m i o2 vs H2)
 | .attr o m=>bn2 (I.e o L H) fun v H1=>bn (getA P v m H1) fun r=>some (r,H1)
 | .sub o i=>bn2 (I.e o L H) fun v H1=>bn2 (I.e i L H1) fun k H2=>bn (qr v k H2) fun r=>some (r,H2)
 | .slice o lo hi st=>bn2 (I.e o L H) fun v H1=>bn2 (I.e lo L H1) fun a H2=>bn2 (I.e hi L H2) fun b H3=>bn2 (I.e st L H3) fun c H4=>bn (wQ v a b c H4) fun r=>some (r,H4)
 | .tup l=>bn2 (I.es l L H) fun vs H1=>some (.tup vs,H1)
 | .lst l=>bn2 (I.es l L H) fun vs H1=>some (lstN l vs H1)
 | .dict ks vs=>bn2 (I.es vs L H) fun vv H2=>bn (zcg ks vv []) fun es=>some (.loc H2.length,H2 ++ [.dict es])
 | .comp elt t k its ifs=>bn2 (I.es its L H) fun vs H1=>bn (y8 k vs H1) fun sr=>bn (ztn sr) fun l=>vq (I.e elt) (vp I.c ifs) t H1.length k l (noL t L) (H1 ++ jz k) []
noncomputable def stEs (I : Itp) (l : List ME) (L : Loc) (H : Hp) : Option (List PV × Hp):=match l with
 | []=>some ([],H)
 | e :: r=>bn2 (I.e e L H) fun v H1=>bn2 (I.es r L H1) fun vs H2=>some (v :: vs,H2)
noncomputable def stAll (I : Itp) (isAnd : Bool) (l : List ME) (L : Loc) (H : Hp) : Option (PV × Hp):=match l with
 | []=>none
 | e :: r=>bnB (I.e e L H) fun b H1=>match r with
  | []=>some (.bool b,H1)
  | _ :: _=>cond (b == isAnd) (I.all isAnd r L H1) (some (.bool b,H1))
noncomputable def stC (I : Itp) (e : ME) (L : Loc) (H : Hp) : Option (Bool × Hp):=match e with
 | .not a=>bn2 (I.c a L H) fun b H1=>some (!b,H1)
 | .bool isAnd l=>I.cs isAnd l L H
 | .ite _ _ _=>none
 | e=>bnB (I.e e L H) fun b H1=>some (b,H1)
noncomputable def stCs (I : Itp) (isAnd : Bool) (l : List ME) (L : Loc) (H : Hp) : Option (Bool × Hp):=match l with
 | []=>some (isAnd,H)
 | e :: r=>bn2 (I.c e L H) fun b H1=>cond (b == isAnd) (I.cs isAnd r L H1) (some (b,H1))
noncomputable def retF (f : Fl) (H : Hp) : Option (PV × Hp):=match f with
 | .ret r=>some (r,H)
 | .next=>some (.none,H)
 | .cont=>none
noncomputable def kv {α β : Type} (o : Option α) (f : α → β) (d : β) : β:=match o with
 | some a=>f a
 | none=>d
theorem vM {α β : Type} {o : Option α} {f : α → Option β} {d : Option β} {r : β} {C : Prop} (h : kv o f d = some r) (k1 : ∀ a,o = some a → f a = some r → C) (k2 : o = none → d = some r → C) : C:=match o,h,k1,k2 with
 | some a,h,k,_=>k a rfl h
 | none,h,_,k=>k rfl h
theorem kN {α β : Type} {o : Option α} {f : α → Option β} {d : Option β} {r : β} {C : Prop} (k1 : ∀ a,o = some a → f a = some r → C) (k2 : o = none → d = some r → C) (h : kv o f d = some r) : C:=vM h k1 k2
noncomputable def ztu (P : Prg) (I : Itp) (f : PV) (vs : List PV) (H : Hp) : Option (PV × Hp):=match f with
 | .fn a=>kv (P.fn a) (fun fd=>bn (zft fd vs) fun L=>bn3 (I.xs fd.body L H) fun f uu H1=>retF f H1)
   (bn (P.cls a) fun cd=>bn2 (I.call (.fn cd.init) (.loc (H.length + 1) :: vs) (H ++ [.ns [],.inst a H.length])) fun v H1=>bn (xR v) fun uu=>some (.loc (H.length + 1),H1))
 | .bi k=>bn (one vs) fun v=>zfn P k v H
 | _=>none
noncomputable def stAsg (P : Prg) (I : Itp) (t : MT) (v : PV) (L : Loc) (H : Hp) : Option (Loc × Hp):=match t with
 | .name x=>some (z5 L x v,H)
 | .attr o m=>bn2 (I.e o L H) fun ov H1=>bn (setA P ov m v H1) fun H2=>some (L,H2)
 | .sub o i=>bn2 (I.e o L H) fun ov H1=>bn2 (I.e i L H1) fun iv H2=>bn (wU ov iv v H2) fun H3=>some (L,H3)
 | .slice o lo hi=>bn2 (I.e o L H) fun ov H1=>bn2 (I.e lo L H1) fun a H2=>bn2 (I.e hi L H2) fun b H3=>bn (zsz ov a b v H3) fun H4=>some (L,H4)
 | .tup ts=>bn (zkc v) fun vs=>I.asgs ts vs L H
noncomputable def ztv (I : Itp) (ts : List MT) (vs : List PV) (L : Loc) (H : Hp) : Option (Loc × Hp):=match ts with
 | []=>match vs with
  | []=>some (L,H)
  | _ :: _=>none
 | t :: r=>match vs with
  | []=>none
  | v :: q=>bn2 (I.asg t v L H) fun L1 H1=>I.asgs r q L1 H1
noncomputable def stX (P : Prg) (I : Itp) (s : MS) (L : Loc) (H : Hp) : Rs:=match s with
 | .expr e=>bn2 (I.e e L H) fun uu H1=>some (.next,L,H1)
 | .assign t e=>bn2 (I.e e L H) fun v H1=>bn2 (I.asg t v L H1) fun L1 H2=>some (.next,L1,H2)
 | .swap xs e=>bnT (I.e e L H) fun vs H1=>bn (vy xs vs L) fun L1=>some (.next,L1,H1)
 | .aug x e=>bn (L x) fun o=>bn2 (I.e e L H) fun v H1=>bn (yt o) fun a=>bn (yt v) fun b=>some (.next,z5 L x (.int (a + b)),H1)
 | .ret e=>bn2 (I.e e L H) fun v H1=>some (.ret v,L,H1)
 | .pass=>some (.next,L,H)
 | .cont=>some (.cont,L,H)
 | .ifs c a b=>bn2 (I.c c L H) fun t H1=>cond t (I.xs a L H1) (I.xs b L H1)
 | .whl c b=>xV (I.c c) (I.xs b) qK L H
 | .for t k its b=>bn2 (I.es its L H) fun vs H1=>bn (y8 k vs H1) fun sr=>match sr with
  | .vals l=>kQ (I.xs b) t l L H1
  | .trk i=>zco (I.xs b) t i qK 0 L H1
 | .stuck=>none
noncomputable def stXs (I : Itp) (l : List MS) (L : Loc) (H : Hp) : Rs:=match l with
 | []=>some (.next,L,H)
 | s :: r=>bn3 (I.x s L H) fun f L1 H1=>match f with
  | .next=>I.xs r L1 H1
  | .cont=>some (.cont,L1,H1)
  | .ret v=>some (.ret v,L1,H1)
noncomputable def itp (P : Prg) : Nat → Itp
 | 0=>⟨fun uu uu uu=>none,fun uu uu uu=>none,fun uu uu uu uu=>none,fun uu uu uu=>none,fun uu uu uu uu=>none,fun uu uu uu=>none,fun uu uu uu=>none,fun uu uu uu=>none,fun uu uu uu uu=>none,fun uu uu uu uu=>none,fun uu uu uu=>none,fun uu uu uu=>none⟩
 | n + 1=>⟨stE P (itp P n),stEs (itp P n),stAll (itp P n),stC (itp P n),stCs (itp P n),(itp P n).call2,(itp P n).call1,ztu P (itp P n),stAsg P (itp P n),ztv (itp P n),stX P (itp P n),stXs (itp P n)⟩
noncomputable def evE (P : Prg) (n : Nat) : ME → Loc → Hp → Option (PV × Hp):=(itp P n).e
noncomputable def yO (P : Prg) (n : Nat) : List ME → Loc → Hp → Option (List PV × Hp):=(itp P n).es
noncomputable def evAll (P : Prg) (n : Nat) : Bool → List ME → Loc → Hp → Option (PV × Hp):=(itp P n).all
noncomputable def evC (P : Prg) (n : Nat) : ME → Loc → Hp → Option (Bool × Hp):=(itp P n).c
noncomputable def zhz (P : Prg) (n : Nat) : Bool → List ME → Loc → Hp → Option (Bool × Hp):=(itp P n).cs
noncomputable def zs (P : Prg) (n : Nat) : PV → List PV → Hp → Option (PV × Hp):=(itp P n).call
noncomputable def vA (P : Prg) (n : Nat) : MT → PV → Loc → Hp → Option (Loc × Hp):=(itp P n).asg
noncomputable def jV (P : Prg) (n : Nat) : List MT → List PV → Loc → Hp → Option (Loc × Hp):=(itp P n).asgs
noncomputable def exec (P : Prg) (n : Nat) : MS → Loc → Hp → Rs:=(itp P n).x
noncomputable def execs (P : Prg) (n : Nat) : List MS → Loc → Hp → Rs:=(itp P n).xs
end Mine
namespace Mine
open PySem PySem.W PyProof.Rows
noncomputable def zcf : List Str:=[Str.ofString "append",Str.ofString "insert",Str.ofString "pop",Str.ofString "get",Str.ofString "_wall",Str.ofString "__name__",Str.ofString "siftwall.addresses",Str.ofString "mask_of",Str.ofString "length",Str.ofString "bits",Str.ofString "span_prefix",Str.ofString "low",Str.ofString "high",Str.ofString "size",Str.ofString "siftwall.faults",Str.ofString "WallFault",Str.ofString "Exception",Str.ofString "__init__",Str.ofString "self",Str.ofString "why",Str.ofString "at",Str.ofString "Misused",Str.ofString "Refused",Str.ofString "code",Str.ofString "LeftOut",Str.ofString "words_of",Str.ofString "refused",Str.ofString "siftwall.fields",Str.ofString "needs_of",Str.ofString "proto",Str.ofString "needs",Str.ofString "ether",Str.ofString "th",Str.ofString "vlan",Str.ofString "arp",Str.ofString "ip",Str.ofString "ip6",Str.ofString "tcp",Str.ofString "udp",Str.ofString "icmp",Str.ofString "icmpv6",Str.ofString "ether type",Str.ofString "meta protocol",Str.ofString "meta nfproto",Str.ofString "meta l4proto",Str.ofString "needs_in",Str.ofString "family",Str.ofString "left",Str.ofString "need",Str.ofString "tuple",Str.ofString "field_named",Str.ofString "fields",Str.ofString "name",Str.ofString "is_worked",Str.ofString "e",Str.ofString "mask",Str.ofString "or",Str.ofString "xor",Str.ofString "shl",Str.ofString "shr",Str.ofString "field_under",Str.ofString "what",Str.ofString "hash",Str.ofString "field",Str.ofString "size_of",Str.ofString "above",Str.ofString "payload",Str.ofString "bits_of_e",Str.ofString "order_of",Str.ofString "order",Str.ofString "host",Str.ofString "parts_of",Str.ofString "concat",Str.ofString "siftwall.octets",Str.ofString "number_of",Str.ofString "octets",Str.ofString "number",Str.ofString "octet",Str.ofString "octets_of",Str.ofString "bytes",Str.ofString "place",Str.ofString "range",Str.ofString "turned",Str.ofString "last",Str.ofString "len",Str.ofString "host_octets",Str.ofString "big",Str.ofString "little",Str.ofString "host_number",Str.ofString "host_order",Str.ofString "pad4",Str.ofString "siftwall.rowexpr",Str.ofString "Rowing",Str.ofString "prefix",Str.ofString "rows",Str.ofString "sets",Str.ofString "known",Str.ofString "makers",Str.ofString "flags",Str.ofString "slots_of",Str.ofString "const",Str.ofString "rowing",Str.ofString "n",Str.ofString "turn_row",Str.ofString "reg",Str.ofString "many",Str.ofString "byteorder",Str.ofString "field_row",Str.ofString "kind",Str.ofString "type_name",Str.ofString "about",Str.ofString "meta",Str.ofString "ct",Str.ofString "put_needs",Str.ofString "cmp",Str.ofString "==",Str.ofString "cut_row",Str.ofString "below",Str.ofString "bitwise",Str.ofString "shift",Str.ofString "right",Str.ofString "load_field",Str.ofString "bits_row",Str.ofString "tag",Str.ofString "full",Str.ofString "turn",Str.ofString "keep",Str.ofString "shift_rows",Str.ofString "side",Str.ofString "is_host",Str.ofString "load",Str.ofString "load_hash",Str.ofString "load_key",Str.ofString "is_big",Str.ofString "layout",Str.ofString "one",Str.ofString "siftwall.rowrule",Str.ofString "put_same",Str.ofString "statement",Str.ofString "maker_of",Str.ofString "match_number",Str.ofString "op",Str.ofString "!=",Str.ofString "any",Str.ofString "none",Str.ofString "match_span",Str.ofString "make_match",Str.ofString "set",Str.ofString "ref",Str.ofString "make_in",Str.ofString "match in",Str.ofString "span",Str.ofString "siftwall.packets",Str.ofString "new_meta",Str.ofString "out",Str.ofString "mark",Str.ofString "priority",Str.ofString "iif",Str.ofString "oif",Str.ofString "iifname",Str.ofString "oifname",Str.ofString "pkttype",Str.ofString "iiftype",Str.ofString "oiftype",Str.ofString "Packet",Str.ofString "data",Str.ofString "link",Str.ofString "bytearray",Str.ofString "l4",Str.ofString "off",Str.ofString "family_of",Str.ofString "packet",Str.ofString "base_of",Str.ofString "base",Str.ofString "network",Str.ofString "transport",Str.ofString "part",Str.ofString "found",Str.ofString "begin",Str.ofString "siftwall.walk",Str.ofString "Scene",Str.ofString "now",Str.ofString "hook",Str.ofString "input",Str.ofString "talk",Str.ofString "state",Str.ofString "is_reply",Str.ofString "talks",Str.ofString "objects",Str.ofString "readers",Str.ofString "doers",Str.ofString "ops",Str.ofString "tools",Str.ofString "log",Str.ofString "replies",Str.ofString "steps",Str.ofString "homes",Str.ofString "named_set",Str.ofString "compared",Str.ofString "a",Str.ofString "b",Str.ofString "<",Str.ofString ">=",Str.ofString ">",Str.ofString "<=",Str.ofString "meta_value",Str.ofString "scene",Str.ofString "key",Str.ofString "l4proto",Str.ofString "nfproto",Str.ofString "protocol",Str.ofString "siftwall.machine",Str.ofString "Regs",Str.ofString "put",Str.ofString "filled",Str.ofString "run_rows",Str.ofString "rule",Str.ofString "regs",Str.ofString "row",Str.ofString "verdict",Str.ofString "continue",Str.ofString "key_of_layout",Str.ofString "numbers",Str.ofString "go_on",Str.ofString "is_met",Str.ofString "break",Str.ofString "",Str.ofString "op_verdict",Str.ofString "op_cmp",Str.ofString "value",Str.ofString "op_range",Str.ofString "is_in",Str.ofString "op_bitwise",Str.ofString "op_shift",Str.ofString "op_byteorder",Str.ofString "put_number",Str.ofString "op_payload",Str.ofString "op_meta",Str.ofString "element_of",Str.ofString "body",Str.ofString "find",Str.ofString "op_lookup",Str.ofString "element",Str.ofString "op_vmap",Str.ofString "siftwall.stores",Str.ofString "Element",Str.ofString "box",Str.ofString "until",Str.ofString "timeout",Str.ofString "comment",Str.ofString "cells",Str.ofString "is_live",Str.ofString "place_in",Str.ofString "items",Str.ofString "middle",Str.ofString "place_of_box",Str.ofString "SpanStore",Str.ofString "drop",Str.ofString "elements",Str.ofString "list",Str.ofString "clear",Str.ofString "law_pq1105_01",Str.ofString "_law_draw",Str.ofString "pen",Str.ofString "told",Str.ofString "drawn",Str.ofString "_law_told",Str.ofString "_law_fields",Str.ofString "which",Str.ofString "first",Str.ofString "integer",Str.ofString "x",Str.ofString "_law_asked",Str.ofString "facts",Str.ofString "total",Str.ofString "whole",Str.ofString "sum",Str.ofString "k",Str.ofString "enumerate",Str.ofString "way",Str.ofString "by",Str.ofString "_law_spans",Str.ofString "top",Str.ofString "cuts",Str.ofString "sort",Str.ofString "cut",Str.ofString "sorted",Str.ofString "zip",Str.ofString "_law_right",Str.ofString "num",Str.ofString "_law_scene",Str.ofString "lookup",Str.ofString "vmap",Str.ofString "_law_said",Str.ofString "statements",Str.ofString "inet",Str.ofString "own",Str.ofString "match",Str.ofString "_law_looked",Str.ofString "is_not",Str.ofString "all",Str.ofString "accept",Str.ofString "_law_stores",Str.ofString "spans",Str.ofString "second",Str.ofString "goto",Str.ofString "c",Str.ofString "str",Str.ofString "_law_is_right",Str.ofString "break_now",Str.ofString "here",Str.ofString "asked",Str.ofString "other",Str.ofString "law",Str.ofString "script",Str.ofString "nth",Str.ofString "orders",Str.ofString "c0",Str.ofString "c1",Str.ofString "c2",Str.ofString "c3",Str.ofString "0",Str.ofString "1",Str.ofString "2",Str.ofString "3"]
noncomputable def zse : List Nat:=[3975354468054651507831974687408229,4299872983027479677063107690102901,496979490635889,457397051064437,1856911165733145843708461165,17126980479252827372050162124945747489725612128,34053882288536373944346192241317482704010702939016955582430606480842239113820938330000856020498481107066421364,9357769065680333828287534151976148271207,4421567266564025558248801863467113,913114297841798348916,190878617313358579399722641952666738710370364641156499136762085497,479387304591480,968454530062899740777,1069911622468342120550,3692129315879677817771662247177300497995072979682678680598463929248996879811934973694312564,32924726369584089288221317115501625706794609432068213,26190130928099639535163870415321565765763335469400175,17126980479252624548205582141827928708830199904,1069911604876126716007,527765801533562,205521013,6635510454831379779099497884007480164453,7060863251223024572644872908850841256037,922337696266898636902,6550439700841616877440587467336693317749,21408724918500336958313731594837762237226025063,9783122186590532280351869768304986947685,3692129315879677817771662247177300497995072979682678680598463929403739237148654918346735732,19803070413499687447127306277339539000841470055,2185738942551526367622594672,2147053196419977774421246068,1972968016746064920226824307,245366889,1097581751772993552495,431008799260785,222298225,466193167155255,514571651514481,518969700122737,977677875711488032881,4299872770256480084704530333171767,80033090901095953708754491927543524298875202861529040945254,796070965495805053965904770819483305425787297286501762383709142175549214425197,379596216915037657721474061403027986818715702884833079787971386544226416,379596216915037657721474061403027816675504001455236181058272945531519088,19803070413499687447127306277339539000828887151,4178178273948943834461926888308858,1005348000618130702453,1023794744691838156901,2263110222676983143397851238,169487052575720378965682189569869456491059998162883752352911720549,4178178428691374958171360535249012,1023794727099668889702,39659329125711092606467349960131264369063274391535717,102,1014571355062826696812,234881139,532163862724723,510173615489133,510173615489139,169487052575720378965682189569869456491195397974584387717172297843,1106805106217662283893,968454494878552817769,1992310728402793387494735973,9868192940580430581545779452526259601511,1895596598270062776020893798,9612980840871153732772971554356315816037,37040316407556285176860570757665155247785192034664550,19981477481005584360509733780037814181573951591,2166396129437643922284216435,968454556451203973237,20159881996394337839412594259579673050427162727,4056484087126426628940827067416693,3692129315879677817771662247177300497995072979682678680598829012660548226883831334627704948,41530051578307762505690398698420219511523434286809191,4543261685500364693347776816218228,4502697214463632837895632474603635,2166395991087133738206756981,41904192786157760558604616024527333562181024042975335,1914939623521475680672940148,2185738887211232573807132774,2224424411981865476608229478,4746086129707498999895960322048101,1005347983025971921013,479387283619951,172778066398194330613298142035238717179995489853936603229734305908,435406826897512,4421567343935333353874464761184358,172778066398194330613298142035238676615524453122081151085392691315,82387002181145825678490706460589750852721038772139626332275,1042241471173359566901,7742956379055698094895477024992370093971363289487488960375450673821062627469557613727261109780595,3366882160602352844901340523004008,4583826794849726391130518450077817,1060688276819760119924,1069911604876143493236,2089024840088867886233288815,4462132008400048773635522523299956,1992310756072891905862533236,20695100816935460132932604112380860480425558119,1934282344401562990670774389,4664956375236059752033964605309032,111,20873507544159152384517997498027096202475995256,505775562686568,1014571355062816211066,37040319262051670588212425714819884866357324972818547,38536894084181853705941236869391436014470257201643640,996124646173478748261,43774918806872130952928084176028006931478020096000102,1895596598270062776018796661,1014571372655014838370,209715317,42278340416621780293831102691545305421303104137068660,439804881797233,130023486,8507063959674391158398348044474200883320,1914939439053999759226306680,8421992881166326055113775107184332374118,2243767289659281811152306293,2224424485768810985122955381,85525553048835954751738883294777274978086421850052920082533,17662199214723723019056592348892775973291819128,514571647320168,950007838765758808173,1079135047281738252399,996124628581273829489,91018014448289793570980017614283358336059319799009268203636,1069911622468295983206,9017487428925754239994348079567708618869,1005348044598585327717,40781761669557549835080567977322251159495765020115049,19446259341028952519932064045582904257597669498,4299873079741360778779510412673128,4421567189192874560040124458991733,492581442027622,7742956379055698094895477024992370093971363289487488960375450673821062627469677517550546073944166,20159883697806253573337127107743899391660916838,43400773495684335806375534082352339490102145638727797,19624664111629318929991143691719294073981370471,379596210333019428437398194466692637178521464243948537729430260012810355,234881137,71303230,431008790872186,1023794788672322142310,86310185527740811366447404558742309104382977294169649709167,86310185527739205712963251172253485697886539282670518534249,510173609197685,505775562686567,9357769065680179085727283247220644642927,19624664111629684013325323703325259545423380591,1069911653254615269487,7742956379055698094895477024992370093971363289487488960375280532069694302479372218020344537022580,19803070413500417613776323616565424935072170082,492581456707701,1014571355062824599660,20159883442594032169931484174061625194563240058,466193152475239,492581431541863,9017487023277697566708076609738714906726,9527910573659105261903138520886367223910,9612981246519249091814597883242699817062,9017487023277697566763416947512966119526,9527910573659105261958478858660618436710,3285752251388178102096675362308213,931561006731135811682,1005348018210333524076,37040319262051670588212425444020501272741962481401978,228589621,492581425250407,38536892656934841564593503385153228009908230550454375,4583826466021885009229299444613237,8421992556647753053707913749317657034855,913114262657424162918,9442839819669864616290535564289903689836,43774917558029123776702318490511806799509939430621301,1042241471173388927093,1992310783743095977371762789,1914939439053977768981168239,839493012763268283781977117354767983214304190296997758332316500667621074534508,1624797223899713897259597926,488183397613688,968454556451195584620,2050339213861204150685007989,1079134959320795447404,2243767400339711069066887270,18911041796546503356106055102666186370727280762,2263110038209524814114193524,9527910289705448181949197582356445134964,9783122186590435566129503211771855372404,1953625157515357475045376116,492581446221940,2263110167336746524222685300,479387304591464,9783122186590725708399997716660781842548,2243767400339728661244543092,2030996409970728926571397236,41530048010188530740912390490984217552514470710870133,17840605686735234431804093745855180624776659045,98,99,61,132120638,63,127926334,86310187024318487993121851250772180592930631956358928269414,2243767243542404034709160038,474989237108858,9272696648533176855396574517291942674544,9442839860234606452295304215732955381872,20159883442594275558943442032005740396701286509,7742956379055698094895477024992370093971363289487488960375025320294503598631747016966252319998054,765540327659908628596,496979503218805,4178178428691439521775618520776805,20516695620982500154686454770837875344558522484,1060688303208016117862,1060688232839261454452,505775583658104,10123404553511702857415813015931298250869,17840605686735274996700672375438323489146142822,781596954341148757059175757847168750918030782536921140114007519862311679426677,9442840468706836533258501435379962347636,2011653596856833287145914479,4299873079741360778827888915906677,1914939558957805451983454316,0,87879466573750022384496545793186572931117375786880977600629,4543261936956741482369075097108593,2301795664437192947725762662,19981477310864198076195921945328855205665570918,2050339259977989568143032431,87879466573750022382795134120841196128815337878134011723878,19981477310864198076215264823006271540209647733,386497981362361874650494051230248754379160083202507576815316808312553587,88664106161399199786768484671779929839980255759829255061619,87879466573750022383986122080546023806474534325305995165797,9527910857612704313325504263235664085090,80033087907940065237861114917942326010095232180598874308711,913114324230043861114,950007785989204869221,41904195105433474723647041455045872124251160574951537,8677204778051197382332387357478992478325,9527910857612704313408514646751689310321,3692129315879677817771662247177300497995072979682678680598991272266205217065599038457380980,5954945842683689674625390498024846786677,435406839480441,2282452971227230544389472365,9953263532310413740841143331884619530357,8507063716285340515015633269980978479221,1934282252167833826015314036,9017487428925754240031241541326854946918,20159882932170157269738016675003041629746495599,2050339269201387993285263476,4462132163142489120699400843165798,389948847953740496535195248062737188723479173436768135399939641584910457,31428151369045732747227618140183172737880847181414502,931561081497916014705,18197417354699624692753130811511784033904230516,1005348018210344009845,1934282316731407297650098291,788833946114985034682906727502762092284819505117359464513350002216373393031218,35917883685302420159334481022123949309216760256266360,496979469664367,1079135020893446602853,1953625185185455993434144879,35917883685302420159334481022124096883156155816214629,157968523028383590864888530037918816224706852641504902508288409716,2321138542114618078327210089,1992310728402850562114060405,9017487226102064402525364204202931257459,121,75325261606399341041988625544509226513292429118766405648485,1992310654615808296580284532,2263110167336768514432172141,2321138542114644466625151078,510173642752110,108,38162750557056311629614267806048943664478420541112422,527765786853498,207618170,75325261606399341041988625544509574683900807971877710463092,514571676680305,922337722655211257972,1069911648856604409973,439804898574453,4705521194443316976070053326749797,540959943164017,75325261606399341041988625544509555341023130559941198217333,488183410196590,75325261606399341041988625544509574683780904152990784421990,4421567459992165919979098859372657,1097581756171040063601,35917883685302420159334481022124087659722546303991909,91018018938021396205012064051873373466346694930549276934260,977677924089982877813,492581460901999,2127710346412721530902413417,157968523028383590864888530037919059613738153432466710246578978917,4299873079741360778832286983389301,431008786677869,3975354216597961124152627240632437,157968523028383590864888530037919343567569318621421846628399054964,2243767363446222921635201140,4705521001015047487126842338443365,959231184414351294576,100,510173640654963,694752911569234332167926365387136489741001192554000226769691233597751551852661,37040318013208663411459316915381032880518646560981112,968454512470736765030,1895596755067369810330386533,2166396147884405588179812467,479387275231352,4705520962329559610012873294610549,488183408099433,4543261975642413826906189065093236,209715249,209715250,209715251,209715252,49,50,51,52]
noncomputable def ztg : List Nat → Nat → Nat
 | [],a=>a
 | c :: r,a=>ztg r (a * 2097152 + c + 1)
noncomputable def ztc (k : Nat) : List Nat → Nat → Option Nat
 | [],_=>none
 | c :: r,i=>match Nat.beq c k with
  | true=>some i
  | false=>ztc k r (i + 1)
noncomputable def nm (n : Nat) : Str:=(zcf[n]?).getD ⟨#[]⟩
noncomputable def nid (s : Str) : Option Nat:=match ztc (ztg s.cps.toList 0) zse 0 with
 | some i=>match (s == nm i) with
  | true=>some i
  | false=>none
 | none=>none
theorem yT {s : Str} {n : Nat} (h : nid s = some n) : s = nm n:=by
 unfold nid at h
 split at h
 ·split at h
  ·rename_i e;cases h;exact eq_of_beq e
  ·cases h
 ·cases h
theorem jB {s t : Str} {n : Nat} (h : nid s = some n) (h' : nid t = some n) : s = t:=(yT h).trans (yT h').symm
theorem zrg {s t : Str} {n k : Nat} (h : nid s = some n) (h' : nid t = some k) : (s == t) = Nat.beq n k:=by
 cases e : Nat.beq n k with
 | true =>
  obtain rfl:=Nat.eq_of_beq_eq_true e
  rw [jB h h'];exact beq_self_eq_true t
 | false =>
  cases q : s == t with
  | false=>rfl
  | true =>
   obtain rfl:=eq_of_beq q
   rw [h] at h'
   cases h'
   rw [Nat.beq_refl] at e;cases e
noncomputable def SeqAt (h : Heap) (a : Addr) (T : String) (vs : Array Value) : Prop:=∃ o,h.get? a = some o ∧ o.cls = .type T ∧ ∃ n,o.data = .seq vs n
noncomputable def BarrAt (h : Heap) (a : Addr) (b : List UInt8) : Prop:=h.get? a = some { cls:=.type "bytearray",data:=.bytearray b.toArray 0 }
noncomputable def zM (o : Obj) : Bool:=match o.data with
 | .seq ..=>true
 | .bytearray ..=>true
 | _=>false
noncomputable def LocA (h : Heap) (ρ : List Addr) (i : Nat) (a : Addr) : Prop:=ρ[i]? = some a ∧ (∀ j : Nat,ρ[j]? = some a → j = i) ∧ h.get? a ≠ none
noncomputable def Free (ρ : List Addr) (a : Addr) : Prop:=∀ i : Nat,ρ[i]? = some a → ∃ j : Nat,j ≠ i ∧ ρ[j]? = some a
theorem Free.of {ρ : List Addr} {a : Addr} (h : a ∉ ρ) : Free ρ a:=fun uu e=>absurd (List.mem_of_getElem? e) h
theorem Free.not {h : Heap} {ρ : List Addr} {i : Nat} {a b : Addr} (f : Free ρ b) (l : LocA h ρ i a) : b ≠ a:=fun e=>by
 subst e
 obtain ⟨j,hj,e⟩:=f i l.1
 exact hj (l.2.1 j e)
theorem Free.append {ρ δ : List Addr} {a : Addr} (f : Free ρ a) (n : a ∉ δ) : Free (ρ ++ δ) a:=fun i e=>by
 by_cases l : i < ρ.length
 ·rw [List.getElem?_append_left l] at e
  obtain ⟨j,hj,e'⟩:=f i e
  exact ⟨j,hj,by rw [List.getElem?_append_left (List.getElem?_eq_some_iff.mp e').1];exact e'⟩
 ·rw [List.getElem?_append_right (Nat.le_of_not_lt l)] at e
  exact absurd (List.mem_of_getElem? e) n
mutual
noncomputable def VR (h : Heap) (ρ : List Addr) : PV → Value → Prop
 | .none,v=>v = .none
 | .bool b,v=>v = .bool b
 | .int i,v=>∃ t,v = .int i t
 | .str n,v=>∃ s t,v = .str s t ∧ nid s = some n
 | .bytes b,v=>∃ t,v = .bytes b.toArray t
 | .barr b,v=>∃ a,v = .ref a ∧ a ∉ ρ ∧ BarrAt h a b
 | .tup l,v=>∃ a vs,v = .ref a ∧ a ∉ ρ ∧ SeqAt h a "tuple" vs.toArray ∧ VRs h ρ l vs
 | .lst l,v=>∃ a vs,v = .ref a ∧ a ∉ ρ ∧ SeqAt h a "list" vs.toArray ∧ VRs h ρ l vs
 | .loc i,v=>∃ a,v = .ref a ∧ LocA h ρ i a
 | .fn a,v=>v = .ref a
 | .bi k,v=>v = qV k
noncomputable def VRs (h : Heap) (ρ : List Addr) : List PV → List Value → Prop
 | [],vs=>vs = []
 | x :: r,vs=>∃ v t,vs = v :: t ∧ VR h ρ x v ∧ VRs h ρ r t
end
structure Keep (ρ δ : List Addr) (h h' : Heap) : Prop where
 vals : ∀ a o,h.get? a = some o → a ∉ ρ → zM o = true → h'.get? a = some o
 new : ∀ a ∈ δ,h.get? a = none
 gone : ∀ a,h'.get? a = none → h.get? a = none
theorem Keep.not {ρ δ : List Addr} {h h' : Heap} (k : Keep ρ δ h h') {a : Addr} {o : Obj} (e : h.get? a = some o) (n : a ∉ ρ) : a ∉ ρ ++ δ:=by
 intro m
 rcases List.mem_append.mp m with m | m
 ·exact n m
 ·rw [k.new a m] at e;cases e
theorem LocA.keep {ρ δ : List Addr} {h h' : Heap} (k : Keep ρ δ h h') {i : Nat} {a : Addr} (x : LocA h ρ i a) : LocA h' (ρ ++ δ) i a:=by
 obtain ⟨h1,h2,h3⟩:=x
 have l:=(List.getElem?_eq_some_iff.mp h1).1
 refine ⟨by rw [List.getElem?_append_left l];exact h1,fun j hj=>?_,fun q=>h3 (k.gone a q)⟩
 by_cases lj : j < ρ.length
 ·rw [List.getElem?_append_left lj] at hj;exact h2 j hj
 ·rw [List.getElem?_append_right (Nat.le_of_not_lt lj)] at hj
  exact absurd (k.new a (List.mem_of_getElem? hj)) h3
theorem SeqAt.keep {ρ δ : List Addr} {h h' : Heap} (k : Keep ρ δ h h') {a : Addr} {T : String} {vs : Array Value} (n : a ∉ ρ) (x : SeqAt h a T vs) : SeqAt h' a T vs:=by
 obtain ⟨o,ho,hc,m,hd⟩:=x
 exact ⟨o,k.vals a o ho n (by unfold zM;rw [hd]),hc,m,hd⟩
mutual
theorem VR.keep {ρ δ : List Addr} {h h' : Heap} (k : Keep ρ δ h h') : ∀ (x : PV) (v : Value),VR h ρ x v → VR h' (ρ ++ δ) x v
 | .none,v,e=>e
 | .bool b,v,e=>e
 | .int i,v,e=>e
 | .str n,v,e=>e
 | .bytes b,v,e=>e
 | .barr b,v,e=>by
  obtain ⟨a,rfl,n,ha⟩:=e
  exact ⟨a,rfl,k.not ha n,k.vals a _ ha n rfl⟩
 | .tup l,v,e=>by
  obtain ⟨a,vs,rfl,n,ha,hl⟩:=e
  exact ⟨a,vs,rfl,k.not ha.choose_spec.1 n,ha.keep k n,VRs.keep k l vs hl⟩
 | .lst l,v,e=>by
  obtain ⟨a,vs,rfl,n,ha,hl⟩:=e
  exact ⟨a,vs,rfl,k.not ha.choose_spec.1 n,ha.keep k n,VRs.keep k l vs hl⟩
 | .loc i,v,e=>by
  obtain ⟨a,rfl,ha⟩:=e
  exact ⟨a,rfl,ha.keep k⟩
 | .fn o,v,e=>e
 | .bi o,v,e=>e
theorem VRs.keep {ρ δ : List Addr} {h h' : Heap} (k : Keep ρ δ h h') : ∀ (l : List PV) (vs : List Value),VRs h ρ l vs → VRs h' (ρ ++ δ) l vs
 | [],vs,e=>e
 | x :: r,vs,e=>by
  obtain ⟨v,t,rfl,h1,h2⟩:=e
  exact ⟨v,t,rfl,VR.keep k x v h1,VRs.keep k r t h2⟩
end
theorem VRs.length {h : Heap} {ρ : List Addr} : ∀ {l : List PV} {vs : List Value},VRs h ρ l vs → vs.length = l.length
 | [],vs,e=>by cases e;rfl
 | x :: r,vs,e=>by
  obtain ⟨v,t,rfl,h1,h2⟩:=e
  rw [List.length_cons,List.length_cons,h2.length]
theorem VRs.get {h : Heap} {ρ : List Addr} : ∀ {l : List PV} {vs : List Value} {i : Nat} {x : PV},VRs h ρ l vs → l[i]? = some x → ∃ v,vs[i]? = some v ∧ VR h ρ x v
 | [],vs,i,x,e,g=>by cases g
 | y :: r,vs,0,x,e,g=>by
  obtain ⟨v,t,rfl,h1,h2⟩:=e
  cases g
  exact ⟨v,rfl,h1⟩
 | y :: r,vs,i + 1,x,e,g=>by
  obtain ⟨v,t,rfl,h1,h2⟩:=e
  exact h2.get (i:=i) g
theorem VRs.append {h : Heap} {ρ : List Addr} : ∀ {l m : List PV} {vs ws : List Value},VRs h ρ l vs → VRs h ρ m ws → VRs h ρ (l ++ m) (vs ++ ws)
 | [],m,vs,ws,e,f=>by cases e;exact f
 | x :: r,m,vs,ws,e,f=>by
  obtain ⟨v,t,rfl,h1,h2⟩:=e
  exact ⟨v,t ++ ws,rfl,h1,h2.append f⟩
theorem VRs.one {h : Heap} {ρ : List Addr} {x : PV} {v : Value} (e : VR h ρ x v) : VRs h ρ [x] [v]:=⟨v,[],rfl,e,rfl⟩
theorem VRs.take {h : Heap} {ρ : List Addr} : ∀ {l : List PV} {vs : List Value} (n : Nat),VRs h ρ l vs → VRs h ρ (l.take n) (vs.take n)
 | l,vs,0,e=>by simp only [List.take_zero];rfl
 | [],vs,n + 1,e=>by cases e;simp only [List.take_nil];rfl
 | x :: r,vs,n + 1,e=>by
  obtain ⟨v,t,rfl,h1,h2⟩:=e
  exact ⟨v,t.take n,rfl,h1,h2.take n⟩
theorem VRs.drop {h : Heap} {ρ : List Addr} : ∀ {l : List PV} {vs : List Value} (n : Nat),VRs h ρ l vs → VRs h ρ (l.drop n) (vs.drop n)
 | l,vs,0,e=>e
 | [],vs,n + 1,e=>by cases e;simp only [List.drop_nil];rfl
 | x :: r,vs,n + 1,e=>by
  obtain ⟨v,t,rfl,h1,h2⟩:=e
  exact h2.drop n
theorem VRs.cons {h : Heap} {ρ : List Addr} {x : PV} {v : Value} {l : List PV} {vs : List Value} (e : VR h ρ x v) (f : VRs h ρ l vs) : VRs h ρ (x :: l) (v :: vs):=⟨v,vs,rfl,e,f⟩
theorem VRs.set {h : Heap} {ρ : List Addr} {x : PV} {v : Value} (e : VR h ρ x v) : ∀ {l : List PV} {vs : List Value} (n : Nat),VRs h ρ l vs → VRs h ρ (l.set n x) (vs.set n v)
 | [],vs,n,q=>by cases q;exact rfl
 | y :: r,vs,0,q=>by
  obtain ⟨u,t,rfl,h1,h2⟩:=q
  exact ⟨v,t,rfl,e,h2⟩
 | y :: r,vs,n + 1,q=>by
  obtain ⟨u,t,rfl,h1,h2⟩:=q
  exact ⟨u,t.set n v,rfl,h1,VRs.set e n h2⟩
theorem VRs.eraseIdx {h : Heap} {ρ : List Addr} : ∀ {l : List PV} {vs : List Value} (n : Nat),VRs h ρ l vs → VRs h ρ (l.eraseIdx n) (vs.eraseIdx n)
 | [],vs,n,q=>by cases q;exact rfl
 | y :: r,vs,0,q=>by
  obtain ⟨u,t,rfl,h1,h2⟩:=q
  exact h2
 | y :: r,vs,n + 1,q=>by
  obtain ⟨u,t,rfl,h1,h2⟩:=q
  exact ⟨u,t.eraseIdx n,rfl,h1,VRs.eraseIdx n h2⟩
theorem VRs.reverse {h : Heap} {ρ : List Addr} : ∀ {l : List PV} {vs : List Value},VRs h ρ l vs → VRs h ρ l.reverse vs.reverse
 | [],vs,q=>by cases q;exact rfl
 | y :: r,vs,q=>by
  obtain ⟨u,t,rfl,h1,h2⟩:=q
  rw [List.reverse_cons,List.reverse_cons]
  exact h2.reverse.append (VRs.one h1)
noncomputable def KVR (h : Heap) (ρ : List Addr) : List (Nat × PV) → List (Str × Value) → Prop
 | [],ds=>ds = []
 | x :: r,ds=>∃ s v q,ds = (s,v) :: q ∧ nid s = some x.1 ∧ VR h ρ x.2 v ∧ KVR h ρ r q
noncomputable def NSR (h : Heap) (ρ : List Addr) : List (Nat × PV) → List DictEntry → Prop
 | [],ds=>ds = []
 | x :: r,ds=>∃ g s t v q,ds = ⟨g,.str s t,v⟩ :: q ∧ nid s = some x.1 ∧ VR h ρ x.2 v ∧ NSR h ρ r q
section
variable (prog : Program) (w : World)
noncomputable def OR (h : Heap) (ρ : List Addr) : MObj → Obj → Prop
 | .list l,o=>∃ vs n,o = { cls:=.type "list",data:=.seq vs n } ∧ VRs h ρ l vs.toList
 | .dict es,o=>∃ kvs,o.IsDictOf (strKind prog w) kvs ∧ KVR h ρ es kvs
 | .ns es,o=>∃ ds n,o = dictOf ds n ∧ NSR h ρ es ds
 | .barr b,o=>o = { cls:=.type "bytearray",data:=.bytearray b.toArray 0 }
 | .inst c d,o=>∃ a,LocA h ρ d a ∧ o = { cls:=.ref c,dict:=some a,data:=.plain }
 | .hid,o=>o.isFreed = false
end
theorem KVR.keep {ρ δ : List Addr} {h h' : Heap} (k : Keep ρ δ h h') : ∀ {l : List (Nat × PV)} {ds : List (Str × Value)},KVR h ρ l ds → KVR h' (ρ ++ δ) l ds
 | [],ds,e=>e
 | x :: r,ds,e=>by
  obtain ⟨s,v,q,rfl,h1,h2,h3⟩:=e
  exact ⟨s,v,q,rfl,h1,VR.keep k _ _ h2,h3.keep k⟩
theorem NSR.keep {ρ δ : List Addr} {h h' : Heap} (k : Keep ρ δ h h') : ∀ {l : List (Nat × PV)} {ds : List DictEntry},NSR h ρ l ds → NSR h' (ρ ++ δ) l ds
 | [],ds,e=>e
 | x :: r,ds,e=>by
  obtain ⟨g,s,t,v,q,rfl,h1,h2,h3⟩:=e
  exact ⟨g,s,t,v,q,rfl,h1,VR.keep k _ _ h2,h3.keep k⟩
section
variable {prog : Program} {w : World}
theorem OR.keep {ρ δ : List Addr} {h h' : Heap} (k : Keep ρ δ h h') {m : MObj} {o : Obj} (e : OR prog w h ρ m o) : OR prog w h' (ρ ++ δ) m o:=by
 cases m with
 | list l=>obtain ⟨vs,n,rfl,q⟩:=e;exact ⟨vs,n,rfl,VRs.keep k _ _ q⟩
 | dict es=>obtain ⟨kvs,q,r⟩:=e;exact ⟨kvs,q,r.keep k⟩
 | ns es=>obtain ⟨vs,n,rfl,q⟩:=e;exact ⟨vs,n,rfl,q.keep k⟩
 | barr b=>exact e
 | inst c d =>
  obtain ⟨a,ha,rfl⟩:=e
  exact ⟨a,ha.keep k,rfl⟩
 | hid=>exact e
theorem OR.free {h : Heap} {ρ : List Addr} {m : MObj} {o : Obj} (e : OR prog w h ρ m o) : o.isFreed = false:=by
 cases m with
 | list l=>obtain ⟨vs,n,rfl,q⟩:=e;rfl
 | dict es=>obtain ⟨kvs,⟨es',ep,_,hd,_⟩,r⟩:=e;exact Obj.isFreed_of_dict hd
 | ns es=>obtain ⟨vs,n,rfl,q⟩:=e;rfl
 | barr b=>cases e;rfl
 | inst c d=>obtain ⟨a,ha,rfl⟩:=e;rfl
 | hid=>exact e
end
theorem zU (h : Heap) : h.get? h.objs.size = none:=by
 cases q : h.get? h.objs.size with
 | none=>rfl
 | some o=>exact absurd (Heap.lt_size q) (Nat.lt_irrefl _)
structure Rel (prog : Program) (w : World) (B : Heap) (ρ : List Addr) (H : Hp) (h : Heap) : Prop where
 base : ∀ a o,B.get? a = some o → h.get? a = some o
 len : ρ.length = H.length
 fresh : ∀ a ∈ ρ,B.get? a = none
 obj : ∀ (i : Nat) (m : MObj) (a : Addr),H[i]? = some m → ρ[i]? = some a → ∃ o,h.get? a = some o ∧ OR prog w h ρ m o
theorem Rel.at {prog : Program} {w : World} {B h : Heap} {ρ : List Addr} {H : Hp} (R : Rel prog w B ρ H h) {i : Nat} {m : MObj} (e : H[i]? = some m) : ∃ a o,ρ[i]? = some a ∧ h.get? a = some o ∧ OR prog w h ρ m o:=by
 have l:=(List.getElem?_eq_some_iff.mp e).1
 rw [← R.len] at l
 obtain ⟨o,ho,hr⟩:=R.obj i m _ e (List.getElem?_eq_getElem l)
 exact ⟨_,o,List.getElem?_eq_getElem l,ho,hr⟩
structure Ext (ρ : List Addr) (X : List Addr) (s s' : Shared) (δ : List Addr) : Prop where
 keep : ∀ a o,s.heap.get? a = some o → Free ρ a → a ∉ X → s'.heap.get? a = some o
 vals : ∀ a o,s.heap.get? a = some o → a ∉ ρ → zM o = true → s'.heap.get? a = some o
 new : ∀ a ∈ δ,s.heap.get? a = none
 gone : ∀ a,s'.heap.get? a = none → s.heap.get? a = none
 gens : s'.gens = s.gens
 drawn : s'.drawn = s.drawn
 os : s'.os = s.os
theorem Ext.k {ρ X δ : List Addr} {s s' : Shared} (e : Ext ρ X s s' δ) : Keep ρ δ s.heap s'.heap:=⟨e.vals,e.new,e.gone⟩
theorem Ext.refl (ρ X : List Addr) (s : Shared) : Ext ρ X s s []:=⟨fun uu uu e uu uu=>e,fun uu uu e uu uu=>e,fun uu h=>(nomatch h),fun uu e=>e,rfl,rfl,rfl⟩
theorem Ext.trans {ρ X Y δ ε : List Addr} {s s' s'' : Shared} (e : Ext ρ X s s' δ) (f : Ext (ρ ++ δ) Y s' s'' ε) (hY : ∀ a ∈ Y,a ∈ X ∨ s.heap.get? a = none) : Ext ρ X s s'' (δ ++ ε):=by
 refine ⟨fun a o h n x=>f.keep a o (e.keep a o h n x) (n.append fun m=>(by rw [e.new a m] at h;cases h)) (fun y=>?_),fun a o h n v=>f.vals a o (e.vals a o h n v) (e.k.not h n) v,fun a m=>?_,fun a g=>e.gone a (f.gone a g),f.gens.trans e.gens,f.drawn.trans e.drawn,f.os.trans e.os⟩
 ·rcases hY a y with q | q
  ·exact x q
  ·rw [q] at h;cases h
 ·rcases List.mem_append.mp m with m | m
  ·exact e.new a m
  ·exact e.gone a (f.new a m)
theorem Ext.more {ρ X Y δ : List Addr} {s s' : Shared} (e : Ext ρ X s s' δ) (h : ∀ a ∈ X,a ∈ Y) : Ext ρ Y s s' δ :=
 ⟨fun a o g n y=>e.keep a o g n fun q=>y (h a q),e.vals,e.new,e.gone,e.gens,e.drawn,e.os⟩
theorem Ext.seq {ρ δ ε : List Addr} {s s' s'' : Shared} {X : List Addr} (e : Ext ρ X s s' δ) (f : Ext (ρ ++ δ) X s' s'' ε) : Ext ρ X s s'' (δ ++ ε):=e.trans f fun uu h=>.inl h
structure Still (X : List Addr) (s s' : Shared) : Prop where
 keep : ∀ a o,s.heap.get? a = some o → a ∉ X → s'.heap.get? a = some o
 gone : ∀ a,s'.heap.get? a = none → s.heap.get? a = none
 gens : s'.gens = s.gens
 drawn : s'.drawn = s.drawn
 os : s'.os = s.os
theorem Still.toks {X : List Addr} {s : Shared} (t : Nat) : Still X s { s with toks:=t }:=⟨fun uu uu e uu=>e,fun uu e=>e,rfl,rfl,rfl⟩
theorem Still.refl {X : List Addr} {s : Shared} : Still X s s:=⟨fun uu uu e uu=>e,fun uu e=>e,rfl,rfl,rfl⟩
theorem Still.kept {X : List Addr} {s : Shared} {h' : Heap} (t : Nat) (hk : ∀ b o,s.heap.get? b = some o → h'.get? b = some o) : Still X s { s with heap:=h',toks:=t } :=
 ⟨fun b o e uu=>hk b o e,fun b e=>by
  cases q : s.heap.get? b with
  | none=>rfl
  | some o=>(rw [hk b o q] at e;cases e),rfl,rfl,rfl⟩
theorem Still.push {X : List Addr} {s : Shared} (o : Obj) (t : Nat) : Still X s { s with heap:=s.heap.push o,toks:=t } :=
 Still.kept t fun uu uu e=>Heap.get?_push_of_some _ e
theorem Still.trans {X Y : List Addr} {s s' s'' : Shared} (e : Still X s s') (f : Still Y s' s'') (h : ∀ a ∈ Y,a ∈ X ∨ s.heap.get? a = none) : Still X s s'' :=
 ⟨fun a o g x=>f.keep a o (e.keep a o g x) fun y=>(h a y).elim x fun q=>(by rw [q] at g;cases g),fun a g=>e.gone a (f.gone a g),f.gens.trans e.gens,f.drawn.trans e.drawn,f.os.trans e.os⟩
theorem Still.sameBut {a : Addr} {X : List Addr} {s : Shared} {h' : Heap} (t : Nat) (x : Heap.SameBut a s.heap h') (hX : a ∈ X) (hg : h'.get? a ≠ none) : Still X s { s with heap:=h',toks:=t } :=
 ⟨fun b o e n=>(x.2 b fun q=>n (q ▸ hX)).trans e,fun b e=>by
  by_cases q : b = a
  ·exact absurd (q ▸ e) hg
  ·exact (x.2 b q).symm.trans e,rfl,rfl,rfl⟩
theorem Still.ext {ρ X : List Addr} {s s' : Shared} (e : Still X s s') (hv : ∀ a ∈ X,∀ o,s.heap.get? a = some o → zM o = false) : Ext ρ X s s' [] :=
 ⟨fun a o g uu x=>e.keep a o g x,fun a o g uu v=>e.keep a o g fun q=>(by rw [hv a q o g] at v;cases v),fun uu h=>(nomatch h),e.gone,e.gens,e.drawn,e.os⟩
theorem Still.ext0 {ρ : List Addr} {s s' : Shared} (e : Still [] s s') : Ext ρ [] s s' []:=e.ext fun uu h=>(nomatch h)
theorem Still.k {ρ X : List Addr} {s s' : Shared} (e : Still X s s') (hv : ∀ a ∈ X,∀ o,s.heap.get? a = some o → zM o = false) : Keep ρ [] s.heap s'.heap:=(e.ext hv).k
theorem Rel.still {prog : Program} {w : World} {B : Heap} {ρ X : List Addr} {H : Hp} {s s' : Shared} (R : Rel prog w B ρ H s.heap) (e : Still X s s') (hv : ∀ a ∈ X,∀ o,s.heap.get? a = some o → zM o = false)
  (hX : ∀ a ∈ X,a ∉ ρ ∧ B.get? a = none) : Rel prog w B ρ H s'.heap:=by
 refine ⟨fun a o g=>e.keep a o (R.base a o g) fun q=>(by rw [(hX a q).2] at g;cases g),R.len,R.fresh,fun i m a g q=>?_⟩
 obtain ⟨o,ho,hr⟩:=R.obj i m a g q
 have k : Keep ρ [] s.heap s'.heap:=e.k hv
 have z:=hr.keep k
 rw [List.append_nil] at z
 exact ⟨o,e.keep a o ho fun x=>(hX a x).1 (List.mem_of_getElem? q),z⟩
theorem Rel.still0 {prog : Program} {w : World} {B : Heap} {ρ : List Addr} {H : Hp} {s s' : Shared} (R : Rel prog w B ρ H s.heap) (e : Still [] s s') : Rel prog w B ρ H s'.heap :=
 R.still e (fun uu h=>(nomatch h)) fun uu h=>(nomatch h)
theorem Rel.lt {prog : Program} {w : World} {B h : Heap} {ρ : List Addr} {H : Hp} (R : Rel prog w B ρ H h) {a : Addr} (m : a ∈ ρ) : a < h.objs.size:=by
 obtain ⟨i,hi,rfl⟩:=List.getElem_of_mem m
 have hi' : i < H.length:=R.len ▸ hi
 obtain ⟨o,ho,_⟩:=R.obj i H[i] ρ[i] (List.getElem?_eq_getElem hi') (List.getElem?_eq_getElem hi)
 exact Heap.lt_size ho
theorem Rel.bsize {prog : Program} {w : World} {B h : Heap} {ρ : List Addr} {H : Hp} (R : Rel prog w B ρ H h) {a : Addr} (g : h.objs.size ≤ a) : B.get? a = none:=by
 cases q : B.get? a with
 | none=>rfl
 | some o=>exact absurd (Heap.lt_size (R.base a o q)) (Nat.not_lt.mpr g)
theorem Rel.bnone {prog : Program} {w : World} {B h : Heap} {ρ : List Addr} {H : Hp} (R : Rel prog w B ρ H h) {a : Addr} (g : h.get? a = none) : B.get? a = none:=by
 cases q : B.get? a with
 | none=>rfl
 | some o=>rw [R.base a o q] at g;cases g
theorem Rel.off' {prog : Program} {w : World} {B h : Heap} {ρ : List Addr} {H : Hp} (R : Rel prog w B ρ H h) {a : Addr} (g : h.get? a = none) : a ∉ ρ:=fun m=>by
 obtain ⟨i,hi,rfl⟩:=List.getElem_of_mem m
 have hi' : i < H.length:=R.len ▸ hi
 obtain ⟨o,ho,_⟩:=R.obj i H[i] ρ[i] (List.getElem?_eq_getElem hi') (List.getElem?_eq_getElem hi)
 rw [ho] at g;cases g
theorem Rel.off {prog : Program} {w : World} {B h : Heap} {ρ : List Addr} {H : Hp} (R : Rel prog w B ρ H h) {a : Addr} (g : h.objs.size ≤ a) : a ∉ ρ:=fun m=>absurd (R.lt m) (Nat.not_lt.mpr g)
theorem Rel.alloc {prog : Program} {w : World} {B : Heap} {ρ : List Addr} {H : Hp} {s : Shared} (R : Rel prog w B ρ H s.heap) {m : MObj} {o : Obj} (t : Nat) (ho : OR prog w s.heap ρ m o) :
  Rel prog w B (ρ ++ [s.heap.objs.size]) (H ++ [m]) (s.heap.push o) ∧ Ext ρ [] s { s with heap:=s.heap.push o,toks:=t } [s.heap.objs.size]:=by
 have st : Still [] s { s with heap:=s.heap.push o,toks:=t }:=Still.push o t
 have e : Ext ρ [] s { s with heap:=s.heap.push o,toks:=t } [s.heap.objs.size] :=
  ⟨fun a o' g uu x=>st.keep a o' g x,fun a o' g uu uu=>st.keep a o' g (fun h=>nomatch h),fun a h=>by rw [List.mem_singleton.mp h];exact zU _,st.gone,rfl,rfl,rfl⟩
 have hn : s.heap.objs.size ∉ ρ:=R.off (Nat.le_refl _)
 refine ⟨⟨fun a o' g=>st.keep a o' (R.base a o' g) (fun h=>nomatch h),by rw [List.length_append,List.length_append,R.len];rfl,fun a h=>?_,fun i m' a g q=>?_⟩,e⟩
 ·rcases List.mem_append.mp h with h | h
  ·exact R.fresh a h
  ·rw [List.mem_singleton.mp h];exact R.bsize (Nat.le_refl _)
 ·by_cases l : i < H.length
  ·rw [List.getElem?_append_left l] at g
   rw [List.getElem?_append_left (by rw [R.len];exact l)] at q
   obtain ⟨o',ho',hr⟩:=R.obj i m' a g q
   exact ⟨o',st.keep a o' ho' (fun h=>nomatch h),hr.keep e.k⟩
  ·have l' : H.length ≤ i:=Nat.le_of_not_lt l
   rw [List.getElem?_append_right l'] at g
   rw [List.getElem?_append_right (by rw [R.len];exact l')] at q
   have z : i - H.length = 0:=by
    have:=(List.getElem?_eq_some_iff.mp g).1
    simpa using this
   rw [z] at g
   rw [R.len,z] at q
   cases g
   cases q
   exact ⟨o,Heap.get?_push_size _ ho.free,ho.keep e.k⟩
theorem Rel.newAt {prog : Program} {w : World} {B : Heap} {ρ : List Addr} {H : Hp} {h h' : Heap} (R : Rel prog w B ρ H h) {a : Addr} (ha : h.get? a = none) (h'' : h'.get? a ≠ none) : LocA h' (ρ ++ [a]) H.length a:=by
 refine ⟨by rw [← R.len,List.getElem?_append_right (Nat.le_refl _),Nat.sub_self];rfl,fun j hj=>?_,h''⟩
 by_cases l : j < ρ.length
 ·rw [List.getElem?_append_left l] at hj
  exact absurd (List.mem_of_getElem? hj) (R.off' ha)
 ·rw [List.getElem?_append_right (Nat.le_of_not_lt l)] at hj
  have:=(List.getElem?_eq_some_iff.mp hj).1
  rw [← R.len]
  simp at this
  lia
theorem Rel.update {prog : Program} {w : World} {B : Heap} {ρ : List Addr} {H : Hp} {s : Shared} (R : Rel prog w B ρ H s.heap) {i : Nat} {a : Addr} {m : MObj} {o' : Obj} {h' : Heap} (t : Nat) (hi' : LocA s.heap ρ i a) (hH : H[i]? ≠ none) (hn : OR prog w s.heap ρ m o')
  (hs : Heap.SameBut a s.heap h') (hg : h'.get? a = some o') : Rel prog w B ρ (H.set i m) h' ∧ Ext ρ [] s { s with heap:=h',toks:=t } []:=by
 have hi:=hi'.1
 have ha : a ∈ ρ:=List.mem_of_getElem? hi
 have e : Ext ρ [] s { s with heap:=h',toks:=t } []:=⟨fun b o' g n uu=>(hs.2 b (n.not hi')).trans g,fun b o' g n uu=>(hs.2 b fun q=>n (q ▸ ha)).trans g,fun uu h=>(nomatch h),fun b g=>by
  by_cases q : b = a
  ·rw [q,hg] at g;cases g
  ·exact (hs.2 b q).symm.trans g,rfl,rfl,rfl⟩
 refine ⟨⟨fun b o' g=>(hs.2 b fun q=>(by rw [q,R.fresh a ha] at g;cases g)).trans (R.base b o' g),by rw [List.length_set];exact R.len,R.fresh,fun j m' b g q=>?_⟩,e⟩
 have k:=e.k
 by_cases ij : i = j
 ·subst ij
  rw [hi] at q
  cases q
  rw [List.getElem?_set_self (by
   cases z : H[i]? with
   | none=>exact absurd z hH
   | some _=>exact (List.getElem?_eq_some_iff.mp z).1)] at g
  cases g
  refine ⟨o',hg,?_⟩
  have z:=hn.keep k
  rwa [List.append_nil] at z
 ·rw [List.getElem?_set_ne ij] at g
  obtain ⟨o'',ho,hr⟩:=R.obj j m' b g q
  have ne : b ≠ a:=fun z=>by
   subst z
   exact ij (hi'.2.1 j q).symm
  refine ⟨o'',(hs.2 b ne).trans ho,?_⟩
  have z:=hr.keep k
  rwa [List.append_nil] at z
structure EnvOk (B : Heap) (env : Env) (ρ : List Addr) (h : Heap) : Prop where
 kind : env.scope.kind = .function
 glob : env.globals = mainGlobals
 bi : env.builtins = builtinsNs
 ns : ∃ m,h.Ns env.locals m
 lnew : env.locals ∉ ρ ∧ B.get? env.locals = none
 cell : ∀ n c,env.cells.lookup n = some c → ∃ v,h.IsCell c v
 cnew : ∀ n c,env.cells.lookup n = some c → c ∉ ρ ∧ B.get? c = none
 cinj : ∀ n n' c,env.cells.lookup n = some c → env.cells.lookup n' = some c → n = n'
 has : ∀ n,(env.kindOf n = some .cell ∨ env.kindOf n = some .free) → ∃ c,env.cells.lookup n = some c
noncomputable def VarsOk (env : Env) (ρ : List Addr) (h : Heap) (L : Loc) : Prop :=
 ∀ (n : Str) (x : Nat) (v : PV),nid n = some x → L x = some v → (env.kindOf n = some .local → ∃ m val,h.Ns env.locals m ∧ m n = some val ∧ VR h ρ v val) ∧
  ((env.kindOf n = some .cell ∨ env.kindOf n = some .free) → ∃ c val,env.cells.lookup n = some c ∧ h.IsCell c (some val) ∧ VR h ρ v val)
noncomputable def ym (env : Env) : List Addr:=env.locals :: env.cells.filterMap (fun x=>env.cells.lookup x.1)
theorem jr {env : Env} {n : Str} {c : Addr} (h : env.cells.lookup n = some c) : c ∈ ym env:=List.mem_cons_of_mem _ (List.mem_filterMap.mpr ⟨(n,c),mem_of_lookup h,h⟩)
theorem xy {env : Env} {a : Addr} (h : a ∈ ym env) : a = env.locals ∨ ∃ n,env.cells.lookup n = some a:=by
 rcases List.mem_cons.mp h with h | h
 ·exact .inl h
 ·obtain ⟨x,_,hx⟩:=List.mem_filterMap.mp h
  exact .inr ⟨x.1,hx⟩
theorem xw {env : Env} {a : Addr} (h : a ∈ env.cells.filterMap (fun x=>env.cells.lookup x.1)) : a ∈ env.cells.map (·.2):=by
 obtain ⟨x,_,hx⟩:=List.mem_filterMap.mp h
 exact List.mem_map_of_mem (f:=(·.2)) (mem_of_lookup hx)
theorem zhf {h : Heap} {a : Addr} {m : Str → Option Value} (n : h.Ns a m) {o : Obj} (e : h.get? a = some o) : zM o = false:=by
 obtain ⟨o',es,ep,ho,hd,_⟩:=n
 rw [e] at ho;cases ho
 unfold zM;rw [hd]
theorem zpq {h : Heap} {a : Addr} {v : Option Value} (n : h.IsCell a v) {o : Obj} (e : h.get? a = some o) : zM o = false:=by
 obtain ⟨o',ho,hd⟩:=n
 rw [e] at ho;cases ho
 unfold zM;rw [hd]
theorem zjk {h : Heap} {a : Addr} {m : Str → Option Value} (n : h.Ns a m) {v : Option Value} (c : h.IsCell a v) : False:=by
 obtain ⟨o',es,ep,ho,hd,_⟩:=n
 obtain ⟨o,e,hd'⟩:=c
 rw [e] at ho;cases ho
 rw [hd] at hd';cases hd'
theorem zre {h : Heap} {a : Addr} {m m' : Str → Option Value} (n : h.Ns a m) (n' : h.Ns a m') : m = m':=by
 obtain ⟨o,es,ep,ho,hd,_,hm⟩:=n
 obtain ⟨o',es',ep',ho',hd',_,hm'⟩:=n'
 rw [ho] at ho';cases ho'
 rw [hd] at hd';cases hd'
 funext x
 rw [← hm,← hm']
theorem EnvOk.ext {B : Heap} {env : Env} {ρ X δ : List Addr} {s s' : Shared} (V : EnvOk B env ρ s.heap) (e : Ext ρ X s s' δ) (hX : ∀ a ∈ ym env,a ∉ X) : EnvOk B env (ρ ++ δ) s'.heap:=by
 have kn : ∀ {m},s.heap.Ns env.locals m → s'.heap.Ns env.locals m:=fun ⟨o,es,ep,ho,r⟩=>⟨o,es,ep,e.keep _ _ ho (Free.of V.lnew.1) (hX _ (List.mem_cons_self ..)),r⟩
 refine ⟨V.kind,V.glob,V.bi,V.ns.imp fun uu h=>kn h,⟨?_,V.lnew.2⟩,fun n c h=>?_,fun n c h=>⟨?_,(V.cnew n c h).2⟩,V.cinj,V.has⟩
 ·obtain ⟨m,o,es,ep,ho,_⟩:=V.ns
  exact e.k.not ho V.lnew.1
 ·obtain ⟨v,o,ho,hd⟩:=V.cell n c h
  exact ⟨v,o,e.keep _ _ ho (Free.of (V.cnew n c h).1) (hX _ (jr h)),hd⟩
 ·obtain ⟨v,o,ho,hd⟩:=V.cell n c h
  exact e.k.not ho (V.cnew n c h).1
theorem VarsOk.ext {B : Heap} {env : Env} {ρ X δ : List Addr} {s s' : Shared} {L : Loc} (V : EnvOk B env ρ s.heap) (W : VarsOk env ρ s.heap L) (e : Ext ρ X s s' δ) (hX : ∀ a ∈ ym env,a ∉ X) : VarsOk env (ρ ++ δ) s'.heap L:=by
 intro n x v hn hL
 obtain ⟨h1,h2⟩:=W n x v hn hL
 refine ⟨fun k=>?_,fun k=>?_⟩
 ·obtain ⟨m,val,⟨o,es,ep,ho,r⟩,hm,hv⟩:=h1 k
  exact ⟨m,val,⟨o,es,ep,e.keep _ _ ho (Free.of V.lnew.1) (hX _ (List.mem_cons_self ..)),r⟩,hm,hv.keep e.k _ _⟩
 ·obtain ⟨c,val,hc,⟨o,ho,hd⟩,hv⟩:=h2 k
  exact ⟨c,val,hc,⟨o,e.keep _ _ ho (Free.of (V.cnew n c hc).1) (hX _ (jr hc)),hd⟩,hv.keep e.k _ _⟩
structure Room (A : Around) (n : Nat) : Prop where
 depth : 3 * A.depth + n + 30 < 3 * recursionLimit
 units : A.units + 4 * n + 100 < cLine
 handled : A.handled = none
end Mine
namespace Mine
open PySem PySem.W PyProof.Rows
section
variable {prog : Program} {M : Model} {A : Around} {w : World} {B : Heap} {ρ : List Addr} {H : Hp} {s : Shared} {env : Env} {L : Loc} {E : Value → Shared → Prop}
theorem Ext.nil {ρ X : List Addr} {s s' : Shared} {δ : List Addr} (e : Ext (ρ ++ []) X s s' δ) : Ext ρ X s s' δ:=by rwa [List.append_nil] at e
theorem VR.still {ρ X : List Addr} {s s' : Shared} {x : PV} {v : Value} (h : VR s.heap ρ x v) (e : Still X s s') (hv : ∀ a ∈ X,∀ o,s.heap.get? a = some o → zM o = false) : VR s'.heap ρ x v:=by
 have z:=VR.keep (e.k (ρ:=ρ) hv) _ _ h
 rwa [List.append_nil] at z
theorem VR.still0 {ρ : List Addr} {s s' : Shared} {x : PV} {v : Value} (h : VR s.heap ρ x v) (e : Still [] s s') : VR s'.heap ρ x v:=h.still e fun uu h=>(nomatch h)
theorem vG {n : Str} {x : Nat} {v : PV} {val : Value} {X : List Addr} {Q : Unit → Shared → Prop} (hX : (env.kindOf n = some .local → env.locals ∈ X) ∧ ∀ c,env.kindOf n = some .cell → env.cells.lookup n = some c → c ∈ X) (R : Rel prog w B ρ H s.heap) (V : EnvOk B env ρ s.heap) (W : VarsOk env ρ s.heap L) (hn : nid n = some x)
  (hk : env.kindOf n = some .local ∨ env.kindOf n = some .cell) (hv : VR s.heap ρ v val)
  (hQ : ∀ s',Ext ρ X s s' [] → Rel prog w B ρ H s'.heap → EnvOk B env ρ s'.heap → VarsOk env ρ s'.heap (z5 L x v) → Q () s') : wpAny M A (storeName env n val) Q E s:=by
 rcases hk with hk | hk
 ·obtain ⟨m,hm⟩:=V.ns
  refine wpAny_storeName_local hk hm (fun h' hn' hs=>?_) (V.kind ▸ rfl)
  have st : Still [env.locals] s { s with heap:=h',toks:=s.toks + 1 }:=Still.sameBut _ hs (List.mem_singleton.mpr rfl) (by obtain ⟨o,es,ep,ho,_⟩:=hn';rw [ho];exact fun q=>nomatch q)
  have nv : ∀ a ∈ [env.locals],∀ o,s.heap.get? a = some o → zM o = false:=fun a ha o e=>by rw [List.mem_singleton.mp ha] at e;exact zhf hm e
  have k:=st.k (ρ:=ρ) nv
  have vk : ∀ {y u},VR s.heap ρ y u → VR h' ρ y u:=fun h=>h.still (s':={ s with heap:=h',toks:=s.toks + 1 }) st nv
  have kc : ∀ {c u},s.heap.IsCell c u → h'.IsCell c u:=fun {c u} h=>h.sameBut hs fun q=>zjk hm (q ▸ h)
  refine hQ _ ((st.ext nv).more fun a ha=>by rw [List.mem_singleton.mp ha];exact hX.1 hk) (R.still st nv fun a ha=>by rw [List.mem_singleton.mp ha];exact V.lnew) ?_ ?_
  ·exact ⟨V.kind,V.glob,V.bi,⟨_,hn'⟩,V.lnew,fun n c h=>(V.cell n c h).imp fun uu z=>kc z,V.cnew,V.cinj,V.has⟩
  ·intro n' x' v' h1 h2
   by_cases e : n' = n
   ·subst e
    rw [hn] at h1;cases h1
    have : v' = v:=by
     unfold z5 at h2
     rw [if_pos rfl] at h2
     exact (Option.some.inj h2).symm
    subst this
    exact ⟨fun uu=>⟨_,val,hn',if_pos rfl,vk hv⟩,fun q=>(by rw [hk] at q;rcases q with q | q <;> cases q)⟩
   ·have ne : x' ≠ x:=fun q=>e (jB (q ▸ h1) hn)
    have h3 : L x' = some v':=by
     unfold z5 at h2
     rwa [if_neg ne] at h2
    obtain ⟨w1,w2⟩:=W n' x' v' h1 h3
    refine ⟨fun q=>?_,fun q=>?_⟩
    ·obtain ⟨m',u,hm',hu,hr⟩:=w1 q
     replace hu:=(zre hm' hm) ▸ hu
     exact ⟨_,u,hn',(if_neg e).trans hu,vk hr⟩
    ·obtain ⟨c,u,hc,hu,hr⟩:=w2 q
     exact ⟨c,u,hc,kc hu,vk hr⟩
 ·obtain ⟨c,hc⟩:=V.has n (.inl hk)
  obtain ⟨v₀,hv₀⟩:=V.cell n c hc
  refine wpAny_storeName_cell V.kind hk hc hv₀ (fun h' hn' hs=>?_)
  have st : Still [c] s { s with heap:=h' }:=Still.sameBut s.toks hs (List.mem_singleton.mpr rfl) (by obtain ⟨o,ho,_⟩:=hn';rw [ho];exact fun q=>nomatch q)
  have nv : ∀ a ∈ [c],∀ o,s.heap.get? a = some o → zM o = false:=fun a ha o e=>by rw [List.mem_singleton.mp ha] at e;exact zpq hv₀ e
  have vk : ∀ {y u},VR s.heap ρ y u → VR h' ρ y u:=fun h=>h.still (s':={ s with heap:=h' }) st nv
  have kn : ∀ {m},s.heap.Ns env.locals m → h'.Ns env.locals m:=fun h=>h.sameBut hs fun q=>zjk h (q ▸ hv₀)
  refine hQ _ ((st.ext nv).more fun a ha=>by rw [List.mem_singleton.mp ha];exact hX.2 c hk hc) (R.still st nv fun a ha=>by rw [List.mem_singleton.mp ha];exact V.cnew n c hc) ?_ ?_
  ·refine ⟨V.kind,V.glob,V.bi,V.ns.imp fun uu z=>kn z,V.lnew,fun n' c' h=>?_,V.cnew,V.cinj,V.has⟩
   by_cases e : c' = c
   ·subst e;exact ⟨_,hn'⟩
   ·exact (V.cell n' c' h).imp fun uu z=>z.sameBut hs e
  ·intro n' x' v' h1 h2
   by_cases e : n' = n
   ·subst e
    rw [hn] at h1;cases h1
    have : v' = v:=by
     unfold z5 at h2
     rw [if_pos rfl] at h2
     exact (Option.some.inj h2).symm
    subst this
    exact ⟨fun q=>(by rw [hk] at q;cases q),fun uu=>⟨c,val,hc,hn',vk hv⟩⟩
   ·have ne : x' ≠ x:=fun q=>e (jB (q ▸ h1) hn)
    have h3 : L x' = some v':=by
     unfold z5 at h2
     rwa [if_neg ne] at h2
    obtain ⟨w1,w2⟩:=W n' x' v' h1 h3
    refine ⟨fun q=>?_,fun q=>?_⟩
    ·obtain ⟨m',u,hm',hu,hr⟩:=w1 q
     exact ⟨_,u,kn hm',hu,vk hr⟩
    ·obtain ⟨c',u,hc',hu,hr⟩:=w2 q
     exact ⟨c',u,hc',hu.sameBut hs fun q=>e (V.cinj _ _ c hc (q ▸ hc')).symm,vk hr⟩
theorem zd1 {n : Str} {x : Nat} {v : PV} {val : Value} {Q : Unit → Shared → Prop} (R : Rel prog w B ρ H s.heap) (V : EnvOk B env ρ s.heap) (W : VarsOk env ρ s.heap L) (hn : nid n = some x)
  (hk : env.kindOf n = some .local ∨ env.kindOf n = some .cell) (hv : VR s.heap ρ v val)
  (hQ : ∀ s',Ext ρ (ym env) s s' [] → Rel prog w B ρ H s'.heap → EnvOk B env ρ s'.heap → VarsOk env ρ s'.heap (z5 L x v) → Q () s') : wpAny M A (storeName env n val) Q E s :=
 vG ⟨fun uu=>List.mem_cons_self ..,fun c uu h=>jr h⟩ R V W hn hk hv hQ
theorem zrl {n : Str} {x : Nat} {v : PV} {Q : Value → Shared → Prop} (V : EnvOk B env ρ s.heap) (W : VarsOk env ρ s.heap L) (hn : nid n = some x)
  (hk : env.kindOf n = some .local ∨ env.kindOf n = some .cell ∨ env.kindOf n = some .free) (hL : L x = some v) (hd : (n == ("__classdict__" : Str)) = false)
  (hQ : ∀ val,VR s.heap ρ v val → Q val s) : wpAny M A (loadName env n) Q E s:=by
 obtain ⟨h1,h2⟩:=W n x v hn hL
 rcases hk with hk | hk | hk
 ·obtain ⟨m,val,hm,hv,hr⟩:=h1 hk
  exact wpAny_loadName_local V.kind hk hm hv (hQ val hr)
 ·obtain ⟨c,val,hc,hv,hr⟩:=h2 (.inl hk)
  exact wpAny_loadName_cell V.kind hk hc hv (hQ val hr)
 ·obtain ⟨c,val,hc,hv,hr⟩:=h2 (.inr hk)
  exact wpAny_loadName_free V.kind hk hc hv (hQ val hr) hd
theorem xY {n : Str} {v : Value} {Q : Value → Shared → Prop} (V : EnvOk B env ρ s.heap)
  (hg : (∀ A' Q' E',Q' (some v) s → wpAny M A' (nsGet mainGlobals n) Q' E' s) ∨ ((∀ A' Q' E',Q' none s → wpAny M A' (nsGet mainGlobals n) Q' E' s) ∧ ∀ A' Q' E',Q' (some v) s → wpAny M A' (nsGet builtinsNs n) Q' E' s))
  (hQ : Q v s) : wpAny M A (loadGlobal env n) Q E s:=by
 unfold loadGlobal
 rw [V.glob,V.bi]
 rcases hg with hg | ⟨hg,hb⟩
 ·exact wpAny_bind (hg _ _ _ (wpAny_pure hQ))
 ·refine wpAny_bind (hg _ _ _ ?_)
  first
   | exact wpAny_bind (wpAny_pure (wpAny_bind (hb _ _ _ (wpAny_pure hQ))))
   | exact wpAny_bind (hb _ _ _ (wpAny_pure hQ))
end
end Mine
namespace Mine
open PySem PySem.W PyProof.Rows
noncomputable def Post (prog : Program) (w : World) (B : Heap) (ρ : List Addr) (s : Shared) (H : Hp) (v : PV) (Q : Value → Shared → Prop) : Prop :=
 ∀ s' δ val,Ext ρ [] s s' δ → Rel prog w B (ρ ++ δ) H s'.heap → VR s'.heap (ρ ++ δ) v val → Q val s'
theorem Post.pure {prog : Program} {w : World} {B : Heap} {ρ : List Addr} {s s' : Shared} {H : Hp} {v : PV} {val : Value} {Q : Value → Shared → Prop} (P : Post prog w B ρ s H v Q) (R : Rel prog w B ρ H s.heap) (st : Still [] s s') (hv : VR s'.heap ρ v val) : Q val s' :=
 P s' [] val st.ext0 (by rw [List.append_nil];exact R.still0 st) (by rw [List.append_nil];exact hv)
theorem Post.eq2 {prog : Program} {w : World} {B : Heap} {ρ : List Addr} {s : Shared} {H H' : Hp} {v v' : PV} {Q : Value → Shared → Prop} (h : Post prog w B ρ s H' v' Q) (e : some (v,H) = some (v',H')) : Post prog w B ρ s H v Q:=by
 obtain ⟨rfl,rfl⟩:=z6 e
 exact h
theorem xl {h : Heap} {ρ : List Addr} : ∀ {l : List PV} {vs : List Value} {ns : List Int},zcj l = some ns → VRs h ρ l vs → IntsAre vs ns
 | [],vs,ns,e,r=>by cases e;cases r;exact .nil
 | x :: l,vs,ns,e,r=>by
  obtain ⟨v,t,rfl,h1,h2⟩:=r
  revert e;refine zk fun i hi=>zk fun l' e' e=>?_
  obtain rfl:=zH hi
  obtain ⟨tk,rfl⟩:=h1
  obtain rfl:=Option.some.inj e
  exact .cons i tk (xl e' h2)
section
variable {prog : Program} {A : Around} {w : World} {B : Heap} {ρ : List Addr} {H H' : Hp} {s : Shared} {E : Value → Shared → Prop} {P : Prg}
theorem xU {l b : Addr} {vs ws : List Value} {Q : Value → Shared → Prop} (hl : SeqAt s.heap l "list" vs.toArray) (hb : SeqAt s.heap b "list" ws.toArray)
  (h : Q (.ref s.heap.objs.size) { s with heap:=s.heap.push { cls:=.type "list",data:=.seq (vs ++ ws).toArray } }) (hsz : vs.length + ws.length ≤ sizeLine) :
  wpAny (model prog w) A (binaryOp .Add (.ref l) (.ref b)) Q E s:=by
 obtain ⟨⟨cls,dd,data,sl⟩,ho,hc,n,hd⟩:=id hl
 obtain ⟨⟨cls2,dd2,data2,sl2⟩,ho2,hc2,n2,hd2⟩:=id hb
 simp only at hc hd hc2 hd2
 subst hc hd hc2 hd2
 have e : vs.toArray ++ ws.toArray = (vs ++ ws).toArray:=by simp
 refine concat_meets ⟨_,ho,rfl⟩ ⟨_,ho2,rfl⟩ noFill_list_add seq_list_add PySem.F.slot_list_add PySem.F.entry_list_add (PySem.F.args_list_add_2 _ _) (list_addW l b vs.toArray ws.toArray n n2 dd dd2 sl sl2 (by simpa using hsz)) ⟨ho,ho2,?_⟩
 rw [e]
 exact h
theorem xJ {a : Int} (h : a.natAbs < 2 ^ 64) : Builtin.Int.intBits a ≤ 64:=intBits_le_64 (by lia) (by lia)
theorem zso {op : Bop} {a b z : Int} {t u : Tok} {Q : Value → Shared → Prop} (e : binI op a b = some z) (h : ∀ t k,Q (.int z t) { s with toks:=k }) :
  wpAny (model prog w) A (binaryOp op (.int a t) (.int b u)) Q E s:=by
 cases op with
 | Add=>obtain rfl:=Option.some.inj e;exact add_int (h _ _)
 | Sub=>obtain rfl:=Option.some.inj e;exact sub_int' (h _ _)
 | Mult=>revert e;exact zX fun g e=>by obtain rfl:=Option.some.inj e;exact mul_int (h _ _) (g.elim (fun g=>IntMulOk.of_left (xJ g)) fun g=>IntMulOk.of_right (xJ g))
 | FloorDiv =>
  revert e;refine zX fun g e=>?_
  obtain rfl:=Option.some.inj e
  exact floordiv_int g.1 (h _ _) (.inl (PyProof.noPylong_of_log2 (Nat.lt_trans ((Nat.log2_lt (fun q=>g.1 (Int.natAbs_eq_zero.mp q))).mpr g.2) (by decide))))
 | Mod=>revert e;exact zX fun g e=>by obtain rfl:=Option.some.inj e;exact mod_int' g (h _ _)
 | Pow=>revert e;exact zX fun g e=>by obtain rfl:=Option.some.inj e;exact pow_int_small g.1 g.2.1 g.2.2 (h _ _)
 | LShift=>revert e;exact zX fun g e=>by obtain rfl:=Option.some.inj e;exact lshift_int_small g.1 g.2.1 g.2.2 (h _ _)
 | RShift=>revert e;exact zX fun g e=>by obtain rfl:=Option.some.inj e;exact rshift_int g (h _ _)
 | BitAnd=>obtain rfl:=Option.some.inj e;exact and_int (h _ _)
 | BitOr=>obtain rfl:=Option.some.inj e;exact or_int (h _ _)
 | BitXor=>obtain rfl:=Option.some.inj e;exact xor_int (h _ _)
 | _=>exact zd e
structure CatOk (P : Prg) : Prop where
 cat : ∀ a b c,P.cat a b = some c → nid (nm a ++ nm b) = some c ∧ (nm a).length + (nm b).length ≤ sizeLine
 ofInt : ∀ i c,P.ofInt i = some c → 0 ≤ i ∧ i < 10 ∧ nid (Str.ofString (toString i)) = some c
theorem kO {n : Nat} (h : n ≤ lim) : n ≤ sizeLine:=Nat.le_trans h (by decide)
theorem Rel.listV (R : Rel prog w B ρ H s.heap) {i : Nat} {l : List PV} (e : H[i]? = some (.list l)) {a : Addr} (ha : LocA s.heap ρ i a) : ∃ vs,SeqAt s.heap a "list" vs.toArray ∧ VRs s.heap ρ l vs:=by
 obtain ⟨o,ho,vs,n,rfl,hr⟩:=R.obj i _ a e ha.1
 exact ⟨vs.toList,⟨_,ho,rfl,n,by simp⟩,hr⟩
theorem zoc (R : Rel prog w B ρ H s.heap) {x : PV} {a : Value} {l : List PV} (ha : VR s.heap ρ x a) (e : zs8 x H = some l) : ∃ la vs,a = .ref la ∧ SeqAt s.heap la "list" vs.toArray ∧ VRs s.heap ρ l vs:=by
 cases x with
 | lst y=>obtain rfl:=Option.some.inj e;obtain ⟨la,vs,q,_,h1,h2⟩:=ha;exact ⟨la,vs,q,h1,h2⟩
 | loc i=>obtain ⟨la,q,hi⟩:=ha;obtain ⟨vs,h1,h2⟩:=R.listV (yV e) hi;exact ⟨la,vs,q,h1,h2⟩
 | _=>exact zd e
theorem zsn (C : CatOk P) {op : Bop} {x y v : PV} {a b : Value} {Q : Value → Shared → Prop} (R : Rel prog w B ρ H s.heap) (ha : VR s.heap ρ x a) (hb : VR s.heap ρ y b)
  (e : kA P op x y H = some (v,H')) (hQ : Post prog w B ρ s H' v Q) : wpAny (model prog w) A (binaryOp op a b) Q E s:=by
 cases x with
 | int x =>
  revert e;refine zk fun y' hy=>zk fun z hz e=>?_
  obtain rfl:=zH hy
  obtain ⟨t,rfl⟩:=ha
  obtain ⟨u,rfl⟩:=hb
  replace hQ:=hQ.eq2 e
  exact zso hz fun t k=>hQ.pure R (Still.toks k) ⟨t,rfl⟩
 | str x =>
  revert e;refine zR fun ho=>zk fun y' hy=>zk fun z hz e=>?_
  obtain rfl:=jT ho
  obtain rfl:=kt hy
  obtain ⟨n1,t,rfl,h1⟩:=ha
  obtain ⟨n2,u,rfl,h2⟩:=hb
  replace hQ:=hQ.eq2 e
  obtain ⟨q,l⟩:=C.cat _ _ _ hz
  obtain rfl:=yT h1
  obtain rfl:=yT h2
  exact PyProof.Rows.add_str (fun t' tk=>hQ.pure R (Still.toks tk) ⟨_,t',rfl,q⟩) l
 | lst x =>
  revert e;refine zR fun ho=>zk fun y' hy=>zX fun g e=>?_
  obtain rfl:=jT ho
  replace hQ:=hQ.eq2 e
  obtain ⟨l,vs,rfl,n1,h1,h2⟩:=ha
  obtain ⟨m,ws,rfl,h3,h4⟩:=zoc R hb hy
  have st : Still [] s { s with heap:=s.heap.push { cls:=.type "list",data:=.seq (vs ++ ws).toArray },toks:=s.toks }:=Still.push _ _
  refine xU h1 h3 (hQ.pure R st ⟨_,vs ++ ws,rfl,R.off (Nat.le_refl _),⟨_,Heap.get?_push_size _ rfl,rfl,_,rfl⟩,?_⟩) (by rw [h2.length,h4.length];exact kO g)
  have k:=st.k (ρ:=ρ) fun uu h=>(nomatch h)
  have z1:=VRs.keep k _ _ h2
  have z2:=VRs.keep k _ _ h4
  rw [List.append_nil] at z1 z2
  exact z1.append z2
 | loc i =>
  revert e;refine zR fun ho=>zk fun x' hx=>zk fun y' hy=>zX fun g e=>?_
  obtain rfl:=jT ho
  obtain rfl:=jW hy
  replace hQ:=hQ.eq2 e
  obtain ⟨l,rfl,hi⟩:=ha
  obtain ⟨m,ws,rfl,n2,h3,h4⟩:=hb
  obtain ⟨vs,hl,hvs⟩:=R.listV (yV hx) hi
  refine xU hl h3 ?_ (by rw [hvs.length,h4.length];exact kO g)
  obtain ⟨R',x⟩:=R.alloc (m:=.list (x' ++ y')) (o:={ cls:=.type "list",data:=.seq (vs ++ ws).toArray }) s.toks ⟨_,_,rfl,hvs.append h4⟩
  exact hQ _ _ _ x R' ⟨_,rfl,R.newAt (zU _) (by show (s.heap.push _).get? _ ≠ none;rw [Heap.get?_push_size _ rfl];exact fun q=>nomatch q)⟩
 | bytes x =>
  revert e;refine zk fun z hz e=>?_
  replace hQ:=hQ.eq2 e
  obtain ⟨t,rfl⟩:=ha
  cases y with
  | bytes y =>
   revert hz;refine zR fun ho=>zX fun g hz=>?_
   obtain rfl:=jT ho
   obtain rfl:=Option.some.inj hz
   obtain ⟨u,rfl⟩:=hb
   exact KBy.add_bytes (by simpa using Nat.le_trans g (by decide)) fun t' k=>hQ.pure R (Still.toks k) ⟨t',by simp⟩
  | int m =>
   revert hz;refine zR fun ho=>zX fun g hz=>?_
   obtain rfl:=zlf ho
   obtain rfl:=Option.some.inj hz
   obtain ⟨u,rfl⟩:=hb
   exact bytes_mul_any g.2.2.2 (by lia) (by lia) (by exact zu2 g.1 rfl) fun t' k=>hQ.pure R (Still.toks k) ⟨t',rfl⟩
  | _=>exact zd hz
 | _=>exact zd e
end
end Mine
namespace Mine
open PySem PySem.W PyProof.Rows PySem.Spec
mutual
noncomputable def toD : PV → PyData
 | .none=>.none
 | .bool b=>.bool b
 | .int i=>.int i
 | .str n=>.str (nm n)
 | .tup l=>.tuple (wy l)
 | _=>.dict []
noncomputable def wy : List PV → List PyData
 | []=>[]
 | x :: r=>toD x :: wy r
end
theorem znu : (zcf.all PyData.strOk) = true:=by decide +kernel
theorem znq (n : Nat) : PyData.strOk (nm n) = true:=by
 unfold nm
 cases e : zcf[n]? with
 | none=>exact by decide +kernel
 | some s=>exact List.all_eq_true.mp znu s (List.mem_of_getElem? e)
mutual
theorem qb : ∀ (x : PV) (k : Nat),okD x k = true → (toD x).canLay0 = true ∧ (toD x).depth ≤ k
 | .none,k,e=>⟨rfl,Nat.zero_le _⟩
 | .bool b,k,e=>⟨rfl,Nat.zero_le _⟩
 | .int i,k,e=>⟨rfl,Nat.zero_le _⟩
 | .str n,k,e=>⟨znq n,Nat.zero_le _⟩
 | .bytes b,k,e=>nomatch e
 | .barr b,k,e=>nomatch e
 | .lst b,k,e=>nomatch e
 | .loc b,k,e=>nomatch e
 | .fn b,k,e=>nomatch e
 | .bi b,k,e=>nomatch e
 | .tup l,0,e=>nomatch e
 | .tup l,k + 1,e=>⟨(qG l k e).1,Nat.succ_le_succ (qG l k e).2⟩
theorem qG : ∀ (l : List PV) (k : Nat),xW l k = true → PyData.canLayAll0 (wy l) = true ∧ PyData.depthAll (wy l) ≤ k
 | [],k,e=>⟨rfl,Nat.zero_le _⟩
 | x :: r,k,e=>by
  have e:=Bool.and_eq_true_iff.mp e
  obtain ⟨a,b⟩:=qb x k e.1
  obtain ⟨c,d⟩:=qG r k e.2
  exact ⟨by show (PyData.canLay0 _ && PyData.canLayAll0 _) = true;rw [a,c];rfl,Nat.max_le.mpr ⟨b,d⟩⟩
end
mutual
theorem VR.reads {h : Heap} {ρ : List Addr} : ∀ (x : PV) (k : Nat) (v : Value),okD x k = true → VR h ρ x v → ∃ as,Reads h v (toD x) as
 | .none,k,v,e,r=>by cases r;exact ⟨_,.none⟩
 | .bool b,k,v,e,r=>by cases r;exact ⟨_,.bool b⟩
 | .int i,k,v,e,r=>by obtain ⟨t,rfl⟩:=r;exact ⟨_,.int i t⟩
 | .str n,k,v,e,r=>by obtain ⟨s,t,rfl,hn⟩:=r;rw [yT hn];exact ⟨_,.str _ t⟩
 | .bytes b,k,v,e,r=>nomatch e
 | .barr b,k,v,e,r=>nomatch e
 | .lst b,k,v,e,r=>nomatch e
 | .loc b,k,v,e,r=>nomatch e
 | .fn b,k,v,e,r=>nomatch e
 | .bi b,k,v,e,r=>nomatch e
 | .tup l,0,v,e,r=>nomatch e
 | .tup l,k + 1,v,e,r=>by
  obtain ⟨a,vs,rfl,_,⟨o,ho,hc,n,hd⟩,hr⟩:=r
  obtain ⟨as,h1⟩:=VRs.reads l k vs e hr
  exact ⟨_,.tuple ho hc hd (by simpa using h1)⟩
theorem VRs.reads {h : Heap} {ρ : List Addr} : ∀ (l : List PV) (k : Nat) (vs : List Value),xW l k = true → VRs h ρ l vs → ∃ as,ReadsAll h vs (wy l) as
 | [],k,vs,e,r=>by cases r;exact ⟨_,.nil⟩
 | x :: q,k,vs,e,r=>by
  obtain ⟨v,t,rfl,h1,h2⟩:=r
  have e:=Bool.and_eq_true_iff.mp e
  obtain ⟨a,ha⟩:=VR.reads x k v e.1 h1
  obtain ⟨b,hb⟩:=VRs.reads q k t e.2 h2
  exact ⟨_,.cons ha hb⟩
end
theorem VR.strOf {h : Heap} {ρ : List Addr} {n : Nat} {v : Value} (r : VR h ρ (.str n) v) : nid (nm n) = some n:=by
 obtain ⟨s,t,rfl,hn⟩:=r
 exact (yT hn) ▸ hn
theorem zr0 (y : PV) : PyData.eqv .none (toD y) = isNone y:=by cases y <;> rfl
theorem zr1 (a : Bool) (y : PV) : PyData.eqv (.bool a) (toD y) = eqB a y:=by
 cases y with
 | int i=>cases a <;> rfl
 | _=>rfl
theorem zur (a : Int) (y : PV) : PyData.eqv (.int a) (toD y) = eqI a y:=by
 cases y with
 | bool b=>cases b <;> rfl
 | _=>rfl
mutual
theorem wL {h h' : Heap} {ρ ρ' : List Addr} : ∀ (x y : PV) (k : Nat) (u v : Value),okD x k = true → okD y k = true → VR h ρ x u → VR h' ρ' y v → PyData.eqv (toD x) (toD y) = eqD x y
 | .none,y,_,_,_,_,_,_,_=>zr0 y
 | .bool a,y,_,_,_,_,_,_,_=>zr1 a y
 | .int a,y,_,_,_,_,_,_,_=>zur a y
 | .str a,y,k,u,v,_,_,r,q=>by
  cases y with
  | str b=>exact zrg r.strOf q.strOf
  | _=>rfl
 | .tup l,y,k,u,v,e,f,r,q=>by
  cases k with
  | zero=>exact nomatch e
  | succ k =>
   cases y with
   | tup m =>
    obtain ⟨a,vs,_,_,_,hr⟩:=r
    obtain ⟨b,ws,_,_,_,hq⟩:=q
    exact zfe l m k vs ws e f hr hq
   | _=>rfl
 | .bytes _,_,_,_,_,e,_,_,_=>nomatch e
 | .barr _,_,_,_,_,e,_,_,_=>nomatch e
 | .lst _,_,_,_,_,e,_,_,_=>nomatch e
 | .loc _,_,_,_,_,e,_,_,_=>nomatch e
 | .fn _,_,_,_,_,e,_,_,_=>nomatch e
 | .bi _,_,_,_,_,e,_,_,_=>nomatch e
theorem zfe {h h' : Heap} {ρ ρ' : List Addr} : ∀ (l m : List PV) (k : Nat) (us vs : List Value),xW l k = true → xW m k = true → VRs h ρ l us → VRs h' ρ' m vs → PyData.eqvAll (wy l) (wy m) = eqDs l m
 | [],m,_,_,_,_,_,_,_=>by cases m <;> rfl
 | x :: l,m,k,us,vs,e,f,r,q=>by
  cases m with
  | nil=>rfl
  | cons y m =>
   obtain ⟨u,us,_,r1,r2⟩:=r
   obtain ⟨v,vs,_,q1,q2⟩:=q
   have e:=Bool.and_eq_true_iff.mp e
   have f:=Bool.and_eq_true_iff.mp f
   show (PyData.eqv _ _ && PyData.eqvAll _ _) = (eqD x y && eqDs l m)
   rw [wL x y k u v e.1 f.1 r1 q1,zfe l m k us vs e.2 f.2 r2 q2]
end
theorem xS {h h' : Heap} {ρ ρ' : List Addr} {x : PV} {k : Nat} {u : Value} (ex : okD x k = true) (rx : VR h' ρ' x u) : ∀ (l : List PV) (vs : List Value),xW l k = true → VRs h ρ l vs → (wy l).any (fun y=>PyData.eqv y (toD x)) = zmb x l
 | [],vs,e,r=>rfl
 | y :: l,vs,e,r=>by
  obtain ⟨v,vs,_,r1,r2⟩:=r
  have e:=Bool.and_eq_true_iff.mp e
  show (PyData.eqv _ _ || List.any _ _) = (eqD y x || zmb x l)
  rw [wL y x k v u e.1 ex r1 rx,xS ex rx l vs e.2 r2]
section
variable {prog : Program} {A : Around} {w : World} {B : Heap} {ρ : List Addr} {H H' : Hp} {s : Shared} {E : Value → Shared → Prop} {P : Prg}
theorem eq_ok {n : Nat} (Rm : Room A n) {x y : PV} {a b : Value} {r : Bool} {Q : Value → Shared → Prop} (ha : VR s.heap ρ x a) (hb : VR s.heap ρ y b) (e : zk2 x y = some r) (h : Q (.bool r) s) :
  wpAny (model prog w) A (compareOp .Eq a b) Q E s:=by
 revert e;refine zR fun e1 e=>?_
 revert e;refine zR fun e2 e=>?_
 obtain rfl:=Option.some.inj e
 obtain ⟨as,r1⟩:=VR.reads _ _ _ e1 ha
 obtain ⟨bs,r2⟩:=VR.reads _ _ _ e2 hb
 have l1:=qb _ _ e1
 refine PySem.SeqAt.compareEq_reads r1 r2 l1.1 (qb _ _ e2).1 (by have:=Rm.units;have:=Nat.min_le_left (toD x).depth (toD y).depth;lia) ?_
 rw [wL x y 8 a b e1 e2 ha hb];exact h
theorem ne_ok {n : Nat} (Rm : Room A n) {x y : PV} {a b : Value} {r : Bool} {Q : Value → Shared → Prop} (ha : VR s.heap ρ x a) (hb : VR s.heap ρ y b) (e : zk2 x y = some r) (h : Q (.bool (!r)) s) :
  wpAny (model prog w) A (compareOp .NotEq a b) Q E s:=by
 revert e;refine zR fun e1 e=>?_
 revert e;refine zR fun e2 e=>?_
 obtain rfl:=Option.some.inj e
 obtain ⟨as,r1⟩:=VR.reads _ _ _ e1 ha
 obtain ⟨bs,r2⟩:=VR.reads _ _ _ e2 hb
 have l1:=qb _ _ e1
 refine PySem.SeqAt.compareNe_reads r1 r2 l1.1 (qb _ _ e2).1 (by have:=Rm.units;have:=Nat.min_le_left (toD x).depth (toD y).depth;lia) ?_
 rw [wL x y 8 a b e1 e2 ha hb];exact h
theorem in_ok {n : Nat} (Rm : Room A n) {T : String} (hT : T = "tuple" ∨ T = "list") {x : PV} {a : Value} {l : Addr} {ys : List PV} {vs : List Value} {r : Bool} {Q : Value → Shared → Prop} (ha : VR s.heap ρ x a) (hl : SeqAt s.heap l T vs.toArray) (hv : VRs s.heap ρ ys vs)
  (e : jt x ys = some r) (h : Q (.bool r) s) : wpAny (model prog w) A (compareOp .In a (.ref l)) Q E s:=by
 revert e;refine zR fun e1 e=>?_
 revert e;refine zR fun e2 e=>?_
 obtain rfl:=Option.some.inj e
 obtain ⟨as,r1⟩:=VR.reads _ _ _ e1 ha
 obtain ⟨bs,r2⟩:=VRs.reads _ _ _ e2 hv
 have l1:=qb _ _ e1
 have l2:=qG _ _ e2
 have hu : A.units + 1 + min (PyData.depthAll (wy ys)) (toD x).depth < cLine:=by have:=Rm.units;have:=Nat.min_le_right (PyData.depthAll (wy ys)) (toD x).depth;lia
 obtain ⟨o,ho,hc,m,hd⟩:=hl
 rw [← xS e1 ha ys vs e2 hv] at h
 rcases hT with rfl | rfl
 ·exact PySem.SeqAt.in_tuple_reads (.tuple ho hc hd (by simpa using r2)) r1 l2.1 l1.1 hu h
 ·exact PySem.SeqAt.in_list_reads (.list ho hc hd (by simpa using r2)) r1 l2.1 l1.1 hu h
theorem znm {n : Nat} (Rm : Room A n) {T : String} (hT : T = "tuple" ∨ T = "list") {x : PV} {a : Value} {l : Addr} {ys : List PV} {vs : List Value} {r : Bool} {Q : Value → Shared → Prop} (ha : VR s.heap ρ x a) (hl : SeqAt s.heap l T vs.toArray) (hv : VRs s.heap ρ ys vs)
  (e : jt x ys = some r) (h : Q (.bool (!r)) s) : wpAny (model prog w) A (compareOp .NotIn a (.ref l)) Q E s:=by
 revert e;refine zR fun e1 e=>?_
 revert e;refine zR fun e2 e=>?_
 obtain rfl:=Option.some.inj e
 obtain ⟨as,r1⟩:=VR.reads _ _ _ e1 ha
 obtain ⟨bs,r2⟩:=VRs.reads _ _ _ e2 hv
 have l1:=qb _ _ e1
 have l2:=qG _ _ e2
 have hu : A.units + 1 + min (PyData.depthAll (wy ys)) (toD x).depth < cLine:=by have:=Rm.units;have:=Nat.min_le_right (PyData.depthAll (wy ys)) (toD x).depth;lia
 obtain ⟨o,ho,hc,m,hd⟩:=hl
 rw [← xS e1 ha ys vs e2 hv] at h
 rcases hT with rfl | rfl
 ·exact PySem.SeqAt.notIn_tuple_reads (.tuple ho hc hd (by simpa using r2)) r1 l2.1 l1.1 hu h
 ·exact PySem.SeqAt.notIn_list_reads (.list ho hc hd (by simpa using r2)) r1 l2.1 l1.1 hu h
theorem KVR.get {h : Heap} {ρ : List Addr} {x : Nat} {n : Str} (hn : nid n = some x) : ∀ {es : List (Nat × PV)} {kvs : List (Str × Value)},KVR h ρ es kvs →
  (∃ pv v,dictGet x es = some pv ∧ valueAt kvs n = some v ∧ VR h ρ pv v) ∨ (dictGet x es = none ∧ valueAt kvs n = none)
 | [],kvs,r=>by cases r;exact .inr ⟨rfl,rfl⟩
 | e :: es,kvs,r=>by
  obtain ⟨s,v,q,rfl,h1,h2,h3⟩:=r
  simp only [dictGet]
  by_cases z : e.1 = x
  ·have z' : s = n:=jB (z ▸ h1) hn
   rw [show Nat.beq e.1 x = true by rw [z];exact Nat.beq_refl x]
   exact .inl ⟨e.2,v,rfl,by simp [valueAt,z'],h2⟩
  ·have z' : ¬ s = n:=fun q=>z (Option.some.inj (h1.symm.trans (q ▸ hn)))
   rw [show Nat.beq e.1 x = false by cases g : Nat.beq e.1 x with | false=>rfl | true=>exact absurd (Nat.eq_of_beq_eq_true g) z]
   rcases KVR.get hn h3 with ⟨pv,u,a,b,c⟩ | ⟨a,b⟩
   ·exact .inl ⟨pv,u,a,by simpa [valueAt,List.find?_cons,z'] using b,c⟩
   ·exact .inr ⟨a,by simpa [valueAt,List.find?_cons,z'] using b⟩
theorem vE {prog : Program} {w : World} (s : Str) (t : Tok) : (strKind prog w).is s (.str s t) = true:=strKind_is prog w s t
theorem beq_none (v : Value) : (v == Value.none) = true ↔ v = .none:=by
 constructor
 ·intro h;exact eq_of_beq h
 ·rintro rfl;exact beq_self_eq_true _
theorem za1 {h : Heap} {x : PV} {a : Value} (ha : VR h ρ x a) : (a == Value.none) = isNone x:=by
 cases x with
 | none=>cases ha;rfl
 | bool b=>cases ha;rfl
 | int i=>obtain ⟨t,rfl⟩:=ha;rfl
 | str n=>obtain ⟨s,t,rfl,_⟩:=ha;rfl
 | bytes b=>obtain ⟨t,rfl⟩:=ha;rfl
 | barr b=>obtain ⟨a,rfl,_⟩:=ha;rfl
 | tup l=>obtain ⟨a,vs,rfl,_⟩:=ha;rfl
 | lst l=>obtain ⟨a,vs,rfl,_⟩:=ha;rfl
 | loc i=>obtain ⟨a,rfl,_⟩:=ha;rfl
 | fn v=>subst ha;rfl
 | bi k=>subst ha;unfold qV isNone;split <;> rfl
end
end Mine
namespace Mine
open PySem PySem.W PyProof.Rows PySem.Spec
section
variable {prog : Program} {A : Around} {w : World} {B : Heap} {ρ : List Addr} {H H' : Hp} {s : Shared} {E : Value → Shared → Prop} {P : Prg}
theorem Rel.notSys (R : Rel prog w B ρ H s.heap) (hS : B.get? sysModules ≠ none) {a : Addr} {i : Nat} (h : LocA s.heap ρ i a) : (a == sysModules) = false:=by
 cases q : a == sysModules with
 | false=>rfl
 | true=>exact absurd (R.fresh a (List.mem_of_getElem? h.1)) (by rw [eq_of_beq q];exact hS)
theorem Rel.dictAt (R : Rel prog w B ρ H s.heap) {i : Nat} {es : List (Nat × PV)} (e : H[i]? = some (.dict es)) {a : Addr} (ha : LocA s.heap ρ i a) : ∃ kvs,s.heap.DictOf (strKind prog w) a kvs ∧ KVR s.heap ρ es kvs:=by
 obtain ⟨o,ho,kvs,hk,hr⟩:=R.obj i _ a e ha.1
 exact ⟨kvs,Heap.dictOf_iff.mpr ⟨o,ho,hk⟩,hr⟩
theorem Rel.listAt (R : Rel prog w B ρ H s.heap) {i : Nat} {l : List PV} (e : H[i]? = some (.list l)) {a : Addr} (ha : LocA s.heap ρ i a) : ∃ vs,SeqAt s.heap a "list" vs.toArray ∧ VRs s.heap ρ l vs:=by
 obtain ⟨o,ho,vs,n,rfl,hr⟩:=R.obj i _ a e ha.1
 exact ⟨vs.toList,⟨_,ho,rfl,n,by simp⟩,hr⟩
theorem zoo {n : Nat} (Rm : Room A n) (hS : B.get? sysModules ≠ none) {x y : PV} {a b : Value} {r : Bool} {Q : Value → Shared → Prop} (R : Rel prog w B ρ H s.heap) (ha : VR s.heap ρ x a) (hb : VR s.heap ρ y b)
  (e : inV x y H = some r) (g : Bool) (h : ∀ k,Q (.bool (xor g r)) { s with toks:=k }) : wpAny (model prog w) A (compareOp (cond g .NotIn .In) a b) Q E s:=by
 have go : ∀ {T : String} (hT : T = "tuple" ∨ T = "list") {l : Addr} {ys : List PV} {vs : List Value},SeqAt s.heap l T vs.toArray → VRs s.heap ρ ys vs → jt x ys = some r → wpAny (model prog w) A (compareOp (cond g .NotIn .In) a (.ref l)) Q E s:=fun {T} hT {l ys vs} h1 h2 e=>by
  have hh:=h s.toks
  cases g with
  | false=>rw [Bool.false_xor] at hh;exact in_ok Rm hT ha h1 h2 e hh
  | true=>rw [Bool.true_xor] at hh;exact znm Rm hT ha h1 h2 e hh
 cases y with
 | tup l =>
  obtain ⟨l,vs,rfl,_,h1,h2⟩:=hb
  exact go (.inl rfl) h1 h2 e
 | loc i =>
  obtain ⟨l,rfl,hi⟩:=hb
  revert e;refine zk fun o ho e=>?_
  cases o with
  | list l' =>
   obtain ⟨vs,h1,h2⟩:=R.listAt ho hi
   exact go (.inr rfl) h1 h2 e
  | dict es =>
   revert e;refine zk fun k hk e=>?_
   obtain rfl:=kt hk
   obtain rfl:=Option.some.inj e
   obtain ⟨kvs,hd,hr⟩:=R.dictAt ho hi
   obtain ⟨st,t,rfl,hn⟩:=ha
   have key : (valueAt kvs st).isSome = (dictGet k es).isSome:=by
    rcases hr.get hn with ⟨pv,v,q1,q2,q3⟩ | ⟨q1,q2⟩
    ·rw [q1,q2];rfl
    ·rw [q1,q2];rfl
   rw [← key] at h
   cases g with
   | false=>exact wpAny_in_of (vE st t) (R.notSys hS hi) hd.mapOf (by simpa only [Bool.false_xor] using h _)
   | true=>exact wpAny_notIn_of (vE st t) (R.notSys hS hi) hd.mapOf (by simpa only [Bool.true_xor] using h _)
  | _=>exact zd e
 | _=>exact zd e
theorem zsf {n : Nat} (Rm : Room A n) (hS : B.get? sysModules ≠ none) {op : Cop} {x y : PV} {a b : Value} {r : Bool} {Q : Value → Shared → Prop} (R : Rel prog w B ρ H s.heap) (ha : VR s.heap ρ x a) (hb : VR s.heap ρ y b)
  (e : jd op x y H = some r) (h : ∀ k,Q (.bool r) { s with toks:=k }) : wpAny (model prog w) A (compareOp op a b) Q E s:=by
 have hh : Q (.bool r) s:=h s.toks
 have num : ∀ {f : Int → Int → Bool} {o : CmpOp},(∀ {i j : Int} {t u : Tok},Q (.bool (f i j)) s → wpAny (model prog w) A (compareOp o (.int i t) (.int j u)) Q E s) → zpp f x y = some r → wpAny (model prog w) A (compareOp o a b) Q E s:=fun {f o} k e1=>by
  clear e
  revert e1;refine zk fun i hi=>zk fun j hj e=>?_
  obtain rfl:=zH hi
  obtain rfl:=zH hj
  obtain rfl:=Option.some.inj e
  obtain ⟨t,rfl⟩:=ha
  obtain ⟨u,rfl⟩:=hb
  exact k hh
 cases op with
 | Eq=>exact eq_ok Rm ha hb e hh
 | NotEq =>
  revert e;refine zk fun z hz e=>?_
  obtain rfl:=Option.some.inj e
  exact ne_ok Rm ha hb hz hh
 | Lt=>exact num (fun q=>PyProof.Rows.lt_int q) e
 | LtE=>exact num (fun q=>PyProof.Rows.le_int q) e
 | Gt=>exact num (fun q=>PyProof.Rows.gt_int q) e
 | GtE=>exact num (fun q=>PyProof.Rows.ge_int q) e
 | Is =>
  revert e;refine zk fun z hz e=>?_
  obtain rfl:=qn hz
  obtain rfl:=Option.some.inj e
  obtain rfl:=hb
  rw [← za1 ha] at hh
  exact is_none hh
 | IsNot =>
  revert e;refine zk fun z hz e=>?_
  obtain rfl:=qn hz
  obtain rfl:=Option.some.inj e
  obtain rfl:=hb
  rw [← za1 ha] at hh
  exact isNot_none hh
 | In=>exact zoo Rm hS R ha hb e false fun k=>by rw [Bool.false_xor];exact h k
 | NotIn =>
  revert e;refine zk fun z hz e=>?_
  obtain rfl:=Option.some.inj e
  exact zoo Rm hS R ha hb hz true fun k=>by rw [Bool.true_xor];exact h k
end
end Mine
namespace Mine
open PySem PySem.W PyProof.Rows PySem.Spec
set_option genCtorIdx false in
inductive SI : Value → Prop where
 | str (n : Nat) (t : Tok) : SI (.str (nm n) t)
 | int (i : Int) (t : Tok) : SI (.int i t)
theorem zgt {h : Heap} {ρ : List Addr} : ∀ {l : List PV} {vs : List Value},zi9 l = true → VRs h ρ l vs → ∀ v ∈ vs,SI v
 | [],vs,e,r=>by cases r;exact fun uu h=>nomatch h
 | x :: l,vs,e,r=>by
  obtain ⟨v,t,rfl,h1,h2⟩:=r
  cases x with
  | int i =>
   obtain ⟨tk,rfl⟩:=h1
   intro u hu
   rcases List.mem_cons.mp hu with rfl | hu
   ·exact .int i tk
   ·exact zgt (l:=l) e h2 u hu
  | str k =>
   obtain ⟨st,tk,rfl,hn⟩:=h1
   intro u hu
   rcases List.mem_cons.mp hu with rfl | hu
   ·rw [yT hn];exact .str k tk
   ·exact zgt (l:=l) e h2 u hu
  | _=>cases e
theorem wT {v : Value} (h : SI v) : carriedByValue v = true:=by cases h <;> rfl
theorem wS {h : Heap} : ∀ {vs : List Value},(∀ v ∈ vs,SI v) → ∃ xs as,ReadsAll h vs xs as ∧ PyData.canLayAll0 xs = true ∧ PyData.depthAll xs = 0
 | [],_=>⟨[],[],.nil,rfl,rfl⟩
 | v :: r,hv=>by
  obtain ⟨xs,as,h1,h2,h3⟩:=wS (h:=h) (vs:=r) fun u hu=>hv u (List.mem_cons_of_mem _ hu)
  have:=hv v (List.mem_cons_self ..)
  cases this with
  | str n t=>exact ⟨.str (nm n) :: xs,_,.cons (.str (nm n) t) h1,by show (PyData.strOk (nm n) && PyData.canLayAll0 xs) = true;rw [znq,h2];rfl,by show max 0 (PyData.depthAll xs) = 0;rw [h3];rfl⟩
  | int i t=>exact ⟨.int i :: xs,_,.cons (.int i t) h1,by show (true && PyData.canLayAll0 xs) = true;rw [h2];rfl,by show max 0 (PyData.depthAll xs) = 0;rw [h3];rfl⟩
section
variable {prog : Program} {w : World} {A : Around} {E : Value → Shared → Prop} {s : Shared}
theorem zqt {v : Value} (h : SI v) : ∃ i : Int,∀ (A : Around) (s : Shared) (Q : Int → Shared → Prop) (E : Value → Shared → Prop),(∀ k,Q i { s with toks:=k }) → wpAny (model prog w) A (pyHash v) Q E s:=by
 cases h with
 | str n t=>exact ⟨_,fun A s Q E hq=>wpAny_pyHash_str (hq _)⟩
 | int i t=>exact ⟨_,fun A s Q E hq=>wpAny_pyHash_int (hq _)⟩
theorem zmk {a : Addr} {o : Obj} {vs : Array Value} {n : Nat} {Q : Int → Shared → Prop} (hu : A.units < cLine) (ha : s.heap.get? a = some o) (hc : o.cls = .type "tuple") (hd : o.data = .seq vs n) (hv : ∀ v ∈ vs.toList,SI v)
  (h : ∀ i k,Q i { s with toks:=k }) : wpAny (model prog w) A (pyHash (.ref a)) Q E s:=by
 refine pyHash_slot (T:="tuple") ⟨o,ha,hc⟩ PySem.F.slot_tuple_hash PySem.F.entry_tuple_hash (PySem.F.args_tuple_hash_1 _) (beq_builtin_none _) (.inr hu) ?_
 show wpAny _ _ (Builtin.Tuple.tupleItemsOf (.ref a) >>= _) _ _ s
 refine wpAny_bind (wpAny_tupleItemsOf ha hd ?_)
 refine wpAny_bind ?_
 rw [← Array.forIn_toList]
 refine wpAny_forIn_list _ (fun rest uu s'=>(∀ v ∈ rest,SI v) ∧ ∃ k,s' = { s with toks:=k }) _ ?_ ?_ _ _ ⟨hv,s.toks,rfl⟩
 ·rintro x rest b s' ⟨hr,k,rfl⟩
  obtain ⟨i,hi⟩:=zqt (prog:=prog) (w:=w) (hr x (List.mem_cons_self ..))
  have hr' : ∀ v ∈ rest,SI v:=fun u hu=>hr u (List.mem_cons_of_mem _ hu)
  refine wpAny_bind (hi _ _ _ _ fun k'=>?_)
  first
   | exact wpAny_pure ⟨hr',k',rfl⟩
   | exact wpAny_bind (wpAny_pure (wpAny_pure ⟨hr',k',rfl⟩))
 ·rintro b s' ⟨_,k,rfl⟩
  exact wpAny_bind (wpAny_mkInt (wpAny_pure ⟨_,_,rfl,h _ _⟩))
theorem zqj (n : Nat) (x : Str) (t : Tok) : eqIsQuiet n (.str x t) = pure true:=eqIsQuiet_byValue n rfl
theorem zki {a : Addr} {o : Obj} {vs : Array Value} {n : Nat} {Q : Bool → Shared → Prop} (ha : s.heap.get? a = some o) (hc : o.cls = .type "tuple") (hd : o.data = .seq vs n) (hv : ∀ v ∈ vs.toList,SI v) (h : Q true s) :
  wpAny (model prog w) A (eqIsQuiet 8 (.ref a)) Q E s:=by
 have hT : s.TypeIs (.ref a) "tuple":=⟨o,ha,hc⟩
 unfold eqIsQuiet
 refine wpAny_bind (wpAny_specialOf hT PySem.F.slot_tuple_eq.lookup ?_)
 show wpAny _ _ (isInstance (.ref a) (.type "tuple") >>= _) _ _ s
 refine wpAny_bind (wpAny_isInstance hT isSubtype_tuple_tuple ?_)
 refine bm_if_false rfl ?_
 refine wpAny_bind (wpAny_seqItems ha hd ?_)
 refine wpAny_bind ?_
 show wpAny _ _ (forIn vs _ _) _ _ s
 rw [← Array.forIn_toList]
 refine wpAny_forIn_list _ (fun rest r s'=>(none,()) = r ∧ s = s' ∧ ∀ v ∈ rest,SI v) _ ?_ ?_ _ _ ⟨rfl,rfl,hv⟩
 ·rintro v rest r s' ⟨rfl,rfl,hall⟩
  refine wpAny_bind (wpAny_of_eq (eqIsQuiet_byValue _ (wT (hall v (List.mem_cons_self ..)))) (bm_if_false rfl ?_))
  exact wpAny_pure ⟨rfl,rfl,fun u hu'=>hall u (List.mem_cons_of_mem _ hu')⟩
 ·rintro r s' ⟨rfl,rfl,_⟩
  exact wpAny_pure h
theorem zkh {a : Addr} {o : Obj} {vs : Array Value} {n : Nat} {stored : List Value} {Q : Bool → Shared → Prop} (ha : s.heap.get? a = some o) (hc : o.cls = .type "tuple") (hd : o.data = .seq vs n) (hv : ∀ v ∈ vs.toList,SI v)
  (hst : ∀ v ∈ stored,SI v) (h : Q false s) : wpAny (model prog w) A (tableMayTell (.ref a) stored) Q E s:=by
 unfold tableMayTell
 split
 ·exact wpAny_pure h
 ·refine wpAny_bind (zki ha hc hd hv (bm_if_false rfl (wpAny_bind ?_)))
  refine wpAny_forIn_list _ (fun rest r s'=>s = s' ∧ (none,()) = r ∧ ∀ v ∈ rest,SI v) _ ?_ ?_ _ _ ⟨rfl,rfl,hst⟩
  ·rintro x rest r s' ⟨rfl,rfl,hr⟩
   refine wpAny_bind (wpAny_of_eq (eqIsQuiet_byValue _ (wT (hr x (List.mem_cons_self ..)))) (bm_if_false rfl ?_))
   exact wpAny_pure ⟨rfl,rfl,fun v hv=>hr v (List.mem_cons_of_mem _ hv)⟩
  ·rintro r s' ⟨rfl,rfl,_⟩
   exact wpAny_pure h
theorem zml {d a : Addr} {od o : Obj} {es : Array DictEntry} {ep n : Nat} {vs : Array Value} {i : Int} {Q : Option Nat → Shared → Prop} (hu : A.units + 10 < cLine) (hd : s.heap.get? d = some od) (hdd : od.data = .dict es ep)
  (hk : ∀ e ∈ es,SI e.key ∧ ∃ x t,e.key = .str x t) (ha : s.heap.get? a = some o) (hc : o.cls = .type "tuple") (hod : o.data = .seq vs n) (hv : ∀ v ∈ vs.toList,SI v) (h : Q none s) :
  wpAny (model prog w) A (dictFind d (.ref a) i) Q E s:=by
 have hst : ∀ v ∈ (placesWithHash es.size (fun j=>es[j]?.map (·.hash)) i).filterMap (fun j=>es[j]?.map (·.key)),SI v:=by
  intro v hv
  obtain ⟨j,_,hj⟩:=List.mem_filterMap.mp hv
  cases hej : es[j]? with
  | none=>rw [hej] at hj;cases hj
  | some e =>
   rw [hej] at hj
   obtain rfl : e.key = v:=by simpa using hj
   exact (hk e (Array.mem_of_getElem? hej)).1
 have hany : ¬ (es.any fun e=>e.key == Value.ref a && e.hash != i) = true:=by
  rw [← Array.any_toList,List.any_eq_true]
  rintro ⟨e,hin,hc⟩
  obtain ⟨x,t,hx⟩:=(hk e (Array.mem_toList_iff.mp hin)).2
  simp [hx] at hc
 obtain ⟨xs,as,r1,r2,r3⟩:=wS (h:=s.heap) hv
 unfold dictFind
 try with_reducible refine wpAny_holding ?_
 refine wpAny_bind (wpAny_dictEntries hd hdd ?_)
 dsimp only
 refine bm_if_false (show ((Value.ref a :: (placesWithHash es.size (fun j=>es[j]?.map (·.hash)) i).filterMap (fun j=>es[j]?.map (·.key))).all carriedByValue) = false from rfl) ?_
 refine bm_if_false (Bool.eq_false_iff.mpr hany) ?_
 refine bm_if_false (Bool.eq_false_iff.mpr fun q=>?_) ?_
 ·have q:=eq_of_beq q
  have:=hst (.ref a) (q ▸ List.mem_singleton.mpr rfl)
  cases this
 refine wpAny_bind (zkh ha hc hod hv hst (bm_if_false rfl (wpAny_bind ?_)))
 refine wpAny_forIn_list _ (fun rest b s'=>s = s' ∧ (none,none) = b) _ ?_ ?_ _ _ ⟨rfl,rfl⟩
 ·rintro x rest b s' ⟨rfl,rfl⟩
  cases hex : es[x]? with
  | none=>exact wpAny_pure ⟨rfl,rfl⟩
  | some e =>
   dsimp only
   by_cases hh : (e.hash == i) = true
   ·rw [if_pos hh]
    obtain ⟨g1,y,t,g2⟩:=hk e (Array.mem_of_getElem? hex)
    obtain ⟨xs',as',q1,q2,q3⟩:=wS (h:=s.heap) (vs:=[e.key]) (fun v hv=>by rw [List.mem_singleton.mp hv];exact g1)
    rw [g2] at q1 ⊢
    have hy : PyData.strOk y = true:=by rw [g2] at g1;cases g1;exact znq _
    refine wpAny_bind (wpAny_dictEpoch hd hdd (wpAny_bind (PySem.SeqAt.eqBoolOverData _ _ _ _ _ _ _ (.str y) (.tuple xs) _ _ _ (.str y t) (.tuple ha hc hod r1) hy r2 (by show A.units + min 0 _ < _;rw [Nat.zero_min];lia) (wpAny_bind (wpAny_dictEpoch hd hdd ?_)))))
    refine bm_if_false (bne_self_eq_false ep) (bm_if_false rfl (wpAny_bind (wpAny_rule ?_)))
    first
     | exact wpAny_pure ⟨rfl,rfl⟩
     | exact wpAny_bind (wpAny_pure (wpAny_pure ⟨rfl,rfl⟩))
     | (rw [if_neg (by simp)];exact wpAny_pure ⟨rfl,rfl⟩)
   ·rw [if_neg hh]
    exact wpAny_pure ⟨rfl,rfl⟩
 ·rintro b s' ⟨rfl,rfl⟩
  exact wpAny_pure h
theorem KVR.ents0 {h : Heap} {ρ : List Addr} : ∀ {es : List (Nat × PV)} {kvs : List (Str × Value)} {l : List DictEntry},KVR h ρ es kvs → Pairs (strKind prog w) l kvs → ∀ e ∈ l,SI e.key ∧ ∃ x t,e.key = .str x t
 | [],kvs,l,r,p=>by cases r;cases p;exact fun uu h=>nomatch h
 | x :: es,kvs,l,r,p=>by
  obtain ⟨s,v,q,rfl,h1,h2,h3⟩:=r
  cases p with
  | cons g1 g2 g3 =>
   intro e he
   rcases List.mem_cons.mp he with rfl | he
   ·obtain ⟨t,ht⟩:=Value.isStrOf_shape g1
    refine ⟨?_,_,_,ht⟩
    rw [ht,yT h1];exact .str _ _
   ·exact KVR.ents0 h3 g3 e he
theorem KVR.ents {h : Heap} {ρ : List Addr} {es : List (Nat × PV)} {kvs : List (Str × Value)} {o : Obj} (r : KVR h ρ es kvs) (d : o.IsDictOf (strKind prog w) kvs) : ∃ des dep,(∀ e ∈ des,SI e.key ∧ ∃ x t,e.key = .str x t) ∧ o.data = .dict des dep:=by
 obtain ⟨des,dep,_,dd,_,dp,_⟩:=d
 exact ⟨des,dep,fun e he=>r.ents0 dp e (Array.mem_toList_iff.mpr he),dd⟩
theorem xX {d a : Addr} (hs : (d == sysModules) = false) : MeetsIn prog w (Builtin.«dict.get» ⟨[.ref d,.ref a],[]⟩)
  (fun A R s=>A.in1.units + 10 < cLine ∧ ∃ od es ep o n vs,s.heap.get? d = some od ∧ od.data = .dict es ep ∧ (∀ e ∈ es,SI e.key ∧ ∃ x t,e.key = .str x t) ∧ s.heap.get? a = some o ∧ o.cls = .type "tuple" ∧ o.data = .seq vs n ∧ (∀ v ∈ vs.toList,SI v) ∧ ∀ k,R (.ok (.ret .none)) { s with toks:=k }) :=
 .of_wp fun A R s ⟨hu,od,es,ep,o,n,vs,h1,h2,h3,h4,h5,h6,h7,h8⟩=>by
  show wpAny _ _ (PySem.dictGet d (.ref a) >>= _) _ _ s
  unfold PySem.dictGet
  refine wpAny_bind (wpAny_holding (wpAny_bind (zmk (Nat.lt_of_le_of_lt (Nat.le_add_right _ _) hu) h4 h5 h6 h7 fun i k=>wpAny_bind ?_)))
  refine zml (s:={ s with toks:=k }) hu h1 h2 h3 h4 h5 h6 h7 ?_
  refine wpAny_pure ?_
  show wpAny _ _ (Builtin.Dict.missed d (.ref a) >>= _) _ _ _
  exact wpAny_bind (wpAny_missed_other hs (wpAny_pure ⟨.none,rfl,h8 k⟩))
end
end Mine
namespace Mine
open PySem PySem.W PyProof.Rows
theorem zb5 {h : Heap} {ρ : List Addr} {l : List PV} {vs : List Value} (r : VRs h ρ l vs) : ∀ is : List Nat,VRs h ρ (is.filterMap (l[·]?)) (is.filterMap (vs[·]?))
 | []=>rfl
 | i :: is=>by
  rw [List.filterMap_cons,List.filterMap_cons]
  cases e : l[i]? with
  | none =>
   have : vs[i]? = none:=by
    rw [List.getElem?_eq_none_iff] at e ⊢
    rw [r.length];exact e
   rw [this];exact zb5 r is
  | some x =>
   obtain ⟨v,hv,hr⟩:=r.get e
   exact hv ▸ ⟨v,_,rfl,hr,zb5 r is⟩
theorem VRs.pick {h : Heap} {ρ : List Addr} {l : List PV} {vs : List Value} (r : VRs h ρ l vs) (a b c : Option Int) : VRs h ρ (yx l a b c) (yx vs a b c):=by
 unfold yx
 exact r.length ▸ zb5 r _
theorem zk4 (vs : List Value) (a b c : Option Int) : slicePick vs.toArray a b c = (yx vs a b c).toArray:=by
 unfold slicePick yx
 simp
theorem zb6 {h : Heap} {ρ : List Addr} {x : PV} {v : Value} {a : Option Int} (e : zb7 x = some a) (r : VR h ρ x v) : IsPart v a:=by
 cases x with
 | none=>cases e;cases r;exact .none
 | int i=>cases e;obtain ⟨t,rfl⟩:=r;exact .int i t
 | _=>cases e
section
variable {prog : Program} {A : Around} {w : World} {B : Heap} {ρ : List Addr} {H H' : Hp} {s : Shared} {E : Value → Shared → Prop} {P : Prg}
noncomputable def xz : PySem.Expr → Nat
 | .Starred ..=>1
 | .Slice ..=>2
 | .Set ..=>3
 | .ListComp ..=>4
 | .SetComp ..=>5
 | .DictComp ..=>6
 | .Tuple ..=>7
 | .Name ..=>8
 | _=>0
noncomputable def xd (e : PySem.Expr) : Bool:=!(Nat.beq (xz e) 2)
theorem yn {e : PySem.Expr} (h : xd e = true) (o i : Value) : subscripted e false o i = operate [o,i] (getItem o i):=by
 cases e <;> first | rfl | exact absurd h Bool.false_ne_true | cases h
theorem wJ {n : Nat} {k : Int} {j : Nat} (e : zlg n k = some j) : 0 ≤ k ∧ k < n ∧ n ≤ lim ∧ j = k.toNat:=by
 revert e;refine zX fun h e=>?_
 obtain rfl:=Option.some.inj e
 exact ⟨h.1,h.2.1,h.2.2,rfl⟩
theorem vI {k : Int} {n : Nat} (h1 : k < n) (h2 : n ≤ lim) : k < 2 ^ 63:=Int.lt_trans (Int.lt_of_lt_of_le h1 (Int.ofNat_le.mpr h2)) (by decide)
theorem zow {value slice : PySem.Expr} (hn : xd slice = true) {x y v : PV} {a b : Value} {Q : Value → Shared → Prop} (R : Rel prog w B ρ H s.heap) (ha : VR s.heap ρ x a) (hb : VR s.heap ρ y b)
  (e : qr x y H = some v) (hQ : ∀ val k,VR s.heap ρ v val → Q val { s with toks:=k }) : wpAny (model prog w) A (subscriptTail value slice a b) Q E s:=by
 have lst : ∀ {la : Addr} {l : List PV} {vs : List Value},SeqAt s.heap la "list" vs.toArray → VRs s.heap ρ l vs → xj l y = some v → wpAny (model prog w) A (subscriptTail value slice (.ref la) b) Q E s:=fun {la l vs} h1 h2 e=>by
  revert e;refine zk fun k hk=>zk fun j hj e=>?_
  obtain rfl:=zH hk
  obtain ⟨t,rfl⟩:=hb
  obtain ⟨g1,g2,g3,rfl⟩:=wJ hj
  obtain ⟨u,hu,hr⟩:=h2.get e
  have ht : s.heap.IsList la vs.toArray:=h1
  exact tail_any ht.typeIs slot_list_getitem.lookup (wpAny_getItem_list ht g1 (vI g2 g3) (by simpa using hu) (hQ u s.toks hr)) (yn hn _ _)
 cases x with
 | tup l =>
  obtain ⟨l,vs,rfl,_,h1,h2⟩:=ha
  revert e;refine zk fun k hk=>zk fun j hj e=>?_
  obtain rfl:=zH hk
  obtain ⟨t,rfl⟩:=hb
  obtain ⟨g1,g2,g3,rfl⟩:=wJ hj
  obtain ⟨u,hu,hr⟩:=h2.get e
  have ht : IsTup s.heap l vs.toArray:=h1
  exact tail_any ht.typeIs PySem.F.slot_tuple_getitem.lookup (getItem_tuple ht (Int.le_trans (by decide) g1) (vI g2 g3) (seqIndex_of g1 (by rw [List.size_toArray,h2.length];exact g2)) (by simpa using hu) (hQ u s.toks hr)) (yn hn _ _)
 | lst l =>
  obtain ⟨la,vs,rfl,_,h1,h2⟩:=ha
  exact lst h1 h2 e
 | bytes bs =>
  obtain ⟨t,rfl⟩:=ha
  revert e;refine zk fun k hk=>zk fun j hj=>zk fun z hz e=>?_
  obtain rfl:=zH hk
  obtain ⟨u,rfl⟩:=hb
  obtain ⟨g1,g2,g3,rfl⟩:=wJ hj
  obtain rfl:=Option.some.inj e
  refine tail_any (T:="bytes") (typeIs_bytes s _ t) FB.slot_bytes_getitem.lookup (getItem_bytes (Nat.le_trans g3 (by decide)) g1 g2 ?_) (yn hn _ _)
  have : bs.getD k.toNat 0 = z:=by rw [List.getD_eq_getElem?_getD,hz];rfl
  exact this ▸ hQ _ _ ⟨_,rfl⟩
 | loc i =>
  obtain ⟨l,rfl,hi⟩:=ha
  revert e;refine zk fun o ho e=>?_
  cases o with
  | list l' =>
   obtain ⟨vs,h1,h2⟩:=R.listAt ho hi
   exact lst h1 h2 e
  | dict es =>
   revert e;refine zk fun k hk e=>?_
   obtain rfl:=kt hk
   obtain ⟨st,t,rfl,hs⟩:=hb
   obtain ⟨kvs,hd,hr⟩:=R.dictAt ho hi
   rcases hr.get hs with ⟨pv,u,q1,q2,q3⟩ | ⟨q1,q2⟩
   ·obtain rfl:=Option.some.inj (q1.symm.trans e)
    exact tail_any hd.typeIs slot_dict_getitem.lookup (wpAny_getItem_of (vE st t) hd.mapOf q2 (hQ u _ q3)) (yn hn _ _)
   ·exact zd (q1.symm.trans e)
  | _=>exact zd e
 | _=>exact zd e
end
end Mine
namespace Mine
open PySem PySem.W PyProof.Rows PySem.Builtin
namespace BA
theorem mro : mroOf (.type "bytearray") = pure [.type "bytearray",.type "object"]:=by rw [mroOf_type];kernel_rfl
theorem zhl : typeLookup (.type "bytearray") "__new__" = pure (some (.builtin "bytearray.__new__")):=by rw [typeLookup_type,builtinLookup_eq_fast];kernel_rfl
theorem slot_init : Slot "bytearray" "__init__" "bytearray.__init__" :=
 .of (owner:="bytearray") (n:="__init__") (by rw [typeLookup_type,builtinLookup_eq_fast];kernel_rfl) (by decide +kernel) (by decide +kernel) (by decide +kernel)
  (by first | exact .inl (by decide +kernel) | exact .inr (by decide +kernel)) (by rw [isSubtype_type];kernel_rfl)
theorem slot_getitem : Slot "bytearray" "__getitem__" "bytearray.__getitem__" :=
 .of (owner:="bytearray") (n:="__getitem__") (by rw [typeLookup_type,builtinLookup_eq_fast];kernel_rfl) (by decide +kernel) (by decide +kernel) (by decide +kernel)
  (by first | exact .inl (by decide +kernel) | exact .inr (by decide +kernel)) (by rw [isSubtype_type];kernel_rfl)
theorem slot_setitem : Slot "bytearray" "__setitem__" "bytearray.__setitem__" :=
 .of (owner:="bytearray") (n:="__setitem__") (by rw [typeLookup_type,builtinLookup_eq_fast];kernel_rfl) (by decide +kernel) (by decide +kernel) (by decide +kernel)
  (by first | exact .inl (by decide +kernel) | exact .inr (by decide +kernel)) (by rw [isSubtype_type];kernel_rfl)
theorem slot_len : Slot "bytearray" "__len__" "bytearray.__len__" :=
 .of (owner:="bytearray") (n:="__len__") (by rw [typeLookup_type,builtinLookup_eq_fast];kernel_rfl) (by decide +kernel) (by decide +kernel) (by decide +kernel)
  (by first | exact .inl (by decide +kernel) | exact .inr (by decide +kernel)) (by rw [isSubtype_type];kernel_rfl)
theorem called : TypeCalled "bytearray" "bytearray.__new__" "bytearray.__init__" :=
 ⟨by decide +kernel,by decide +kernel,⟨_,_,mro⟩,madeBy_type mro zhl (by decide +kernel),by decide +kernel,by rw [isSubtype_type];kernel_rfl,slot_init⟩
theorem typeCall (a : Value) : checkTypeCall "bytearray" ⟨[a],[]⟩ = pure ():=by kernel_rfl
theorem newCall (a : Value) : checkBuiltinCall "bytearray.__new__" ⟨[.type "bytearray",a],[]⟩ = pure ():=by kernel_rfl
theorem entry_init : entryFor table "bytearray.__init__" = some Builtin.«bytearray.__init__»:=by first | exact entryFor_of_fast (by kernel_rfl) | exact entryFor_of_tree (by kernel_rfl)
theorem entry_getitem : entryFor table "bytearray.__getitem__" = some Builtin.«bytearray.__getitem__»:=by first | exact entryFor_of_fast (by kernel_rfl) | exact entryFor_of_tree (by kernel_rfl)
theorem entry_setitem : entryFor table "bytearray.__setitem__" = some Builtin.«bytearray.__setitem__»:=by first | exact entryFor_of_fast (by kernel_rfl) | exact entryFor_of_tree (by kernel_rfl)
theorem entry_len : entryFor table "bytearray.__len__" = some Builtin.«bytearray.__len__»:=by first | exact entryFor_of_fast (by kernel_rfl) | exact entryFor_of_tree (by kernel_rfl)
theorem look_release : typeLookup (.type "bytearray") "__release_buffer__" = pure (some (.builtin "bytearray.__release_buffer__")):=by rw [typeLookup_type,builtinLookup_eq_fast];kernel_rfl
theorem look_release_bytes : typeLookup (.type "bytes") "__release_buffer__" = pure none:=by rw [typeLookup_type,builtinLookup_eq_fast];kernel_rfl
theorem look_buffer : typeLookup (.type "bytearray") "__buffer__" = pure (some (.builtin "bytearray.__buffer__")):=by rw [typeLookup_type,builtinLookup_eq_fast];kernel_rfl
theorem look_buffer_bytes : typeLookup (.type "bytes") "__buffer__" = pure (some (.builtin "bytes.__buffer__")):=by rw [typeLookup_type,builtinLookup_eq_fast];kernel_rfl
theorem look_index_bytes : typeLookup (.type "bytes") "__index__" = pure none:=by rw [typeLookup_type,builtinLookup_eq_fast];kernel_rfl
theorem look_index : typeLookup (.type "bytearray") "__index__" = pure none:=by rw [typeLookup_type,builtinLookup_eq_fast];kernel_rfl
theorem look_int_bytes : typeLookup (.type "bytes") "__int__" = pure none:=by rw [typeLookup_type,builtinLookup_eq_fast];kernel_rfl
theorem look_float_bytes : typeLookup (.type "bytes") "__float__" = pure none:=by rw [typeLookup_type,builtinLookup_eq_fast];kernel_rfl
theorem look_bytes_bytes : typeLookup (.type "bytes") "__bytes__" = pure (some (.builtin "bytes.__bytes__")):=by rw [typeLookup_type,builtinLookup_eq_fast];kernel_rfl
theorem look_bytes : typeLookup (.type "bytearray") "__bytes__" = pure none:=by rw [typeLookup_type,builtinLookup_eq_fast];kernel_rfl
theorem look_index_int : typeLookup (.type "int") "__index__" = pure (some (.builtin "int.__index__")):=by rw [typeLookup_type,builtinLookup_eq_fast];kernel_rfl
theorem zla : typeLookup (.type "slice") "__index__" = pure none:=by rw [typeLookup_type,builtinLookup_eq_fast];kernel_rfl
theorem bind1 (v : Value) : Builtin.Bytes.bindOptional "bytearray.__init__" "bytearray" ["source","encoding","errors"] [v] [] = pure [some v,none,none]:=by kernel_rfl
theorem sub_self : isSubtype (.type "bytearray") (.type "bytearray") = pure true:=by rw [isSubtype_type];kernel_rfl
theorem sub_bytes_ba : isSubtype (.type "bytes") (.type "bytearray") = pure false:=by rw [isSubtype_type];kernel_rfl
theorem sub_bytes_cx : isSubtype (.type "bytes") (.type "complex") = pure false:=by rw [isSubtype_type];kernel_rfl
theorem sub_bytes : isSubtype (.type "bytes") (.type "bytes") = pure true:=by rw [isSubtype_type];kernel_rfl
theorem args_init (a v : Value) : argsOk "bytearray.__init__" ⟨[a,v],[]⟩:=by
 unfold argsOk;first | kernel_rfl | (rw [signature?_of (id:="bytearray.__init__") (n:="__init__".toList.reverse) (o:="bytearray".toList.reverse) (by kernel_rfl) (by kernel_rfl)];kernel_rfl)
theorem zuc : plainId "bytearray.__init__" = true:=by decide +kernel
theorem plain_new : plainId "bytearray.__new__" = true:=by decide +kernel
end BA
end Mine
namespace Mine
open PySem PySem.W PyProof.Rows PySem.Builtin
set_option maxRecDepth 1000000 in
set_option maxHeartbeats 4000000 in
theorem zb8 : ("bytearray.__new__".splitOn ".__new__").headD "" = "bytearray":=by simp +decide [String.splitOn,String.splitOnAux]
section
variable {prog : Program} {w : World} {A : Around} {E : Value → Shared → Prop} {s : Shared}
noncomputable def vz (b : List UInt8) : Obj:={ cls:=.type "bytearray",data:=.bytearray b.toArray 0 }
theorem z9 {a : Addr} {b : List UInt8} (h : BarrAt s.heap a b) : s.TypeIs (.ref a) "bytearray":=⟨_,h,rfl⟩
theorem zcs : entryFor table "bytearray.__new__" = some Builtin.«list.__new__»:=entryFor_alias (id':="list.__new__") (by kernel_rfl) (by first | rfl | decide +kernel) (by decide +kernel) (by kernel_rfl)
theorem zfk (a : Value) {Q₁ : Value → Shared → Prop}
  (h : Q₁ (.ref s.heap.objs.size) { s with heap:=s.heap.push (vz []) }) :
  codeAny (model prog w) A (.call (.builtin "bytearray.__new__") ⟨[.type "bytearray",a],[]⟩) (wants Q₁ E) s:=by
 refine codeAny_of_tree ?_
 show wpAny _ A.in1 (do checkBuiltinCall "bytearray.__new__" ⟨[.type "bytearray",a],[]⟩;again (.builtin "bytearray.__new__" ⟨[.type "bytearray",a],[]⟩)) _ _ s
 refine wpAny_bind (wpAny_of_eq (BA.newCall a) (wpAny_pure ⟨plainId_quiet BA.plain_new _,codeAny_builtin_stack zcs rfl fun p st=>?_⟩))
 rw [Around.under_plainId BA.plain_new _]
 have hsub:=BA.sub_self
 have hown:=zb8
 obtain ⟨hp,g,d,tk,os⟩:=s
 simp only [hown]
 wp_walk
 exact h
theorem zcx : ("bytearray.__release_buffer__".dropRight ("__release_buffer__".length + 1)) = "bytearray":=by decide +kernel
theorem kE {a : Addr} {b : List UInt8} {Q : Bool → Shared → Prop} (h : BarrAt s.heap a b) (hQ : Q false s) : wpAny (model prog w) A (Bytes.ownRelease (.ref a)) Q E s:=by
 unfold Bytes.ownRelease Bytes.slotIsOwn
 refine wpAny_bind (wpAny_bind (wpAny_specialOf (z9 h) BA.look_release ?_))
 show wpAny _ _ (if (!_) = true then _ else _) _ _ _
 refine bm_if_false (by decide +kernel) ?_
 show wpAny _ _ (isInstance (.ref a) (.type _)) _ _ _
 rw [zcx]
 refine wpAny_isInstance (U:="bytearray") (z9 h) BA.sub_self ?_
 exact wpAny_pure hQ
theorem yY {a : Addr} {b : List UInt8} {f : Array UInt8 → Array UInt8} {b' : List UInt8} {Q : Unit → Shared → Prop} (h : BarrAt s.heap a b) (e : f b.toArray = b'.toArray) (hz : b'.length ≤ sizeLine)
  (hQ : ∀ h',Heap.SameBut a s.heap h' → BarrAt h' a b' → Q () { s with heap:=h' }) : wpAny (model prog w) A (Bytes.write (.ref a) f) Q E s:=by
 show wpAny _ _ (updateBytearray a f) _ _ _
 unfold updateBytearray
 refine wpAny_bind (wpAny_load h ?_)
 show wpAny _ _ (update a (Obj.mapBytearray f) >>= fun uu=>lookBehind a) _ _ _
 refine wpAny_bind (wpAny_update h ?_)
 have h₂ : BarrAt (s.heap.update a (Obj.mapBytearray f)) a b':=by
  have z:=Heap.get?_update_self (Obj.mapBytearray f) h rfl
  unfold BarrAt
  rw [z]
  unfold Obj.mapBytearray
  simp only [e]
 refine wpAny_lookBehind h₂ ?_ (hQ _ (Heap.SameBut.update ..) h₂)
 show (if b'.toArray.size > sizeLine then some "bytearray:memory" else none) = none
 rw [if_neg]
 simpa using hz
theorem zF {α : Type} {M : Model} {c : Bool} {a b : Sem α} {Q : α → Shared → Prop} (hc : c = false) (h : wpN M A b Q E s) : wpN M A (if c = true then a else b) Q E s:=by
 subst hc
 exact h
theorem yk {α : Type} {M : Model} {c : Bool} {a b : Sem α} {Q : α → Shared → Prop} (hc : c = true) (h : wpN M A a Q E s) : wpN M A (if c = true then a else b) Q E s:=by
 subst hc
 exact h
theorem zfh : ("bytes.__buffer__".dropRight ("__buffer__".length + 1)) = "bytes":=by decide +kernel
theorem xC : ("bytearray.__buffer__".dropRight ("__buffer__".length + 1)) = "bytearray":=by decide +kernel
theorem zdc {id : String} {b : Array UInt8} {t : Tok} {full : Bool} {Q : Option (Array UInt8) → Shared → Prop} (hQ : Q (some b) s) : wpAny (model prog w) A (Bytes.buffer? id (.bytes b t) full) Q E s:=by
 unfold Bytes.buffer?
 refine wpAny_bind (wpAny_specialOf (T:="bytes") (typeIs_bytes _ _ t) BA.look_buffer_bytes ?_)
 refine wpAny_bind ?_
 unfold Bytes.slotIsOwn
 refine wpAny_bind (wpAny_specialOf (T:="bytes") (typeIs_bytes _ _ t) BA.look_buffer_bytes ?_)
 refine bm_if_false (by decide +kernel) ?_
 rw [zfh]
 refine wpAny_isInstance (T:="bytes") (typeIs_bytes _ _ t) BA.sub_bytes ?_
 refine bm_if_false rfl ?_
 refine wpAny_bind (wpAny_specialOf (T:="bytes") (typeIs_bytes _ _ t) BA.look_buffer_bytes ?_)
 refine wpAny_bind ?_
 unfold Bytes.ownRelease Bytes.slotIsOwn
 refine wpAny_bind (wpAny_bind (wpAny_specialOf (T:="bytes") (typeIs_bytes _ _ t) BA.look_release_bytes ?_))
 refine wpAny_pure ?_
 refine wpAny_pure ?_
 refine bm_if_false rfl ?_
 exact wpAny_bind (wpAny_pure (wpAny_pure hQ))
theorem zlw {id : String} {a : Addr} {b : List UInt8} {full : Bool} {Q : Option (Array UInt8) → Shared → Prop} (h : BarrAt s.heap a b) (hQ : Q (some b.toArray) s) : wpAny (model prog w) A (Bytes.buffer? id (.ref a) full) Q E s:=by
 unfold Bytes.buffer?
 refine wpAny_bind (wpAny_specialOf (z9 h) BA.look_buffer ?_)
 refine wpAny_bind ?_
 unfold Bytes.slotIsOwn
 refine wpAny_bind (wpAny_specialOf (z9 h) BA.look_buffer ?_)
 refine bm_if_false (by decide +kernel) ?_
 rw [xC]
 refine wpAny_isInstance (z9 h) BA.sub_self ?_
 refine bm_if_false rfl ?_
 refine wpAny_bind (wpAny_specialOf (z9 h) BA.look_buffer ?_)
 refine wpAny_bind (kE h ?_)
 refine bm_if_false rfl ?_
 unfold Bytes.payload Bytes.payload?
 exact wpAny_bind (wpAny_bind (wpAny_bind (wpAny_load h (wpAny_pure (wpAny_pure (wpAny_pure hQ))))))
set_option genCtorIdx false in
inductive BaSrc : Value → List UInt8 → Prop where
 | bytes (b : List UInt8) (t : Tok) : b.length ≤ 1000 → BaSrc (.bytes b.toArray t) b
 | int (n : Int) (t : Tok) : 0 ≤ n → n ≤ 1000 → BaSrc (.int n t) (List.replicate n.toNat 0)
theorem zsq {A' : Around} {a : Addr} {v : Value} {b : List UInt8} {R : Result → Shared → Prop} (hb : BaSrc v b) (h : BarrAt s.heap a [])
  (hQ : ∀ h',Heap.SameBut a s.heap h' → BarrAt h' a b → R (.ok (.ret .none)) { s with heap:=h' }) :
  wpN (model prog w) A (Builtin.«bytearray.__init__» ⟨[.ref a,v],[]⟩) (fun fin s'=>match fin with | .done f=>R (.ok f) s' | .again c'=>c'.quiet = true ∧ jG c' = true ∧ z4 (model prog w) A' c' R s')
   (fun e s'=>R (.error e) s') s:=by
 unfold Builtin.«bytearray.__init__»
 refine zm (kE h ?_)
 show wpN _ _ (Bytes.bindOptional "bytearray.__init__" "bytearray" ["source","encoding","errors"] [v] [] >>= _) _ _ _
 refine zb (zT (BA.bind1 v) ?_)
 refine zb (zT (a:=()) rfl ?_)
 refine zb (zT (a:=()) rfl ?_)
 refine zb (zb (zbq ?_))
 show wpN _ _ (Bytes.exportsOf (.ref a) >>= _) _ _ _
 refine wpN.of (wpAny_bind (wpAny_bind (wpAny_load h (wpAny_pure (wpAny_pure ?_)))))
 refine zF rfl ?_
 refine wpN.of ?_
 refine wpAny_bind (yY (b':=[]) h rfl (Nat.zero_le _) fun h₁ hs₁ hb₁=>?_)
 cases hb with
 | bytes b t hl =>
  refine wpAny_bind (wpAny_of_eq (a:=none) rfl ?_)
  refine bm_if_false rfl ?_
  refine wpAny_bind (wpAny_of_eq (a:=()) rfl ?_)
  refine wpAny_bind (wpAny_specialOf (T:="bytes") (typeIs_bytes _ _ t) BA.look_index_bytes ?_)
  refine bm_if_false rfl ?_
  refine wpAny_bind (zdc ?_)
  refine wpAny_bind (wpAny_rule ?_)
  refine wpAny_bind (yY (s:={ s with heap:=h₁ }) (b':=b) hb₁ rfl (Nat.le_trans hl (by decide)) fun h₂ hs₂ hb₂=>?_)
  refine wpAny_pure ?_
  exact hQ h₂ (hs₁.trans hs₂) hb₂
 | int n t h0 h1 =>
  refine wpAny_bind (wpAny_of_eq (a:=none) rfl ?_)
  refine bm_if_false rfl ?_
  refine wpAny_bind (wpAny_of_eq (a:=()) rfl ?_)
  refine wpAny_bind (wpAny_specialOf (T:="int") (typeIs_int _ n t) BA.look_index_int ?_)
  refine bm_if_true rfl ?_
  refine wpAny_bind (wpAny_attempt (wpAny_of_eq (rfl : asIndex (.int n t) = pure n) ?_))
  have e1 : (!Bytes.fitsIndex n) = false:=by
   simp only [Bytes.fitsIndex,Bool.not_eq_false',Bool.and_eq_true,decide_eq_true_eq];lia
  have e3 : (n == 2 ^ 63 - 1) = false:=beq_false_of_ne (by lia)
  have e4 : Bytes.tooLong n.toNat = false:=by
   simp only [Bytes.tooLong,decide_eq_false_iff_not,sizeLine_eq];lia
  refine bm_if_false e1 ?_
  rw [if_neg (by exact Int.not_lt.mpr h0)]
  refine bm_if_false e3 ?_
  refine bm_if_false e4 ?_
  refine wpAny_bind (wpAny_rule ?_)
  by_cases hn : n > 0
  ·rw [if_pos hn]
   refine wpAny_bind (yY (s:={ s with heap:=h₁ }) (b':=List.replicate n.toNat 0) hb₁ (by simp) (by rw [List.length_replicate,sizeLine_eq];lia) fun h₂ hs₂ hb₂=>?_)
   refine wpAny_pure ?_
   exact hQ h₂ (hs₁.trans hs₂) hb₂
  ·rw [if_neg hn]
   have : n = 0:=by lia
   subst this
   refine wpAny_pure ?_
   exact hQ h₁ hs₁ hb₁
end
end Mine
namespace Mine
open PySem PySem.W PyProof.Rows PySem.Builtin
section
variable {prog : Program} {w : World} {A : Around} {E : Value → Shared → Prop} {s : Shared}
theorem jM {id : String} {args : Args} {b : Builtin} {R : Result → Shared → Prop} (hb : entryFor table id = some b)
  (h : wpN (model prog w) (A.under (.builtin id args)) (b args)
   (fun fin s'=>match fin with | .done f=>R (.ok f) s' | .again c'=>c'.quiet = true ∧ jG c' = true ∧ z4 (model prog w) A c' R s') (fun e s'=>R (.error e) s') s) :
  z4 (model prog w) A (.builtin id args) R s:=by
 refine zB ?_
 show wpN _ _ (match entryFor table id with | some b=>b args | none=>unsupported ((withoutEnding? id "#data").getD id)) _ _ s
 exact hb ▸ h
theorem zda {id : String} (h : q6.contains id = false) (args : Args) : jG (.builtin id args) = true:=by
 show (!q6.contains id) = true
 rw [h];rfl
theorem wpN_callSpecial?_slot {self : Value} {T : String} {name : Str} {id : String} {args : List Value} {kw : List (Str × Value)}
  {Q : Option Value → Shared → Prop} (hT : s.TypeIs self T) (h : Slot T name id)
  (hc : wpN (model prog w) A (call (.builtin id) (self :: args) kw) (fun v=>Q (some v)) E s) : wpN (model prog w) A (callSpecial? self name args kw) Q E s:=by
 simp only [callSpecial?]
 refine zm (wpAny_specialOf hT h.lookup ?_)
 simp only [h.bind]
 exact zp (zb (zg (zb (zW hc (fun v s' h'=>zg h') fun uu uu h'=>h'))))
theorem kB {T : String} {name : Str} {id : String} {b : Builtin} {self : Value} {rest : List Value} {Q : Value → Shared → Prop} (h : Slot T name id) (hT : s.TypeIs self T)
  (hb : entryFor table id = some b) (hcl : q6.contains id = false) (ha : argsOk id ⟨self :: rest,[]⟩)
  (hc : wpN (model prog w) A.in1 (b ⟨self :: rest,[]⟩) (fun fin s'=>match fin with | .done f=>wants Q E (.ok f) s' | .again c'=>c'.quiet = true ∧ jG c' = true ∧ z4 (model prog w) A c' (wants Q E) s') (fun e s'=>wants Q E (.error e) s') s) :
  wpN (model prog w) A (call (.builtin id) (self :: rest)) Q E s:=by
 refine kX (zB ?_)
 show wpN _ A.in1 (do checkBuiltinCall id ⟨self :: rest,[]⟩;again (.builtin id ⟨self :: rest,[]⟩)) _ _ s
 refine zm (h.check _ _ _ _ _ _ _ _ hT ha (zg ⟨plainId_quiet h.plain _,zda hcl _,jM hb ?_⟩))
 exact (Around.under_plainId h.plain _) ▸ hc
theorem zj6 {v : Value} {b : List UInt8} {Q : Value → Shared → Prop} (hb : BaSrc v b)
  (hQ : ∀ h',Heap.SameBut s.heap.objs.size (s.heap.push (vz [])) h' → BarrAt h' s.heap.objs.size b → Q (.ref s.heap.objs.size) { s with heap:=h' }) :
  wpN (model prog w) A (call (.type "bytearray") [v]) Q E s:=by
 refine kX (zB ?_)
 show wpN _ _ (callAny (.type "bytearray") _) _ _ _
 refine zg ⟨Code.quiet_builtin _ (by decide +kernel),zda (by decide +kernel) _,jM F.entry_type_call ?_⟩
 rw [Around.under_plain (weight_type_call_type "bytearray" [v] []) rfl]
 unfold Builtin.«type.__call__»
 refine zF (by decide) ?_
 refine zF BA.called.canCreate ?_
 refine zb (zT (BA.typeCall v) ?_)
 refine zb (zT BA.mro ?_)
 refine zF rfl ?_
 refine zb (zT BA.called.made ?_)
 refine zb (zg ?_)
 refine zm (wpAny_holding (wpAny_call (zfk v ?_)))
 have hB : BarrAt (s.heap.push (vz [])) s.heap.objs.size []:=Heap.get?_push_size _ rfl
 have hT : ({ s with heap:=s.heap.push (vz []) } : Shared).TypeIs (.ref s.heap.objs.size) "bytearray":=z9 (s:={ s with heap:=s.heap.push (vz []) }) hB
 refine zm (wpAny_isInstance hT BA.sub_self ?_)
 refine zF rfl ?_
 refine zb (zp (wpN_callSpecial?_slot (name:="__init__") hT BA.slot_init (kB BA.slot_init hT BA.entry_init (by decide +kernel) (BA.args_init _ _) ?_)))
 refine zsq hb hB fun h' hs hb'=>?_
 refine zg ?_
 exact hQ h' hs hb'
end
end Mine
namespace Mine
open PySem PySem.W PyProof.Rows PySem.Builtin
namespace BA
theorem args_getitem (a v : Value) : argsOk "bytearray.__getitem__" ⟨[a,v],[]⟩:=by unfold argsOk;kernel_rfl
theorem args_setitem (a v u : Value) : argsOk "bytearray.__setitem__" ⟨[a,v,u],[]⟩:=by unfold argsOk;kernel_rfl
theorem args_len (a : Value) : argsOk "bytearray.__len__" ⟨[a],[]⟩:=by unfold argsOk;kernel_rfl
end BA
theorem zly (lo hi : Int) (n : Nat) (h0 : 0 ≤ lo) (h1 : lo ≤ hi) (h2 : hi ≤ n) : sliceBounds (some lo) (some hi) none n = (lo,hi,1):=by
 rw [sliceBounds_plain]
 simp only [Option.elim]
 rw [clipAt_cast,clipAt_cast,if_neg (by exact Int.not_lt.mpr h0),if_neg (by lia)]
 have e1 : max 0 (min lo (n : Int)) = lo:=by lia
 have e2 : max 0 (min hi (n : Int)) = hi:=by lia
 rw [e1,e2]
theorem zkp (b : List UInt8) (lo hi : Int) (h0 : 0 ≤ lo) (h1 : lo ≤ hi) : Bytes.sliced b.toArray lo hi 1 = ((b.take hi.toNat).drop lo.toNat).toArray:=by
 obtain ⟨m,rfl⟩:=Int.eq_ofNat_of_zero_le h0
 obtain ⟨k,rfl⟩:=Int.eq_ofNat_of_zero_le (Int.le_trans h0 h1)
 unfold Bytes.sliced
 show ((sliceRange ((m : Nat) : Int) ((k : Nat) : Int) 1).filterMap (b.toArray[·]?)).toArray = _
 rw [sliceRange_one,pick_run]
 simp only [Int.toNat_natCast]
 rw [List.drop_take]
section
variable {prog : Program} {w : World} {A : Around} {E : Value → Shared → Prop} {s : Shared}
theorem w7 {sl : Addr} {lo hi : Int} {t u : Tok} {Q : Value × Value × Value → Shared → Prop} (hs : s.heap.IsSliceOf sl (.int lo t) (.int hi u) .none) (hQ : Q (rawPart (some lo),rawPart (some hi),rawPart none) s) :
  wpAny (model prog w) A (Bytes.sliceParts (.ref sl)) Q E s:=by
 obtain ⟨o,ho,hc,hd⟩:=hs
 unfold Bytes.sliceParts
 refine wpAny_bind (wpAny_field (x:=.none) ho hd rfl ?_)
 refine wpAny_bind (wpAny_of_eq (a:=Value.none) rfl ?_)
 refine wpAny_ite (KBy.ite_no (show ¬ ((Value.none == rawInt 0) = true) from Bool.false_ne_true) ?_)
 refine wpAny_bind (wpAny_field (x:=.int lo t) ho hd rfl ?_)
 kby_int
 refine wpAny_bind (wpAny_field (x:=.int hi u) ho hd rfl ?_)
 kby_int
 exact wpAny_pure hQ
theorem zmp {sl : Addr} {o : Obj} (ho : s.heap.get? sl = some o) (hc : o.cls = .type "slice") {Q : Option Int → Shared → Prop} (hQ : Q none s) : wpAny (model prog w) A (Bytes.subscript? (.ref sl)) Q E s:=by
 have hT : s.TypeIs (.ref sl) "slice":=⟨o,ho,hc⟩
 unfold Bytes.subscript?
 refine wpAny_bind (wpAny_specialOf hT slice_no_index ?_)
 refine bm_if_true rfl ?_
 exact wpAny_pure hQ
theorem j8 {a : Addr} {b : List UInt8} {Q : Array UInt8 → Shared → Prop} (h : BarrAt s.heap a b) (hQ : Q b.toArray s) : wpAny (model prog w) A (Bytes.payload (.ref a)) Q E s:=by
 unfold Bytes.payload Bytes.payload?
 exact wpAny_bind (wpAny_bind (wpAny_load h (wpAny_pure (wpAny_pure hQ))))
theorem xo {lo hi : Int} {n : Nat} (h0 : 0 ≤ lo) (h1 : lo ≤ hi) (h2 : hi ≤ n) {Q : Int × Int × Int → Shared → Prop} (hQ : Q (lo,hi,1) s) :
  wpAny (model prog w) A (sliceIndices (rawPart (some lo)) (rawPart (some hi)) (rawPart none) n) Q E s :=
 wpAny_of_eq (sliceIndices_raw (some lo) (some hi) none n (fun e=>nomatch e)) (by rw [zly lo hi n h0 h1 h2];exact hQ)
theorem zhv {a sl : Addr} {b : List UInt8} {lo hi : Int} {t u : Tok} {Q : Value → Shared → Prop} (h : BarrAt s.heap a b) (hs : s.heap.IsSliceOf sl (.int lo t) (.int hi u) .none)
  (h0 : 0 ≤ lo) (h1 : lo ≤ hi) (h2 : hi ≤ b.length) (hz : b.length ≤ 1000) (hQ : Q (.ref s.heap.objs.size) { s with heap:=s.heap.push (vz ((b.take hi.toNat).drop lo.toNat)) }) :
  wpAny (model prog w) A (getItem (.ref a) (.ref sl)) Q E s:=by
 have hT:=z9 h
 refine wpAny_getItem_slot hT (by decide) BA.slot_getitem (wpAny_call_entry BA.slot_getitem hT BA.entry_getitem ?_ (BA.args_getitem _ _))
 obtain ⟨o,ho,hc,hd⟩:=id hs
 unfold Builtin.«bytearray.__getitem__»
 refine wpAny_bind (wpAny_of_eq (a:=(.ref a,[.ref sl])) rfl ?_)
 refine wpAny_bind (zmp ho hc ?_)
 refine wpAny_bind (wpAny_typeOf (T:="slice") ⟨o,ho,hc⟩ ?_)
 refine bm_if_false (by decide) ?_
 refine wpAny_bind (w7 hs ?_)
 refine wpAny_bind (j8 h ?_)
 refine wpAny_bind (xo h0 h1 (by simpa using h2) ?_)
 refine wpAny_bind ?_
 unfold Bytes.newBytearray
 rw [zkp b lo hi h0 h1]
 refine wpAny_newObj_type ?_ ?_
 ·exact wpAny_pure ⟨_,rfl,hQ⟩
 ·show _ ≤ sizeLine
  simp only [List.size_toArray,List.length_drop,List.length_take,sizeLine_eq]
  exact zu2 (Nat.le_trans (Nat.sub_le _ _) (Nat.le_trans (Nat.min_le_right _ _) hz)) rfl
theorem zul {a : Addr} {b : List UInt8} {Q : Value → Shared → Prop} (h : BarrAt s.heap a b) (hz : b.length ≤ 1000) (hQ : ∀ t k,Q (.int b.length t) { s with toks:=k }) :
  wpAny (model prog w) A (call (.builtin "len") [.ref a]) Q E s:=by
 have hT:=z9 h
 refine Calls.call_function_entry kind_len plain_len entry_len (args_len1 _) ?_
 unfold Builtin.«len»
 refine wpAny_bind (m:=oneArg "len" _) (wpAny_pure ?_)
 refine wpAny_bind (m:=callSpecial? _ (Str.ofString "__len__")) (wpAny_callSpecial?_slot (name:=Str.ofString "__len__") hT BA.slot_len (wpAny_call_entry BA.slot_len hT BA.entry_len ?_ (BA.args_len _)))
 unfold Builtin.«bytearray.__len__»
 refine wpAny_bind (wpAny_of_eq (a:=(.ref a,[])) rfl ?_)
 refine wpAny_bind (j8 h ?_)
 unfold retInt
 refine wpAny_bind (wpAny_mkInt (wpAny_pure ⟨_,rfl,?_⟩))
 have e : (b.toArray.size : Int) = b.length:=by simp
 show wpAny _ _ _ _ _ { s with toks:=s.toks + 1 }
 refine wpAny_bind (wpAny_holding (wpAny_pure ?_))
 refine wpAny_bind (wpAny_letGo ?_)
 show wpAny _ _ (if (b.toArray.size : Int) < 0 then _ else _) _ _ _
 rw [if_neg (by exact zc1 _)]
 show wpAny _ _ (if (b.toArray.size : Int) ≥ 2 ^ 63 then _ else _) _ _ _
 rw [if_neg (by rw [e];lia)]
 refine wpAny_bind (wpAny_mkInt (wpAny_pure ⟨_,rfl,?_⟩))
 rw [e]
 exact hQ _ _
theorem zvn {b : Array UInt8} {Q : Value → Shared → Prop} (hz : b.size ≤ sizeLine) (hQ : ∀ t k,Q (.bytes b t) { s with toks:=k }) : wpAny (model prog w) A (mkBytes b) Q E s :=
 wpAny_mkBytes (hQ _ _) hz
theorem xH {v : Value} {Q : Value → Shared → Prop} (hb : wpAny (model prog w) A.in1.in1 (Builtin.«bytes.__new__» ⟨[.type "bytes",v],[]⟩) (fun fin s'=>∃ r,fin = .done (.ret r) ∧ s'.TypeIs r "bytes" ∧ Q r s') (fun uu uu=>False) s) :
  wpAny (model prog w) A (call (.type "bytes") [v]) Q E s:=by
 refine callType_codes (Q₁:=fun obj s₁=>s₁.TypeIs obj "bytes" ∧ Q obj s₁) F.bm_called (F.bm_typeCall _) F.entry_object_init ?_ fun obj s₁ h₁=>?_
 ·refine codeAny_of_tree ?_
  show wpAny _ A.in1.in1 (do checkBuiltinCall "bytes.__new__" ⟨[.type "bytes",v],[]⟩;again (.builtin "bytes.__new__" ⟨[.type "bytes",v],[]⟩)) _ _ s
  refine wpAny_bind (wpAny_of_eq (F.bm_newCall _) (wpAny_pure ⟨plainId_quiet F.bm_plain _,codeAny_builtin F.bm_entry ?_⟩))
  rw [Around.under_plainId F.bm_plain _]
  refine wpAny_mono hb (fun fin s' h'=>?_) fun uu uu h'=>h'.elim
  obtain ⟨r,rfl,hq⟩:=h'
  exact hq
 ·exact ⟨h₁.1,F.args_object_init_2 obj _,object_init_meets F.bm_called.init.lookup F.bm_called.made (by decide) prog w A.in1 _ s₁ ⟨h₁.1,rfl,h₁.2⟩⟩
theorem xG {b : Array UInt8} {t : Tok} {Q : Value → Shared → Prop} (hQ : Q (.bytes b t) s) : wpAny (model prog w) A (call (.type "bytes") [.bytes b t]) Q E s:=by
 refine xH ?_
 unfold Builtin.«bytes.__new__»
 refine wpAny_bind (wpAny_of_eq (a:=true) rfl ?_)
 refine bm_if_false rfl ?_
 refine wpAny_bind (wpAny_of_eq F.bm_sub ?_)
 refine bm_if_false rfl ?_
 refine wpAny_bind (wpAny_of_eq (F.bm_bind _) ?_)
 refine wpAny_bind (wpAny_of_eq (a:=()) rfl ?_)
 refine wpAny_bind (wpAny_of_eq (a:=()) rfl ?_)
 refine bm_if_false rfl ?_
 refine wpAny_bind (wpAny_specialOf (typeIs_bytes _ _ t) BA.look_bytes_bytes ?_)
 refine wpAny_bind (wpAny_rule ?_)
 refine wpAny_bind (wpAny_typeOf (typeIs_bytes _ _ t) ?_)
 refine bm_if_true (by decide) ?_
 show wpAny _ _ (if (Value.type "bytes" == Value.type "bytes") = true then _ else _) _ _ _
 refine bm_if_true (by decide) ?_
 exact wpAny_bind (wpAny_pure (wpAny_pure ⟨_,rfl,typeIs_bytes _ _ t,hQ⟩))
theorem zfq {a : Addr} {b : List UInt8} {Q : Value → Shared → Prop} (h : BarrAt s.heap a b) (hz : b.length ≤ 1000) (hQ : ∀ t k,Q (.bytes b.toArray t) { s with toks:=k }) : wpAny (model prog w) A (call (.type "bytes") [.ref a]) Q E s:=by
 refine xH ?_
 have hT:=z9 h
 unfold Builtin.«bytes.__new__»
 refine wpAny_bind (wpAny_of_eq (a:=true) rfl ?_)
 refine bm_if_false rfl ?_
 refine wpAny_bind (wpAny_of_eq F.bm_sub ?_)
 refine bm_if_false rfl ?_
 refine wpAny_bind (wpAny_of_eq (F.bm_bind _) ?_)
 refine wpAny_bind (wpAny_of_eq (a:=()) rfl ?_)
 refine wpAny_bind (wpAny_of_eq (a:=()) rfl ?_)
 refine bm_if_false rfl ?_
 refine wpAny_bind (wpAny_specialOf hT BA.look_bytes ?_)
 refine wpAny_bind (wpAny_bind ?_)
 show wpAny _ _ (load a >>= _) _ _ _
 refine wpAny_bind (wpAny_load h ?_)
 refine wpAny_pure (wpAny_pure ?_)
 refine bm_if_false rfl ?_
 refine wpAny_bind (wpAny_specialOf hT BA.look_index ?_)
 refine bm_if_true rfl ?_
 first
  | show wpAny _ _ (Builtin.Bytes.buffer? "bytes.__new__" (.ref a) true >>= _) _ _ _
  | (refine wpAny_bind ?_;show wpAny _ _ (Builtin.Bytes.buffer? "bytes.__new__" (.ref a) true >>= _) _ _ _)
 refine wpAny_bind (zlw h ?_)
 refine wpAny_bind (wpAny_rule ?_)
 have hsz : b.toArray.size ≤ sizeLine:=by simp only [List.size_toArray,sizeLine_eq];exact zu2 hz rfl
 refine wpAny_bind (wpAny_mkBytes ?_ hsz)
 show wpAny _ _ (if (Value.type "bytes" == Value.type "bytes") = true then _ else _) _ _ _
 refine bm_if_true (by decide) ?_
 first
  | exact wpAny_pure ⟨_,rfl,typeIs_bytes _ _ _,hQ _ _⟩
  | exact wpAny_bind (wpAny_pure (wpAny_pure ⟨_,rfl,typeIs_bytes _ _ _,hQ _ _⟩))
  | exact wpAny_bind (wpAny_pure (wpAny_pure (wpAny_pure ⟨_,rfl,typeIs_bytes _ _ _,hQ _ _⟩)))
end
end Mine
namespace Mine
open PySem PySem.W PyProof.Rows PySem.Builtin
section
variable {prog : Program} {w : World} {A : Around} {E : Value → Shared → Prop} {s : Shared}
theorem zgv {a sl : Addr} {b f : List UInt8} {lo hi : Int} {t u v : Tok} {Q : Unit → Shared → Prop} (h : BarrAt s.heap a b) (hs : s.heap.IsSliceOf sl (.int lo t) (.int hi u) .none)
  (h0 : 0 ≤ lo) (h1 : lo ≤ hi) (h2 : hi ≤ b.length) (hz : b.length ≤ 1000) (hf : (f.length : Int) = hi - lo)
  (hQ : ∀ h',(∀ x o,s.heap.get? x = some o → x ≠ a → h'.get? x = some o) → s.heap.objs.size ≤ h'.objs.size → BarrAt h' a (b.take lo.toNat ++ f ++ b.drop hi.toNat) → Q () { s with heap:=h' }) :
  wpN (model prog w) A (setItem (.ref a) (.ref sl) (.bytes f.toArray v)) Q E s:=by
 have hT:=z9 h
 obtain ⟨o,ho,hc,hd⟩:=id hs
 have hTs : s.TypeIs (.ref sl) "slice":=⟨o,ho,hc⟩
 have hne : sl ≠ a:=fun e=>by subst e;rw [h] at ho;cases ho;injection hc with hc;exact absurd hc (by decide)
 unfold setItem
 refine zp ?_
 refine zm (wpAny_sequenceKey hT (by decide) ?_)
 refine zb (wpN_callSpecial?_slot (name:=Str.ofString "__setitem__") hT BA.slot_setitem (kB BA.slot_setitem hT BA.entry_setitem (by decide +kernel) (BA.args_setitem _ _ _) ?_))
 unfold Builtin.«bytearray.__setitem__»
 refine zF rfl ?_
 refine zm (zmp ho hc ?_)
 refine zm (wpAny_typeOf hTs ?_)
 refine zF (by decide) ?_
 refine zm (w7 hs ?_)
 refine zb ?_
 show wpN _ _ (isInstance (.bytes f.toArray v) (.type "bytearray")) _ _ _
 refine wpN.of (wpAny_isInstance (T:="bytes") (typeIs_bytes _ _ v) BA.sub_bytes_ba ?_)
 refine yk rfl ?_
 have hfl : f.length ≤ 1000:=by lia
 have hb : BaSrc (.bytes f.toArray v) f:=.bytes f v hfl
 refine zm ?_
 refine wpAny_bind (wpAny_bind (wpAny_specialOf (T:="bytes") (typeIs_bytes _ _ v) BA.look_index_bytes (wpAny_pure ?_)))
 refine wpAny_bind (wpAny_bind (wpAny_specialOf (T:="bytes") (typeIs_bytes _ _ v) BA.look_int_bytes (wpAny_pure ?_)))
 refine wpAny_bind (wpAny_bind (wpAny_specialOf (T:="bytes") (typeIs_bytes _ _ v) BA.look_float_bytes (wpAny_pure ?_)))
 refine wpAny_isInstance (T:="bytes") (typeIs_bytes _ _ v) BA.sub_bytes_cx ?_
 refine zb (zT (a:=none) rfl ?_)
 refine zF rfl ?_
 refine zb (qx ?_)
 refine zb (zj6 hb fun h₁ e₁ b₁=>?_)
 have hp : ∀ x o,s.heap.get? x = some o → h₁.get? x = some o:=fun x o e=>(e₁.2 x (Nat.ne_of_lt (Heap.lt_size e))).trans (Heap.get?_push_of_some _ e)
 have hs₁ : h₁.IsSliceOf sl (.int lo t) (.int hi u) .none:=⟨o,hp _ _ ho,hc,hd⟩
 have ha₁ : BarrAt h₁ a b:=hp _ _ h
 refine zm (wpAny_holding (w7 (s:={ s with heap:=h₁ }) hs₁ ?_))
 refine zm (j8 (s:={ s with heap:=h₁ }) b₁ ?_)
 refine zm (j8 (s:={ s with heap:=h₁ }) ha₁ ?_)
 refine zm (xo h0 h1 (by simpa using h2) ?_)
 refine yk rfl ?_
 refine zb (qx ?_)
 refine zF ?_ ?_
 ·have : (f.toArray.size : Int) = max lo hi - lo:=by simp only [List.size_toArray];lia
  rw [this];simp
 have hm : (max lo hi).toNat = hi.toNat:=by congr 1;lia
 refine zm (yY (s:={ s with heap:=h₁ }) (b':=b.take lo.toNat ++ f ++ b.drop hi.toNat) ha₁ ?_ ?_ fun h₂ e₂ b₂=>?_)
 ·rw [hm]
  simp [List.extract_toArray]
  exact List.take_of_length_le (by rw [List.length_drop];exact Nat.le_refl _)
 ·simp only [List.length_append,List.length_take,List.length_drop,sizeLine_eq]
  exact zw5 (Nat.le_trans (Nat.min_le_right _ _) hz) hfl (Nat.le_trans (Nat.sub_le _ _) hz) rfl
 ·refine zg ?_
  refine zg ?_
  refine hQ h₂ (fun x o' e n=>(e₂.2 x n).trans (hp x o' e)) ?_ b₂
  rw [e₂.1,e₁.1,Heap.size_push]
  exact Nat.le_succ _
end
end Mine
namespace Mine
open PySem PySem.W PyProof.Rows PySem.Spec
section
variable {prog : Program} {A : Around} {w : World} {B : Heap} {ρ : List Addr} {H H' : Hp} {s : Shared} {E : Value → Shared → Prop} {P : Prg}
theorem zkq {value slice : PySem.Expr} {x lo hi st v : PV} {a vl vu vk : Value} {sl : Addr} {ops : List Value} {Q : Value → Shared → Prop} (R : Rel prog w B ρ H s.heap) (ha : VR s.heap ρ x a)
  (hs : s.heap.IsSliceOf sl vl vu vk) (h1 : VR s.heap ρ lo vl) (h2 : VR s.heap ρ hi vu) (h3 : VR s.heap ρ st vk) (hsub : subscripted slice false a (.ref sl) = operate ops (getItem a (.ref sl)))
  (e : wQ x lo hi st H = some v) (hQ : Post prog w B ρ s H v Q) : wpAny (model prog w) A (subscriptTail value slice a (.ref sl)) Q E s:=by
 cases x with
 | lst l =>
  revert e;refine zk fun p1 e1=>zk fun p2 e2=>zk fun p3 e3=>zX fun g e=>?_
  obtain rfl:=Option.some.inj e
  obtain ⟨la,vs,rfl,hn,q1,q2⟩:=ha
  have hl : s.heap.IsList la vs.toArray:=q1
  refine tail_any hl.typeIs slot_list_getitem.lookup (wpAny_getItem_list_slice hl hs (zb6 e1 h1) (zb6 e2 h2) (zb6 e3 h3) g.1 ?_ (by rw [List.size_toArray,q2.length];exact kO g.2)) hsub
  rw [zk4]
  have st : Still [] s { s with heap:=s.heap.push { cls:=.type "list",data:=.seq (yx vs p1 p2 p3).toArray },toks:=s.toks }:=Still.push _ _
  refine hQ.pure R st ⟨_,_,rfl,R.off (Nat.le_refl _),⟨_,Heap.get?_push_size _ rfl,rfl,_,rfl⟩,?_⟩
  have z:=VRs.keep (st.k (ρ:=ρ) fun uu h=>(nomatch h)) _ _ (q2.pick p1 p2 p3)
  rwa [List.append_nil] at z
 | loc i =>
  revert e;refine zk fun l hx=>zk fun p1 e1=>zk fun p2 e2=>zk fun uu e3=>zX fun g e=>?_
  obtain rfl:=zH e1
  obtain rfl:=zH e2
  obtain rfl:=qn e3
  obtain rfl:=Option.some.inj e
  obtain ⟨la,rfl,hi'⟩:=ha
  obtain ⟨o,ho,rfl⟩:=R.obj _ _ _ (xL hx) hi'.1
  obtain ⟨t1,rfl⟩:=h1
  obtain ⟨t2,rfl⟩:=h2
  obtain rfl:=h3
  have hb : BarrAt s.heap la l:=ho
  refine tail_any (z9 hb) BA.slot_getitem.lookup (zhv hb hs g.1 g.2.1 g.2.2.1 g.2.2.2 ?_) hsub
  have st : Still [] s { s with heap:=s.heap.push (vz ((l.take p2.toNat).drop p1.toNat)),toks:=s.toks }:=Still.push _ _
  exact hQ.pure R st ⟨_,rfl,R.off (Nat.le_refl _),Heap.get?_push_size _ rfl⟩
 | _=>exact zd e
theorem qg {i : Nat} {l : List PV} (R : Rel prog w B ρ H s.heap) (e : H[i]? = some (.list l)) {a : Addr} (ha : LocA s.heap ρ i a) : ∃ vs n,IsL s.heap a vs n ∧ VRs s.heap ρ l vs.toList:=by
 obtain ⟨o,ho,vs,n,rfl,hr⟩:=R.obj i _ a e ha.1
 exact ⟨vs,n,ho,hr⟩
theorem jD {i : Nat} {l l' : List PV} (R : Rel prog w B ρ H s.heap) (e : H[i]? = some (.list l)) {a : Addr} (ha : LocA s.heap ρ i a) {vs : Array Value} {n : Nat} (hl : IsL s.heap a vs n) (f : Array Value → Array Value) (hr : VRs s.heap ρ l' (f vs).toList) (t : Nat) :
  Rel prog w B ρ (H.set i (.list l')) (s.heap.update a (Obj.mapSeq f)) ∧ Ext ρ [] s { s with heap:=s.heap.update a (Obj.mapSeq f),toks:=t } [] :=
 R.update t ha (by rw [e];exact fun q=>nomatch q) ⟨f vs,_,rfl,hr⟩ (Heap.SameBut.update ..) (hl.update f)
theorem zld {l : Addr} {items : Array Value} {n : Nat} {k : Int} {t : Tok} {v : Value} {Q : Unit → Shared → Prop} (hl : IsL s.heap l items n) (h0 : 0 ≤ k) (hfit : k < 2 ^ 63) (hn : k < items.size)
  (hQ : Q () { s with heap:=s.heap.update l (Obj.mapSeq (·.setIfInBounds k.toNat v)) }) : wpAny (model prog w) A (setItem (.ref l) (.int k t) v) Q E s:=by
 have hL:=hl.isList
 unfold setItem
 refine wpAny_holding ?_
 refine wpAny_bind (wpAny_sequenceKey hL.typeIs (by decide) ?_)
 refine wpAny_bind (wpAny_callSpecial?_slot (name:=Str.ofString "__setitem__") hL.typeIs slot_list_setitem
  (wpAny_call_entry slot_list_setitem hL.typeIs entry_list_setitem ?_ (args_list_setitem _ _ _)))
 show wpAny _ _ (Builtin.List.listSubscript? (.int k t) >>= _) _ _ s
 refine wpAny_bind (wpAny_listSubscript_int (fitsIndex_of h0 hfit) ?_)
 clear hfit
 obtain ⟨j,rfl⟩:=Int.eq_ofNat_of_zero_le h0
 have hj : j < items.size:=by lia
 have hx' : items[j]? = some items[j]:=Array.getElem?_eq_getElem hj
 show wpAny _ _ ((seqItemAt l j >>= fun r=>pure (r.map (j,·))) >>= _) _ _ s
 refine wpAny_bind (wpAny_bind (wpAny_seqItemAt hl rfl (wpAny_pure ?_)))
 rw [hx']
 show wpAny _ _ (setSeqItemAt l j v >>= _) _ _ s
 refine wpAny_bind (wpAny_setSeqItemAt hl rfl ?_)
 first
  | exact wpAny_bind (wpAny_pure (wpAny_pure ⟨.none,rfl,wpAny_pure hQ⟩))
  | exact wpAny_pure ⟨.none,rfl,wpAny_pure hQ⟩
noncomputable def yJ (kvs : List (Str × Value)) (k : Str) (v : Value) : List (Str × Value):=match kvs with
 | []=>[(k,v)]
 | e :: r=>if e.1 = k then (k,v) :: r else e :: yJ r k v
theorem vF : ∀ (kvs : List (Str × Value)) (k : Str) (v : Value),(kvs.map (·.1)).Nodup → stored kvs k v = yJ kvs k v
 | [],k,v,_=>rfl
 | e :: r,k,v,hn=>by
  have hn':=hn
  rw [List.map_cons,List.nodup_cons] at hn'
  obtain ⟨h1,h2⟩:=hn'
  have ih:=vF r k v h2
  unfold yJ
  by_cases he : e.1 = k
  ·rw [if_pos he]
   unfold stored
   rw [if_pos (by simp [he])]
   rw [List.map_cons,if_pos he,he]
   congr 1
   refine (List.map_congr_left (g:=id) fun x hx=>?_).trans (List.map_id r)
   rw [if_neg]
   ·rfl
   ·intro q
    exact h1 (by rw [he,← q];exact List.mem_map_of_mem hx)
  ·rw [if_neg he,← ih]
   unfold stored
   rw [List.any_cons]
   have : decide (e.1 = k) = false:=decide_eq_false he
   rw [this,Bool.false_or]
   split
   ·rw [List.map_cons,if_neg he]
   ·rfl
theorem KVR.set {h : Heap} {ρ : List Addr} {k : Nat} {v : PV} {st : Str} {val : Value} (hn : nid st = some k) (hv : VR h ρ v val) : ∀ {es : List (Nat × PV)} {kvs : List (Str × Value)},KVR h ρ es kvs → KVR h ρ (dictSet k v es) (yJ kvs st val)
 | [],kvs,e=>by cases e;exact ⟨st,val,[],rfl,hn,hv,rfl⟩
 | x :: r,kvs,e=>by
  obtain ⟨s',v',q,rfl,h1,h2,h3⟩:=e
  unfold dictSet yJ
  by_cases c : x.1 = k
  ·have : s' = st:=jB (h1.trans (congrArg some c)) hn
   subst this
   rw [if_pos rfl]
   have : Nat.beq x.1 k = true:=Nat.beq_eq.mpr c
   rw [this]
   exact ⟨s',val,q,rfl,hn,hv,h3⟩
  ·have ne : s' ≠ st:=fun q=>c (by subst q;rw [hn] at h1;exact (Option.some.inj h1).symm)
   rw [if_neg ne]
   have : Nat.beq x.1 k = false:=by
    cases q : Nat.beq x.1 k with
    | false=>rfl
    | true=>exact absurd (Nat.eq_of_beq_eq_true q) c
   exact this ▸ ⟨s',v',_,rfl,h1,h2,KVR.set hn hv h3⟩
theorem KVR.length {h : Heap} {ρ : List Addr} : ∀ {es : List (Nat × PV)} {kvs : List (Str × Value)},KVR h ρ es kvs → kvs.length = es.length
 | [],kvs,e=>by cases e;rfl
 | x :: r,kvs,e=>by
  obtain ⟨s',v',q,rfl,h1,h2,h3⟩:=e
  rw [List.length_cons,List.length_cons,h3.length]
theorem zlo {d : Addr} {kvs : List (Str × Value)} {st : Str} {t : Tok} {v : Value} {Q : Unit → Shared → Prop} (hd : s.heap.DictOf (strKind prog w) d kvs) (hz : kvs.length ≤ 1000)
  (hQ : ∀ h',h'.DictOf (strKind prog w) d (stored kvs st v) → Heap.SameBut d s.heap h' → Q () { s with heap:=h',toks:=s.toks + 1 }) : wpAny (model prog w) A (setItem (.ref d) (.str st t) v) Q E s:=by
 unfold setItem
 refine wpAny_holding ?_
 refine wpAny_bind (wpAny_sequenceKey hd.typeIs (by decide) ?_)
 refine wpAny_bind (wpAny_callSpecial?_slot (name:=Str.ofString "__setitem__") hd.typeIs slot_dict_setitem
  (wpAny_call_entry slot_dict_setitem hd.typeIs entry_dict_setitem ?_ (args_dict_setitem _ _ _)))
 show wpAny _ _ (Builtin.Dict.notOrdered "__setitem__" ⟨[.ref d,.str st t,v],[]⟩ >>= _) _ _ s
 refine wpAny_bind (wpAny_notOrdered_dict hd.typeIs ?_)
 show wpAny _ _ (PySem.dictSet d (.str st t) v >>= _) _ _ s
 exact wpAny_bind (wpAny_dictSet_pairs (vE st t) hd (fun h' hm' hs'=>wpAny_pure ⟨.none,rfl,wpAny_pure (hQ h' hm' hs')⟩) (Nat.le_trans hz (by decide)))
theorem zmw {x y v : PV} {a b c : Value} {Q : Unit → Shared → Prop} (R : Rel prog w B ρ H s.heap) (ha : VR s.heap ρ x a) (hb : VR s.heap ρ y b) (hc : VR s.heap ρ v c)
  (e : wU x y v H = some H') (hQ : ∀ s',Ext ρ [] s s' [] → Rel prog w B ρ H' s'.heap → Q () s') : wpAny (model prog w) A (setItem a b c) Q E s:=by
 revert e;refine zk fun i hi=>zk fun o hx=>zk fun o' ho' e=>?_
 obtain rfl:=yX hi
 obtain rfl:=Option.some.inj e
 obtain ⟨la,rfl,hi⟩:=ha
 cases o with
 | list l =>
  revert ho';refine zk fun k hk=>zk fun j hj e=>?_
  obtain rfl:=zH hk
  obtain rfl:=Option.some.inj e
  obtain ⟨t,rfl⟩:=hb
  obtain ⟨g1,g2,g3,rfl⟩:=wJ hj
  obtain ⟨vs,n,hl,hr⟩:=qg R hx hi
  refine zld hl g1 (vI g2 g3) (by rw [← Array.length_toList,hr.length];exact g2) ?_
  obtain ⟨r1,r2⟩:=jD R hx hi hl (·.setIfInBounds _ c) (l':=l.set _ v) (by rw [Array.toList_setIfInBounds];exact VRs.set hc _ hr) s.toks
  exact hQ _ r2 r1
 | dict es =>
  revert ho';refine zk fun k hk=>zX fun g e=>?_
  obtain rfl:=kt hk
  obtain rfl:=Option.some.inj e
  obtain ⟨st,t,rfl,hn⟩:=hb
  obtain ⟨kvs,hd,hr⟩:=R.dictAt hx hi
  refine zlo hd (by rw [hr.length];exact Nat.le_of_lt g) fun h' hd' hs=>?_
  obtain ⟨o',ho',hk'⟩:=Heap.dictOf_iff.mp hd'
  have hnd : (kvs.map (·.1)).Nodup:=by obtain ⟨o,es,ep,_,_,_,_,_,hn⟩:=hd;exact hn
  obtain ⟨r1,r2⟩:=R.update (m:=.dict (dictSet _ v es)) (s.toks + 1) hi (by rw [hx];exact fun q=>nomatch q) ⟨_,hk',by rw [vF _ _ _ hnd];exact hr.set hn hc⟩ hs ho'
  exact hQ _ r2 r1
 | _=>exact zd ho'
end
end Mine
namespace Mine
open PySem PySem.W PyProof.Rows PySem.Spec
section
variable {prog : Program} {A : Around} {w : World} {B : Heap} {ρ : List Addr} {H H' : Hp} {s : Shared} {E : Value → Shared → Prop} {P : Prg}
theorem Rel.updateE (R : Rel prog w B ρ H s.heap) {i : Nat} {a : Addr} {m : MObj} {o' : Obj} {h' : Heap} (t : Nat) (hi' : LocA s.heap ρ i a) (hH : H[i]? ≠ none) (hn : OR prog w s.heap ρ m o')
  (hs : ∀ b o,s.heap.get? b = some o → b ≠ a → h'.get? b = some o) (hg : h'.get? a = some o') : Rel prog w B ρ (H.set i m) h' ∧ Ext ρ [] s { s with heap:=h',toks:=t } []:=by
 have hi:=hi'.1
 have ha : a ∈ ρ:=List.mem_of_getElem? hi
 have e : Ext ρ [] s { s with heap:=h',toks:=t } []:=⟨fun b o' g n uu=>hs b _ g (n.not hi'),fun b o' g n uu=>hs b _ g fun q=>n (q ▸ ha),fun uu h=>(nomatch h),fun b g=>by
  by_cases q : b = a
  ·rw [q,hg] at g;cases g
  ·cases z : s.heap.get? b with
   | none=>rfl
   | some o=>(rw [hs b o z q] at g;cases g),rfl,rfl,rfl⟩
 refine ⟨⟨fun b o' g=>hs b _ (R.base b o' g) fun q=>(by rw [q,R.fresh a ha] at g;cases g),by rw [List.length_set];exact R.len,R.fresh,fun j m' b g q=>?_⟩,e⟩
 have k:=e.k
 by_cases ij : i = j
 ·subst ij
  replace q:=hi ▸ q
  cases q
  rw [List.getElem?_set_self (by
   cases z : H[i]? with
   | none=>exact absurd z hH
   | some _=>exact (List.getElem?_eq_some_iff.mp z).1)] at g
  cases g
  refine ⟨o',hg,?_⟩
  have z:=hn.keep k
  rwa [List.append_nil] at z
 ·rw [List.getElem?_set_ne ij] at g
  obtain ⟨o'',ho,hr⟩:=R.obj j m' b g q
  have ne : b ≠ a:=fun z=>by
   subst z
   exact ij (hi'.2.1 j q).symm
  refine ⟨o'',hs b _ ho ne,?_⟩
  have z:=hr.keep k
  rwa [List.append_nil] at z
theorem zmv {x lo hi v : PV} {a vl vu c : Value} {sl : Addr} {Q : Unit → Shared → Prop} (R : Rel prog w B ρ H s.heap) (ha : VR s.heap ρ x a) (hs : s.heap.IsSliceOf sl vl vu .none) (h1 : VR s.heap ρ lo vl) (h2 : VR s.heap ρ hi vu) (hc : VR s.heap ρ v c)
  (e : zsz x lo hi v H = some H') (hQ : ∀ s',Ext ρ [] s s' [] → Rel prog w B ρ H' s'.heap → Q () s') : wpN (model prog w) A (setItem a (.ref sl) c) Q E s:=by
 revert e;refine zk fun i hi=>zk fun p1 e1=>zk fun p2 e2=>zk fun f hf=>zk fun l hx=>zX fun g e=>?_
 obtain rfl:=yX hi
 obtain rfl:=zH e1
 obtain rfl:=zH e2
 obtain rfl:=zga hf
 obtain rfl:=Option.some.inj e
 obtain ⟨la,rfl,hi'⟩:=ha
 obtain ⟨t1,rfl⟩:=h1
 obtain ⟨t2,rfl⟩:=h2
 obtain ⟨t3,rfl⟩:=hc
 have hx:=xL hx
 obtain ⟨o,ho,rfl⟩:=R.obj _ _ _ hx hi'.1
 have hb : BarrAt s.heap la l:=ho
 refine zgv hb hs g.1 g.2.1 g.2.2.1 g.2.2.2.2 g.2.2.2.1 fun h' hk uu hb'=>?_
 obtain ⟨r1,r2⟩:=R.updateE (m:=.barr _) s.toks hi' (hx ▸ fun q=>nomatch q) rfl (fun b o g n=>hk b o g n) hb'
 exact hQ _ r2 r1
noncomputable def bIdL (n : Nat) : Option String:=match n with
 | 0=>some "list.append"
 | 1=>some "list.insert"
 | 2=>some "list.pop"
 | _=>none
noncomputable def bId (o : MObj) (n : Nat) : Option String:=match o with
 | .list _=>bIdL n
 | .dict _=>gr (Nat.beq n 3)<|some "dict.get"
 | _=>none
theorem nm0 : nm 0 = ("append" : Str):=by decide +kernel
theorem nm1 : nm 1 = ("insert" : Str):=by decide +kernel
theorem nm2 : nm 2 = ("pop" : Str):=by decide +kernel
theorem nm3 : nm 3 = ("get" : Str):=by decide +kernel
theorem zcm {i n : Nat} {o : MObj} {a : Addr} {id : String} {pl : Sem Bool} {Q : Value × List Value → Shared → Prop} (R : Rel prog w B ρ H s.heap) (e : H[i]? = some o) (ha : LocA s.heap ρ i a) (hb : bId o n = some id)
  (hQ : Q (.builtin id,[.ref a]) s) : wpAny (model prog w) A (getMethod (.ref a) (nm n) pl) Q E s:=by
 cases o with
 | list l =>
  obtain ⟨vs,k,hl,_⟩:=qg R e ha
  have hT:=hl.isList.typeIs
  have hd : ∀ b,Value.ref a = .ref b → ∃ o,s.heap.get? b = some o ∧ o.dict = none:=fun b q=>by cases q;exact ⟨_,hl,rfl⟩
  rcases n with _ | _ | _ | n
  ·obtain rfl:=Option.some.inj hb;rw [nm0];exact getMethod_builtin hT PySem.F.plainAttrs_list PySem.F.slot_list_append PySem.F.type_list_append hd hQ
  ·obtain rfl:=Option.some.inj hb;rw [nm1];exact getMethod_builtin hT PySem.F.plainAttrs_list PySem.F.slot_list_insert PySem.F.type_list_insert hd hQ
  ·obtain rfl:=Option.some.inj hb;rw [nm2];exact getMethod_builtin hT PySem.F.plainAttrs_list PySem.F.slot_list_pop PySem.F.type_list_pop hd hQ
  ·exact zd hb
 | dict es =>
  obtain ⟨kvs,hd,hr⟩:=R.dictAt e ha
  revert hb;refine zR fun h3 hb=>?_
  obtain rfl:=Nat.eq_of_beq_eq_true h3
  obtain rfl:=Option.some.inj hb;rw [nm3];exact getMethod_builtin hd.typeIs PySem.F.plainAttrs_dict PySem.F.slot_dict_get PySem.F.type_dict_get hd.mapOf.noDict hQ
 | _=>exact zd hb
theorem ztd {j : Int} {n : Nat} (h0 : 0 ≤ j) (h1 : j ≤ n) (h2 : n ≤ lim) : Builtin.List.listFitsIndex j = true:=by
 have : lim ≤ 100000:=Nat.le_refl _
 simp only [Builtin.List.listFitsIndex,Bool.and_eq_true,decide_eq_true_eq];lia
theorem znz (hu : A.units + 50 < cLine) (hS : B.get? sysModules ≠ none) {i n : Nat} {o : MObj} {a : Addr} {id : String} {vs : List PV} {vals : List Value} {v : PV} {Q : Value → Shared → Prop} (R : Rel prog w B ρ H s.heap) (e : H[i]? = some o) (ha : LocA s.heap ρ i a) (hb : bId o n = some id)
  (hv : VRs s.heap ρ vs vals) (em : zer n i o vs H = some (v,H')) (hQ : Post prog w B ρ s H' v Q) : wpAny (model prog w) A (call (.builtin id) (.ref a :: vals)) Q E s:=by
 cases o with
 | list l =>
  have fin : ∀ {s' val},Ext ρ [] s s' [] → Rel prog w B ρ H' s'.heap → VR s'.heap ρ v val → Q val s':=fun {s' val} x1 x2 x3=>hQ s' [] val x1 ((List.append_nil ..) ▸ x2) (by rw [List.append_nil];exact x3)
  obtain ⟨us,k,hl,hr⟩:=qg R e ha
  have hT:=hl.isList.typeIs
  have el : us.size = l.length:=by rw [← hr.length,Array.length_toList]
  rcases n with _ | _ | _ | n
  ·obtain rfl:=Option.some.inj hb
   revert em;refine zk fun v h1=>zX fun g em=>?_
   obtain rfl:=yE h1
   obtain ⟨rfl,rfl⟩:=z6 em
   obtain ⟨x,y,rfl,h1,h2⟩:=hv
   obtain rfl:=h2
   obtain ⟨r1,r2⟩:=jD R e ha hl (·.push x) (l':=l ++ [_]) (by rw [Array.toList_push];exact hr.append (VRs.one h1)) s.toks
   exact call_meets PySem.F.slot_list_append hT PySem.F.entry_list_append (PySem.F.args_list_append_2 _ _) (PySem.list_append a us k x (by rw [el];exact kO g)) ⟨hl,fin r2 r1 rfl⟩
  ·obtain rfl:=Option.some.inj hb
   revert em;refine zk fun p h1=>zk fun j hj=>zX fun g em=>?_
   obtain ⟨p1,pv⟩:=p
   obtain rfl:=zH hj
   obtain rfl:=yS h1
   obtain ⟨rfl,rfl⟩:=z6 em
   obtain ⟨x,y,rfl,h1,h2⟩:=hv
   obtain ⟨t,rfl⟩:=h1
   obtain ⟨x2,y2,rfl,h3,h4⟩:=h2
   obtain rfl:=h4
   refine call_meets PySem.F.slot_list_insert hT PySem.F.entry_list_insert (PySem.F.args_list_insert_3 _ _ _) (AutoSeq1.list_insert_list_int_val_1 a us k j t x2 (by rw [ztd g.1 g.2.1 g.2.2];exact Bool.false_ne_true) (by rw [el];exact kO g.2.2)) ⟨hl,?_⟩
   obtain ⟨r1,r2⟩:=jD R e ha hl (fun xs=>have k:=if j < 0 then (j + (xs.size : Int)).toNat else min j.toNat xs.size;(xs.extract 0 k).push x2 ++ xs.extract k) (l':=l.take j.toNat ++ pv :: l.drop j.toNat) (by
    have hk : (if j < 0 then (j + (us.size : Int)).toNat else min j.toNat us.size) = j.toNat:=by
     rw [if_neg (Int.not_lt.mpr g.1)];exact Nat.min_eq_left (Int.toNat_le.mpr (by rw [el];exact g.2.1))
    dsimp only
    rw [hk]
    have : ((us.extract 0 j.toNat).push x2 ++ us.extract j.toNat).toList = us.toList.take j.toNat ++ x2 :: us.toList.drop j.toNat:=by
     simp
     exact List.take_of_length_le (by rw [List.length_drop,Array.length_toList];exact Nat.le_refl _)
    rw [this]
    exact (hr.take _).append (VRs.cons h3 (hr.drop _))) s.toks
   exact fin r2 r1 rfl
  ·obtain rfl:=Option.some.inj hb
   revert em;refine zk fun p h1=>zk fun j hj=>zX fun g=>zk fun pv hpv em=>?_
   obtain rfl:=zH hj
   obtain rfl:=yE h1
   obtain ⟨rfl,rfl⟩:=z6 em
   obtain ⟨x,y,rfl,h1,h2⟩:=hv
   obtain ⟨t,rfl⟩:=h1
   obtain rfl:=h2
   obtain ⟨u,hu,hru⟩:=hr.get hpv
   have hlt : j.toNat < us.size:=by rw [el];exact (Int.toNat_lt g.1).mpr g.2.1
   refine call_meets PySem.F.slot_list_pop hT PySem.F.entry_list_pop (PySem.F.args_list_pop_2 _ _) (PySem.MeetsSeq.list_pop_at a us k j t j.toNat u (ztd g.1 (Int.le_of_lt g.2.1) g.2.2) (seqIndex_of g.1 (by rw [el];exact g.2.1)) (by simpa using hu) (by rw [el];exact kO g.2.2)) ⟨hl,?_⟩
   obtain ⟨r1,r2⟩:=jD R e ha hl (fun xs=>xs.eraseIdxIfInBounds j.toNat) (l':=l.eraseIdx j.toNat) (by
    have : (us.eraseIdxIfInBounds j.toNat).toList = us.toList.eraseIdx j.toNat:=by
     unfold Array.eraseIdxIfInBounds
     rw [dif_pos hlt,Array.toList_eraseIdx]
    rw [this]
    exact VRs.eraseIdx _ hr) s.toks
   have z:=VR.keep r2.k _ _ hru
   rw [List.append_nil] at z
   exact fin r2 r1 z
  ·exact zd hb
 | dict es =>
  obtain ⟨kvs,hd,hr⟩:=R.dictAt e ha
  revert hb;refine zR fun h3 hb=>?_
  obtain rfl:=Option.some.inj hb
  revert em;refine zR fun uu=>zk fun x h1=>zk fun r hx em=>?_
  obtain rfl:=yE h1
  replace hQ:=hQ.eq2 em
  obtain ⟨x',y,rfl,h1,h2⟩:=hv
  obtain rfl:=h2
  cases x with
  | str kk =>
   obtain rfl:=Option.some.inj hx
   obtain ⟨st,t,rfl,hn⟩:=h1
   refine call_meetsIn PySem.F.slot_dict_get hd.typeIs PySem.F.entry_dict_get (PySem.F.args_dict_get_2 _ _) (meets_dict_get (strKind prog w) a (vE st t) (R.notSys hS ha)) ⟨_,hd.mapOf,?_⟩
   have st0 : Still [] s { s with toks:=s.toks + 1 }:=Still.toks _
   rcases hr.get hn with ⟨pv,u,q1,q2,q3⟩ | ⟨q1,q2⟩
   ·rw [q2]
    exact hQ.pure R st0 (by rw [q1];exact q3)
   ·rw [q2]
    exact hQ.pure R st0 (by rw [q1];rfl)
  | tup l =>
   revert hx;refine zR fun hsi hx=>?_
   obtain rfl:=Option.some.inj hx
   obtain ⟨tl,us,rfl,htn,⟨ot,hot,hct,nt,hdt⟩,hvt⟩:=h1
   obtain ⟨od,hod,hod2⟩:=Heap.dictOf_iff.mp hd
   obtain ⟨des,dep,dk,dd⟩:=hr.ents hod2
   exact call_meetsIn PySem.F.slot_dict_get hd.typeIs PySem.F.entry_dict_get (PySem.F.args_dict_get_2 _ _) (xX (R.notSys hS ha)) ⟨by have : A.in1.units = A.units + 1:=rfl;lia,od,des,dep,ot,nt,_,hod,dd,dk,hot,hct,hdt,by simpa using zgt hsi hvt,fun k=>hQ.pure R (Still.toks k) rfl⟩
  | _=>exact zd hx
 | _=>exact zd hb
end
end Mine
namespace Mine
open PySem PySem.W PyProof.Rows PySem.Spec
theorem NSR.get {h : Heap} {ρ : List Addr} {k : Nat} {st : Str} (hn : nid st = some k) : ∀ {es : List (Nat × PV)} {ds : List DictEntry},NSR h ρ es ds →
  (∃ pv v,dictGet k es = some pv ∧ getL st ds = some (some v) ∧ VR h ρ pv v) ∨ (dictGet k es = none ∧ getL st ds = some none)
 | [],ds,e=>by cases e;exact .inr ⟨rfl,rfl⟩
 | x :: r,ds,e=>by
  obtain ⟨g,s',t,v',q,rfl,h1,h2,h3⟩:=e
  unfold dictGet
  by_cases c : x.1 = k
  ·have : s' = st:=jB (h1.trans (congrArg some c)) hn
   subst this
   have : Nat.beq x.1 k = true:=Nat.beq_eq.mpr c
   rw [this]
   refine .inl ⟨x.2,v',rfl,?_,h2⟩
   unfold getL
   have e1 : Value.isStr (.str s' t) s' = true:=by simp [Value.isStr]
   simp [e1]
  ·have ne : s' ≠ st:=fun q=>c (by subst q;rw [hn] at h1;exact (Option.some.inj h1).symm)
   have : Nat.beq x.1 k = false:=by
    cases q : Nat.beq x.1 k with
    | false=>rfl
    | true=>exact absurd (Nat.eq_of_beq_eq_true q) c
   rw [this]
   have e1 : Value.isStr (.str s' t) st = false:=by simp [Value.isStr,ne]
   have e2 : getL st ({ hash:=g,key:=.str s' t,val:=v' } :: q) = getL st q:=by
    unfold getL
    rw [List.find?_cons]
    simp only [e1]
    have : ({ hash:=g,key:=.str s' t,val:=v' } : DictEntry).refKey = false:=rfl
    rw [List.any_cons,this,Bool.false_or]
   exact e2 ▸ NSR.get hn h3
theorem NSR.set {h : Heap} {ρ : List Addr} {k : Nat} {v : PV} {st : Str} {val : Value} {hsh : Int} {tk : Tok} (hn : nid st = some k) (hv : VR h ρ v val) : ∀ {es : List (Nat × PV)} {ds : List DictEntry},NSR h ρ es ds →
  NSR h ρ (dictSet k v es) (putL st hsh (.str st tk) val ds)
 | [],ds,e=>by cases e;exact ⟨hsh,st,tk,val,[],rfl,hn,hv,rfl⟩
 | x :: r,ds,e=>by
  obtain ⟨g,s',t,v',q,rfl,h1,h2,h3⟩:=e
  unfold dictSet putL
  by_cases c : x.1 = k
  ·have : s' = st:=jB (h1.trans (congrArg some c)) hn
   subst this
   have e1 : Value.isStr (.str s' t) s' = true:=by simp [Value.isStr]
   have : Nat.beq x.1 k = true:=Nat.beq_eq.mpr c
   rw [this,if_pos e1]
   exact ⟨g,s',t,val,q,rfl,hn,hv,h3⟩
  ·have ne : s' ≠ st:=fun q=>c (by subst q;rw [hn] at h1;exact (Option.some.inj h1).symm)
   have e1 : ¬ Value.isStr (.str s' t) st = true:=by simp [Value.isStr,ne]
   have : Nat.beq x.1 k = false:=by
    cases q : Nat.beq x.1 k with
    | false=>rfl
    | true=>exact absurd (Nat.eq_of_beq_eq_true q) c
   rw [this,if_neg e1]
   exact ⟨g,s',t,v',_,rfl,h1,h2,NSR.set hn hv h3⟩
theorem NSR.length {h : Heap} {ρ : List Addr} : ∀ {es : List (Nat × PV)} {ds : List DictEntry},NSR h ρ es ds → ds.length = es.length
 | [],ds,e=>by cases e;rfl
 | x :: r,ds,e=>by
  obtain ⟨g,s',t,v',q,rfl,h1,h2,h3⟩:=e
  rw [List.length_cons,List.length_cons,h3.length]
theorem xD (k : Nat) (v : PV) : ∀ es : List (Nat × PV),(dictSet k v es).length ≤ es.length + 1
 | []=>Nat.le_refl _
 | e :: r=>by
  unfold dictSet
  split
  ·exact Nat.le_succ _
  ·rw [List.length_cons,List.length_cons];exact Nat.succ_le_succ (xD k v r)
noncomputable def zj2 (K : Frag) (a : Addr) : Bool:=plainGet K a ⟨#[]⟩ && hasDictIn K a && plainOver K a && findIn K (.ref a) "__setattr__" == some (some (.builtin "object.__setattr__"))
noncomputable def zqa (K : Frag) (a : Addr) (n : Str) : Bool:=findIn K (.ref a) n == some none
noncomputable def znx (K : Frag) (a : Addr) (n : Str) (f : Addr) : Bool:=findIn K (.ref a) n == some (some (.ref f)) && isFn K (.ref f)
structure ClsK (K : Frag) (a : Addr) (cd : ClsD) : Prop where
 ok : zj2 K a = true
 attrs : ∀ m,zoa m cd.attrs = true → zqa K a (nm m) = true
 meths : ∀ m f,kG m cd.meths = some f → znx K a (nm m) f = true
section
variable {prog : Program} {A : Around} {w : World} {B : Heap} {ρ : List Addr} {H H' : Hp} {s : Shared} {E : Value → Shared → Prop} {P : Prg} {K : Frag}
theorem qM {i d : Nat} {c a : Addr} {es : List (Nat × PV)} (R : Rel prog w B ρ H s.heap) (e : H[i]? = some (.inst c d)) (ha : LocA s.heap ρ i a) (ed : H[d]? = some (.ns es)) :
  ∃ ad ds n,LocA s.heap ρ d ad ∧ s.heap.get? ad = some (dictOf ds n) ∧ InstAt s.heap a { cls:=.ref c,dict:=some ad,data:=.plain } c (some (dictOf ds n)) ∧ NSR s.heap ρ es ds:=by
 obtain ⟨o,ho,ad,had,rfl⟩:=R.obj i _ a e ha.1
 obtain ⟨od,hod,ds,n,rfl,hr⟩:=R.obj d _ ad ed had.1
 exact ⟨ad,ds,n,had,hod,⟨ho,rfl,rfl,hod⟩,hr⟩
theorem qS {a : Addr} (h : zj2 K a = true) : findIn K (.ref a) "__getattribute__" = some (some (.builtin "object.__getattribute__")) ∧ findIn K (.ref a) "__getattr__" = some none ∧ hasDictIn K a = true ∧ plainOver K a = true ∧
  findIn K (.ref a) "__setattr__" = some (some (.builtin "object.__setattr__")):=by
 unfold zj2 at h
 obtain ⟨h,h4⟩:=Bool.and_eq_true_iff.mp h
 obtain ⟨h,h3⟩:=Bool.and_eq_true_iff.mp h
 obtain ⟨h1,h2⟩:=Bool.and_eq_true_iff.mp h
 exact ⟨(plainGet_of h1).1,(plainGet_of h1).2,h2,h3,beq_iff_eq.mp h4⟩
theorem zjr {c : Addr} {n : Nat} (h : xZ P c n = true) : ∃ cd,P.cls c = some cd ∧ zoa n cd.attrs = true:=zma h fun cd e h=>⟨cd,e,h⟩
theorem VR.handed {h : Heap} {x : PV} {v : Value} (r : VR h ρ x v) : handedIn v = true:=by
 cases x with
 | none=>cases r;rfl
 | bool b=>cases r;rfl
 | int i=>obtain ⟨t,rfl⟩:=r;rfl
 | str n=>obtain ⟨s,t,rfl,_⟩:=r;rfl
 | bytes b=>obtain ⟨t,rfl⟩:=r;rfl
 | barr b=>obtain ⟨a,rfl,_⟩:=r;rfl
 | tup l=>obtain ⟨a,vs,rfl,_⟩:=r;rfl
 | lst l=>obtain ⟨a,vs,rfl,_⟩:=r;rfl
 | loc i=>obtain ⟨a,rfl,_⟩:=r;rfl
 | fn o=>cases r;rfl
 | bi k=>subst r;unfold qV;split <;> first | rfl | decide +kernel
theorem zrr (hP : ∀ a cd,P.cls a = some cd → ClsK K a cd) {x v : PV} {a : Value} {n : Nat} {st : Str} {expr : Bool} {Q : Value → Shared → Prop} (X : K.In s.heap) (R : Rel prog w B ρ H s.heap) (ha : VR s.heap ρ x a) (hn : nid st = some n)
  (e : getA P x n H = some v) (hQ : ∀ val k,VR s.heap ρ v val → Q val { s with toks:=k }) : wpAny (model prog w) A (getAttr a st expr) Q E s:=by
 revert e;refine zk fun i hi=>zk fun c hx=>zR fun hA=>zk fun es hd e=>?_
 obtain rfl:=yX hi
 obtain ⟨la,rfl,hi⟩:=ha
 obtain ⟨cd,hcd,hm⟩:=zjr hA
 have CK:=hP c.1 cd hcd
 obtain ⟨k1,k2,k3,k4,k5⟩:=qS CK.ok
 obtain ⟨ad,ds,m,had,hod,I,hr⟩:=qM R (xm hx) hi (xa hd)
 rcases hr.get hn with ⟨pv,u,q1,q2,q3⟩ | ⟨q1,q2⟩
 ·obtain rfl:=Option.some.inj (q1.symm.trans e)
  have hf : findIn K (.ref c.1) st = some none:=by
   have z:=beq_iff_eq.mp (CK.attrs n hm)
   rwa [← yT hn] at z
  exact get_value X I k1 (findObj_own k3 hf rfl (by rw [lookIn_dict];exact q2)) q3.handed (hQ u _ q3)
 ·exact zd (q1.symm.trans e)
theorem zrj (hP : ∀ a cd,P.cls a = some cd → ClsK K a cd) {i d m : Nat} {c a f : Addr} {st : Str} {cd : ClsD} {es : List (Nat × PV)} {pl : Sem Bool} {Q : Value × List Value → Shared → Prop} (X : K.In s.heap) (R : Rel prog w B ρ H s.heap) (hi : LocA s.heap ρ i a) (hn : nid st = some m)
  (e : H[i]? = some (.inst c d)) (hc : P.cls c = some cd) (hm : kG m cd.meths = some f) (hd : H[d]? = some (.ns es)) (hno : dictGet m es = none)
  (hQ : Q (.ref f,[.ref a]) s) : wpAny (model prog w) A (getMethod (.ref a) st pl) Q E s:=by
 have CK:=hP c cd hc
 obtain ⟨k1,k2,k3,k4,k5⟩:=qS CK.ok
 obtain ⟨ad,ds,n,had,hod,I,hr⟩:=qM R e hi hd
 have z:=CK.meths m f hm
 rw [← yT hn] at z
 obtain ⟨z1,z2⟩:=Bool.and_eq_true_iff.mp z
 refine method_fn X I k1 k2 (beq_iff_eq.mp z1) (beq_iff_eq.mp z2) ?_ hQ
 rcases hr.get hn with ⟨pv,u,q1,q2,q3⟩ | ⟨q1,q2⟩
 ·rw [hno] at q1;cases q1
 ·show (lookIn st (dictOf ds n)).map _ = _
  rw [lookIn_dict,q2];rfl
theorem NSR.keys {h : Heap} : ∀ {es : List (Nat × PV)} {ds : List DictEntry},NSR h ρ es ds → ds.any (·.refKey) = false
 | [],ds,e=>by cases e;rfl
 | x :: r,ds,e=>by
  obtain ⟨g,s',t,v',q,rfl,h1,h2,h3⟩:=e
  rw [List.any_cons]
  have : ({ hash:=g,key:=.str s' t,val:=v' } : DictEntry).refKey = false:=rfl
  rw [this,Bool.false_or]
  exact NSR.keys h3
theorem zk6 {x C ad : Addr} {st : Str} {tk : Tok} {v : Value} {ds : List DictEntry} {m : Nat} {R : Result → Shared → Prop} (X : K.In s.heap) (I : InstAt s.heap x { cls:=.ref C,dict:=some ad,data:=.plain } C (some (dictOf ds m)))
  (hp : plainOver K C = true) (ht : takerIn K C st = some none) (hh : hasDictIn K C = true) (nk : ds.any (·.refKey) = false) (hz : ds.length < 1000)
  (h : ∀ h',h'.get? ad = some (dictOf (putL st (PyData.keyHash w.params st) (.str st s.toks) v ds) (putN st ds m)) → Heap.SameBut ad s.heap h' → R (.ok (.ret .none)) { s with heap:=h',toks:=s.toks + 1 }) :
  codeAny (model prog w) A (.call (.builtin "object.__setattr__") ⟨[.ref x,.str st tk,v],[]⟩) R s:=by
 refine osa_open X I hp ht fun uu=>?_
 obtain ⟨cd',hc',hd'⟩:=any_some hh
 have hx':=I.at_
 have hod : s.heap.get? ad = some (dictOf ds m):=I.dict
 refine wpAny_bind (wpAny_pure (wpAny_bind (wpAny_bind (wpAny_loadPart hx' (wpAny_bind ((looks_clsIn X hc').here ?_))))))
 rw [hd']
 refine wpAny_pure (a:=some ad) (wpAny_bind (wpAny_pure (wpAny_bind ?_)))
 unfold nsSet
 refine wpAny_bind (wpAny_bind (wpAny_askSetting (wpAny_pure (wpAny_bind (wpAny_mkText (wpAny_bind (wpAny_loadPart hod ?_)))))))
 have cc : (!ds.toArray.any (·.key.isStr st) && ds.toArray.any (·.refKey)) = false:=by
  have : ds.toArray.any (·.refKey) = false:=by rw [← Array.any_toList];exact nk
  rw [this,Bool.and_false]
 dsimp only
 rw [aRefKeyMayBeTheName_at,cc]
 refine wpAny_updatePart hod ?_
 have e' : Obj.putName st (PyData.keyHash w.params st) (.str st s.toks) v (dictOf ds m) = dictOf (putL st (PyData.keyHash w.params st) (.str st s.toks) v ds) (putN st ds m):=putName_dict ..
 have D' : (s.heap.update ad (Obj.putName st (PyData.keyHash w.params st) (.str st s.toks) v)).get? ad = some (dictOf (putL st (PyData.keyHash w.params st) (.str st s.toks) v ds) (putN st ds m)):=by
  have z:=Heap.get?_update_self (Obj.putName st (PyData.keyHash w.params st) (.str st s.toks) v) hod (by rw [e'];rfl)
  rw [e'] at z;exact z
 have hl : (putL st (PyData.keyHash w.params st) (.str st s.toks) v ds).length ≤ ds.length + 1:=by
  clear D' e' cc hod I nk h hz
  induction ds with
  | nil=>exact Nat.le_refl _
  | cons e r ih =>
   unfold putL
   split
   ·exact Nat.le_succ _
   ·rw [List.length_cons,List.length_cons];exact Nat.succ_le_succ ih
 refine wpAny_bind (wpAny_lookBehind D' (pastItsLine_dict (by rw [List.size_toArray,sizeLine_eq];exact zu2 (Nat.le_trans hl hz) rfl)) ?_)
 exact wpAny_pure (h _ D' (Heap.SameBut.update ..))
theorem zqu (hP : ∀ a cd,P.cls a = some cd → ClsK K a cd) {x v : PV} {a b : Value} {n : Nat} {st : Str} {Q : Unit → Shared → Prop} (X : K.In s.heap) (R : Rel prog w B ρ H s.heap) (ha : VR s.heap ρ x a) (hb : VR s.heap ρ v b) (hn : nid st = some n)
  (e : setA P x n v H = some H') (hQ : ∀ s',Ext ρ [] s s' [] → Rel prog w B ρ H' s'.heap → Q () s') : wpAny (model prog w) A (setAttr a st b) Q E s:=by
 revert e;refine zk fun i hi=>zk fun c hx=>zR fun hA=>zk fun es hd=>zX fun g e=>?_
 obtain rfl:=yX hi
 obtain rfl:=Option.some.inj e
 obtain ⟨la,rfl,hi⟩:=ha
 obtain ⟨cd,hcd,hm⟩:=zjr hA
 have CK:=hP c.1 cd hcd
 obtain ⟨k1,k2,k3,k4,k5⟩:=qS CK.ok
 have hd:=xa hd
 obtain ⟨ad,ds,m,had,hod,I,hr⟩:=qM R (xm hx) hi hd
 have hf : findIn K (.ref c.1) st = some none:=by
  have z:=beq_iff_eq.mp (CK.attrs n hm)
  rwa [← yT hn] at z
 have ht : takerIn K c.1 st = some none:=by unfold takerIn;rw [hf];rfl
 refine set_plain X I k5 (zk6 (s:={ s with toks:=s.toks + 1 }) X I k4 ht k3 hr.keys (by rw [hr.length];exact g) fun h' g1 g2=>?_)
 obtain ⟨r1,r2⟩:=R.update (m:=.ns (dictSet n v es)) (s.toks + 2) had (by rw [hd];exact fun q=>nomatch q) ⟨_,_,rfl,hr.set hn hb⟩ g2 g1
 exact hQ _ r2 r1
end
end Mine
namespace Mine
open PySem PySem.W PyProof.Rows PySem.Spec
theorem zbh {h : Heap} {ρ : List Addr} : ∀ {l : List PV} {vs : List Value} {b : List UInt8},xI l = some b → VRs h ρ l vs → ∃ ns : List Int,IntsAre vs ns ∧ (∀ n ∈ ns,0 ≤ n ∧ n < 256) ∧ b = ns.map fun n=>n.toNat.toUInt8
 | [],vs,b,e,r=>by obtain rfl:=Option.some.inj e;obtain rfl:=r;exact ⟨[],.nil,(fun uu h=>nomatch h),rfl⟩
 | x :: l,vs,b,e,r=>by
  obtain ⟨v,t,rfl,h1,h2⟩:=r
  revert e;refine zk fun i hi=>zX fun g=>zk fun b' e' e=>?_
  obtain rfl:=zH hi
  obtain ⟨tk,rfl⟩:=h1
  obtain rfl:=Option.some.inj e
  obtain ⟨ns,q1,q2,rfl⟩:=zbh e' h2
  exact ⟨i :: ns,.cons i tk q1,List.forall_mem_cons.mpr ⟨g,q2⟩,rfl⟩
theorem zi6 {h : Heap} {ρ : List Addr} : ∀ {l : List PV} {vs : List Value} {a z : Int},zgj l a = some z → VRs h ρ l vs → ∃ ns : List Int,IntsAre vs ns ∧ z = a + ns.sum
 | [],vs,a,z,e,r=>by obtain rfl:=Option.some.inj e;obtain rfl:=r;exact ⟨[],.nil,(Int.add_zero _).symm⟩
 | x :: l,vs,a,z,e,r=>by
  obtain ⟨v,t,rfl,h1,h2⟩:=r
  revert e;refine zk fun i hi e=>?_
  obtain rfl:=zH hi
  obtain ⟨tk,rfl⟩:=h1
  obtain ⟨ns,q1,rfl⟩:=zi6 e h2
  exact ⟨i :: ns,.cons i tk q1,by rw [List.sum_cons,Int.add_assoc]⟩
theorem qe (x : Int) : ∀ l : List Int,(yo x l).Perm (x :: l)
 | []=>List.Perm.refl _
 | y :: r=>by
  unfold yo
  split
  ·exact List.Perm.refl _
  ·exact ((qe x r).cons y).trans (List.Perm.swap x y r)
theorem qN (x : Int) : ∀ l : List Int,l.Pairwise (· ≤ ·) → (yo x l).Pairwise (· ≤ ·)
 | [],_=>by simp [yo]
 | y :: r,h=>by
  have h':=h
  rw [List.pairwise_cons] at h'
  unfold yo
  split
  ·rename_i g
   have g:=of_decide_eq_true g
   rw [List.pairwise_cons]
   refine ⟨fun z hz=>?_,h⟩
   rcases List.mem_cons.mp hz with rfl | hz
   ·exact g
   ·exact Int.le_trans g (h'.1 z hz)
  ·rename_i g
   have g:=of_decide_eq_false g
   rw [List.pairwise_cons]
   refine ⟨fun z hz=>?_,qN x r h'.2⟩
   rcases List.mem_cons.mp ((qe x r).mem_iff.mp hz) with rfl | hz
   ·lia
   ·exact h'.1 z hz
theorem zal : ∀ l : List Int,(l.foldr yo []).Perm l
 | []=>List.Perm.refl _
 | x :: r=>(qe x _).trans ((zal r).cons x)
theorem wb : ∀ l : List Int,(l.foldr yo []).Pairwise (· ≤ ·)
 | []=>.nil
 | x :: r=>qN x _ (wb r)
theorem kD : ∀ {a b : List Int},a.Perm b → a.Pairwise (· ≤ ·) → b.Pairwise (· ≤ ·) → a = b
 | [],b,p,_,_=>(List.Perm.nil_eq p)
 | x :: r,[],p,_,_=>absurd p.length_eq (by simp)
 | x :: r,y :: t,p,h1,h2=>by
  rw [List.pairwise_cons] at h1 h2
  have e : x = y:=by
   have m1 : y ∈ x :: r:=p.mem_iff.mpr (List.mem_cons_self ..)
   have m2 : x ∈ y :: t:=p.mem_iff.mp (List.mem_cons_self ..)
   rcases List.mem_cons.mp m1 with q1 | q1
   ·exact q1.symm
   ·rcases List.mem_cons.mp m2 with q2 | q2
    ·exact q2
    ·have:=h1.1 y q1;have:=h2.1 x q2;lia
  subst e
  rw [kD (List.Perm.cons_inv p) h1.2 h2.2]
theorem wn {h : Heap} {ρ : List Addr} : ∀ {vs : List Value} {ns : List Int},IntsAre vs ns → VRs h ρ (ns.map .int) vs
 | _,_,.nil=>rfl
 | _,_,.cons i t r=>⟨_,_,rfl,⟨t,rfl⟩,wn r⟩
theorem ze0 {vs : List Value} {ns : List Int} (h : IntsAre vs ns) : ∃ xs : Array (Int × Tok),vs.toArray = intItems xs ∧ (xs.map (·.1)).toList = ns:=by
 induction h with
 | nil=>exact ⟨#[],by simp [intItems],by simp⟩
 | cons i t r ih =>
  obtain ⟨xs,h1,h2⟩:=ih
  refine ⟨#[(i,t)] ++ xs,?_,?_⟩
  ·unfold intItems at h1 ⊢
   simp [← h1]
  ·simp at h2
   simp [h2]
section
variable {prog : Program} {A : Around} {w : World} {B : Heap} {ρ : List Addr} {H H' : Hp} {s : Shared} {E : Value → Shared → Prop} {P : Prg} {K : Frag}
theorem zuk {x : PV} {a : Value} {z : Nat} {Q : Value → Shared → Prop} (R : Rel prog w B ρ H s.heap) (ha : VR s.heap ρ x a)
  (e : lenV x H = some z) (hz : z ≤ lim) (hQ : ∀ t k,Q (.int z t) { s with toks:=k }) : wpAny (model prog w) A (call (.builtin "len") [a]) Q E s:=by
 have hl63 : (z : Int) < 2 ^ 63:=Int.lt_of_le_of_lt (Int.ofNat_le.mpr hz) (by decide)
 have lst : ∀ {la : Addr} {l : List PV} {vs : List Value},SeqAt s.heap la "list" vs.toArray → VRs s.heap ρ l vs → l.length = z → wpAny (model prog w) A (call (.builtin "len") [.ref la]) Q E s:=fun {la l vs} h1 h2 e=>by
  have hl : s.heap.IsList la vs.toArray:=h1
  have el:=h2.length.trans e
  refine PyProof.Rows.len_list hl (by rw [List.size_toArray,el];exact hl63) ?_
  rw [List.size_toArray,el];exact hQ _ _
 cases x with
 | lst l =>
  obtain ⟨la,vs,rfl,_,h1,h2⟩:=ha
  exact lst h1 h2 (Option.some.inj e)
 | tup l =>
  obtain ⟨la,vs,rfl,_,h1,h2⟩:=ha
  have hl : IsTup s.heap la vs.toArray:=h1
  have el:=h2.length.trans (Option.some.inj e)
  refine PyProof.Rows.len_tuple hl (by rw [List.size_toArray,el];exact hl63) ?_
  rw [List.size_toArray,el];exact hQ _ _
 | bytes b =>
  obtain rfl:=Option.some.inj e
  obtain ⟨t,rfl⟩:=ha
  refine PySem.W.len_bytes (by rw [List.size_toArray];exact Nat.le_trans hz (by decide)) ?_
  rw [List.size_toArray];exact hQ _ _
 | loc i =>
  obtain ⟨l,rfl,hi⟩:=ha
  revert e;refine zk fun o ho e=>?_
  cases o with
  | list l' =>
   obtain ⟨vs,h1,h2⟩:=R.listAt ho hi
   exact lst h1 h2 (Option.some.inj e)
  | barr l' =>
   revert e;refine zX fun g e=>?_
   obtain rfl:=Option.some.inj e
   obtain ⟨o,ho,rfl⟩:=R.obj _ _ _ ho hi.1
   exact zul (b:=l') ho g hQ
  | _=>exact zd e
 | _=>exact zd e
theorem zpt (hh : A.handled = none) (C : CatOk P) {k : Nat} {x v : PV} {a : Value} {Q : Value → Shared → Prop} (R : Rel prog w B ρ H s.heap) (ha : VR s.heap ρ x a)
  (e : zfn P k x H = some (v,H')) (hQ : Post prog w B ρ s H' v Q) : wpN (model prog w) A (call (qV k) [a]) Q E s:=by
 rcases k with _ | _ | _ | _ | _ | _ | _ | _ | k
 ·exact zd e
 ·revert e;refine zk fun n hn=>zX fun g e=>?_
  replace hQ:=hQ.eq2 e
  exact wpN.of (zuk R ha hn g fun t c=>hQ.pure R (Still.toks c) ⟨t,rfl⟩)
 ·revert e;refine zk fun l hl'=>zk fun z hz e=>?_
  obtain rfl:=jW hl'
  replace hQ:=hQ.eq2 e
  obtain ⟨l,vs,rfl,hno,h1,h2⟩:=ha
  obtain ⟨ns,q1,q2⟩:=zi6 hz h2
  obtain ⟨xs,q3,q4⟩:=ze0 q1
  have hl : s.heap.IsList l (intItems xs):=by rw [← q3];exact h1
  refine wpN.of (PySem.sum_intListG hh hl fun h' tk t' hk=>hQ.pure R (Still.kept tk hk) ⟨t',?_⟩)
  rw [preSum_eq,q2,← q4,Int.zero_add,List.take_of_length_le (by simp),Array.toList_map]
 ·revert e;refine zk fun i hi=>zk fun l' hx=>zk fun xs hxs=>zX fun g e=>?_
  obtain rfl:=yX hi
  replace hQ:=hQ.eq2 e
  obtain ⟨l,rfl,hi⟩:=ha
  obtain ⟨vs,h1,h2⟩:=R.listAt (yV hx) hi
  have hl : s.heap.IsList l vs.toArray:=h1
  refine wpN.of (PyProof.Rows.sorted_ints hl (xl hxs h2) (by rw [h2.length];exact zu4 g rfl) fun out ns' p1 p2 p3=>?_)
  obtain rfl:=kD (p2.trans (zal xs).symm) p3 (wb xs)
  obtain ⟨m,hm⟩:=PyProof.Rows.sortedAll_at s.heap vs out
  have st : Still [] s { s with heap:=PyProof.Rows.sortedAll s.heap vs out,toks:=s.toks }:=Still.kept _ fun b o q=>PyProof.Rows.sortedAll_old q
  exact hQ.pure R st ⟨_,out.toList,rfl,R.off (Nat.le_succ _),⟨_,hm,rfl,m,by simp [seqObj]⟩,wn p1⟩
 ·revert e;refine zk fun b hb e=>?_
  replace hQ:=hQ.eq2 e
  cases x with
  | lst l =>
   revert hb;refine zk fun b' hb'=>zX fun g hb=>?_
   obtain rfl:=Option.some.inj hb
   obtain ⟨l,vs,rfl,hno,h1,h2⟩:=ha
   obtain ⟨ns,q1,q2,rfl⟩:=zbh hb' h2
   have hl : s.heap.IsList l vs.toArray:=h1
   rw [List.length_map] at g
   exact wpN.of (call_bytes_ints hl q1 q2 (by rw [q1.length];exact Nat.le_trans g (by decide)) hh fun h' t k hk=>hQ.pure R (Still.kept k hk) ⟨t,rfl⟩)
  | bytes b =>
   obtain rfl:=Option.some.inj hb
   obtain ⟨t,rfl⟩:=ha
   exact wpN.of (xG (hQ.pure R Still.refl ⟨t,rfl⟩))
  | barr b =>
   revert hb;refine zX fun g hb=>?_
   obtain rfl:=Option.some.inj hb
   obtain ⟨l,rfl,hno,h1⟩:=ha
   exact wpN.of (zfq h1 g fun t c=>hQ.pure R (Still.toks c) ⟨t,rfl⟩)
  | _=>exact zd hb
 ·revert e;refine zk fun b hb e=>?_
  replace hQ:=hQ.eq2 e
  have hb : BaSrc a b:=by
   cases x with
   | bytes b' =>
    revert hb;refine zX fun g hb=>?_
    obtain rfl:=Option.some.inj hb
    obtain ⟨t,rfl⟩:=ha
    exact .bytes _ t g
   | int k =>
    revert hb;refine zX fun g hb=>?_
    obtain rfl:=Option.some.inj hb
    obtain ⟨t,rfl⟩:=ha
    exact .int _ t g.1 g.2
   | _=>exact zd hb
  refine zj6 hb fun h' e1 e2=>?_
  obtain ⟨r1,r2⟩:=R.alloc (m:=.barr []) (o:=vz []) s.toks rfl
  obtain ⟨r3,r4⟩:=r1.update (s:={ s with heap:=s.heap.push (vz []) }) (m:=.barr b) s.toks (R.newAt (zU _) (by show (s.heap.push _).get? _ ≠ none;rw [Heap.get?_push_size _ rfl];exact fun q=>nomatch q)) (by simp) rfl e1 e2
  have r5:=r2.seq r4
  rw [List.append_nil] at r5
  refine hQ _ _ _ r5 ?_ ⟨_,rfl,R.newAt (zU _) (by have e2' : h'.get? s.heap.objs.size = _:=e2;rw [e2'];exact fun q=>nomatch q)⟩
  have : (H ++ [MObj.barr []]).set H.length (.barr b) = H ++ [.barr b]:=by simp
  rwa [this] at r3
 ·revert e;refine zk fun i hi=>zk fun l' hx=>zX fun g e=>?_
  obtain rfl:=yX hi
  replace hQ:=hQ.eq2 e
  obtain ⟨l,rfl,hi⟩:=ha
  obtain ⟨vs,h1,h2⟩:=R.listAt (yV hx) hi
  have hl : s.heap.IsList l vs.toArray:=h1
  refine wpN.of (call_tuple_list hl (fun h' hk=>?_) (by rw [List.size_toArray,h2.length];exact Nat.le_trans g (by decide)))
  have st : Still [] s { s with heap:=h'.push { cls:=.type "tuple",data:=.seq vs.toArray },toks:=s.toks }:=Still.kept _ fun b o q=>Heap.get?_push_of_some _ (hk b o q)
  have st' : Still [] s { s with heap:=h',toks:=s.toks }:=Still.kept _ hk
  refine hQ.pure R st ⟨_,vs,rfl,R.off' (st'.gone _ (zU _)),⟨_,Heap.get?_push_size _ rfl,rfl,_,rfl⟩,?_⟩
  have z:=VRs.keep (st.k (ρ:=ρ) fun uu h=>(nomatch h)) _ _ h2
  rwa [List.append_nil] at z
 ·revert e;refine zk fun i hi=>zk fun c hc e=>?_
  obtain rfl:=zH hi
  replace hQ:=hQ.eq2 e
  obtain ⟨t,rfl⟩:=ha
  obtain ⟨g1,g2,g3⟩:=C.ofInt _ _ hc
  exact wpN.of (PyProof.Rows.str_of_int_fit (N:=10) (by rw [if_neg (by exact Int.not_lt.mpr g1)];exact g2) (by decide) fun uu=>hQ.pure R (Still.toks _) ⟨_,_,rfl,g3⟩)
 ·exact zd e
end
end Mine
namespace Mine
open PySem PySem.W PyProof.Rows PySem.Spec
noncomputable def HidA (ρ : List Addr) (a : Addr) (i : Nat) : Prop:=ρ[i]? = some a ∧ ρ[i + 1]? = some a ∧ ∀ j : Nat,ρ[j]? = some a → j = i ∨ j = i + 1
noncomputable def Hid (ρ : List Addr) (H : Hp) (a : Addr) : Prop:=∃ i,HidA ρ a i ∧ H[i]? = some .hid ∧ H[i + 1]? = some .hid
theorem Hid.free {ρ : List Addr} {H : Hp} {a : Addr} (h : Hid ρ H a) : Free ρ a:=fun j e=>by
 obtain ⟨i,⟨h1,h2,h3⟩,_⟩:=h
 rcases h3 j e with rfl | rfl
 ·exact ⟨j + 1,Nat.succ_ne_self j,h2⟩
 ·exact ⟨i,(Nat.succ_ne_self i).symm,h1⟩
theorem Hid.at {ρ : List Addr} {H : Hp} {a : Addr} (h : Hid ρ H a) {i : Nat} (e : ρ[i]? = some a) : H[i]? = some .hid:=by
 obtain ⟨k,⟨_,_,h3⟩,h4,h5⟩:=h
 rcases h3 i e with rfl | rfl
 ·exact h4
 ·exact h5
noncomputable def liveO (r : Option Obj) : Option Obj:=match r with
 | some { data:=.freed,.. }=>none
 | r=>r
theorem zlc {o : Obj} : ∀ {r : Option Obj},liveO r = some o → o.isFreed = false
 | some ⟨_,_,dt,_⟩,e=>by cases dt <;> first | exact Option.some.inj e ▸ rfl | exact zd e
theorem ze8 {h : Heap} {a : Addr} {o : Obj} (e : h.get? a = some o) : o.isFreed = false:=zlc (r:=h.objs[a]?) e
structure Quiet (X : List Addr) (s s' : Shared) : Prop where
 keep : ∀ a o,s.heap.get? a = some o → a ∉ X → s'.heap.get? a = some o
 gens : s'.gens = s.gens
 drawn : s'.drawn = s.drawn
 os : s'.os = s.os
theorem Still.quiet {X : List Addr} {s s' : Shared} (e : Still X s s') : Quiet X s s':=⟨e.keep,e.gens,e.drawn,e.os⟩
theorem Still.more {X Y : List Addr} {s s' : Shared} (e : Still X s s') (h : ∀ a ∈ X,a ∈ Y) : Still Y s s':=⟨fun a o g n=>e.keep a o g fun q=>n (h a q),e.gone,e.gens,e.drawn,e.os⟩
section
variable {prog : Program} {A : Around} {w : World} {B : Heap} {ρ : List Addr} {H H' : Hp} {s s' : Shared} {E : Value → Shared → Prop} {P : Prg}
noncomputable def Priv (ρ : List Addr) (H : Hp) (B h : Heap) (X : List Addr) : Prop:=∀ a ∈ X,B.get? a = none ∧ ((a ∉ ρ ∧ ∀ o,h.get? a = some o → zM o = false) ∨ Hid ρ H a)
theorem Priv.vals {X : List Addr} (p : Priv ρ H B s.heap X) {a : Addr} {o : Obj} (e : s.heap.get? a = some o) (n : a ∉ ρ) (v : zM o = true) : a ∉ X:=fun m=>by
 rcases (p a m).2 with q | ⟨i,⟨q,_⟩,_⟩
 ·rw [q.2 o e] at v;cases v
 ·exact n (List.mem_of_getElem? q)
theorem Priv.ext {X : List Addr} (p : Priv ρ H B s.heap X) (e : Still X s s') : Ext ρ X s s' [] :=
 ⟨fun a o g uu x=>e.keep a o g x,fun a o g n v=>e.keep a o g (p.vals g n v),fun uu h=>(nomatch h),e.gone,e.gens,e.drawn,e.os⟩
theorem Priv.rel {X : List Addr} (p : Priv ρ H B s.heap X) (e : Still X s s') (R : Rel prog w B ρ H s.heap) : Rel prog w B ρ H s'.heap:=by
 refine ⟨fun a o g=>e.keep a o (R.base a o g) fun q=>(by rw [(p a q).1] at g;cases g),R.len,R.fresh,fun i m a g q=>?_⟩
 obtain ⟨o,ho,hr⟩:=R.obj i m a g q
 have z:=hr.keep (p.ext e).k
 replace z:=(List.append_nil ..) ▸ z
 by_cases hx : a ∈ X
 ·rcases (p a hx).2 with t | t
  ·exact absurd (List.mem_of_getElem? q) t.1
  ·have:=t.at q
   replace this:=g ▸ this
   cases this
   cases y : s'.heap.get? a with
   | none=>have:=e.gone a y;rw [ho] at this;cases this
   | some o'=>exact ⟨o',rfl,ze8 y⟩
 ·exact ⟨o,e.keep a o ho hx,z⟩
theorem Priv.env {X : List Addr} {env : Env} {L : Loc} (p : Priv ρ H B s.heap X) (e : Still X s s') (V : EnvOk B env ρ s.heap) (W : VarsOk env ρ s.heap L) (hX : ∀ a ∈ ym env,a ∉ X) : EnvOk B env ρ s'.heap ∧ VarsOk env ρ s'.heap L:=by
 have h1:=V.ext (p.ext e) hX
 have h2:=W.ext V (p.ext e) hX
 rw [List.append_nil] at h1 h2
 exact ⟨h1,h2⟩
theorem Priv.vr {X : List Addr} {x : PV} {v : Value} (p : Priv ρ H B s.heap X) (e : Still X s s') (r : VR s.heap ρ x v) : VR s'.heap ρ x v:=by
 have z:=VR.keep (p.ext e).k _ _ r
 rwa [List.append_nil] at z
theorem Ext.quiet {X Y δ : List Addr} {s₀ : Shared} (e : Ext ρ X s₀ s δ) (q : Quiet Y s s') (h : ∀ a ∈ Y,s₀.heap.get? a = none) : Ext ρ X s₀ s' δ:=by
 refine ⟨fun a o g n x=>q.keep a o (e.keep a o g n x) fun m=>(by rw [h a m] at g;cases g),fun a o g n v=>q.keep a o (e.vals a o g n v) fun m=>(by rw [h a m] at g;cases g),e.new,fun a g=>?_,q.gens.trans e.gens,q.drawn.trans e.drawn,q.os.trans e.os⟩
 by_cases m : a ∈ Y
 ·exact h a m
 ·refine e.gone a ?_
  cases z : s.heap.get? a with
  | none=>rfl
  | some o=>rw [q.keep a o z m] at g;cases g
noncomputable def xk (e : PySem.Expr) : Bool:=Nat.ble 7 (xz e)
noncomputable def zom (e : PySem.Expr) : Bool:=Nat.beq (xz e) 7
structure Iter (prog : Program) (w : World) (A : Around) (tg : PySem.Expr → Bool) (it : Value) (PR HD : List Addr) (St : List PV → List Addr → Heap → Prop) : Prop where
 ext : ∀ {l : List PV} {ρ X δ : List Addr} {s s' : Shared},St l ρ s.heap → Ext ρ X s s' δ → (∀ a ∈ PR,a ∉ X) → St l (ρ ++ δ) s'.heap
 priv : ∀ {l : List PV} {ρ : List Addr} {h : Heap},St l ρ h → ∀ a ∈ PR,a ∈ HD ∨ (a ∉ ρ ∧ ∀ o,h.get? a = some o → zM o = false)
 next : ∀ {v : PV} {l : List PV} {ρ : List Addr} {s : Shared} {Q : Option Value → Shared → Prop} {E : Value → Shared → Prop},St (v :: l) ρ s.heap → (∀ a,s.heap.get? a = none → a ∉ ρ) →
  (∀ s' val,Still PR s s' → VR s'.heap ρ v val → (∀ (t : PySem.Expr) (Q' : Unit → Shared → Prop) (E' : Value → Shared → Prop),tg t = true →
   (∀ s'',Still PR s' s'' → VR s''.heap ρ v val → St l ρ s''.heap → Q' () s'') → wpAny (model prog w) A (letOwnedTupleGo t it val) Q' E' s') → Q (some val) s') → wpAny (model prog w) A (pyNext it) Q E s
 self : ∀ {l : List PV} {ρ : List Addr} {s : Shared} {Q : Value → Shared → Prop} {E : Value → Shared → Prop},St l ρ s.heap → Q it s → wpAny (model prog w) A (pyIter it) Q E s
 stop : ∀ {ρ : List Addr} {s : Shared} {Q : Option Value → Shared → Prop} {E : Value → Shared → Prop},St [] ρ s.heap → (∀ s',Quiet PR s s' → Q none s') → wpAny (model prog w) A (pyNext it) Q E s
noncomputable def zno (c : Value) : Bool:=match c with
 | .type n=>!(["enumerate","zip","dict_itemiterator","dict_reverseitemiterator","odict_iterator","itertools.zip_longest","itertools.pairwise"].contains n)
 | _=>true
theorem jQ {t : PySem.Expr} {r : Addr} {o : Obj} {val : Value} {Q : Unit → Shared → Prop} (ho : s.heap.get? r = some o) (hc : zno o.cls = true) (hQ : Q () s) :
  wpAny (model prog w) A (letOwnedTupleGo t (.ref r) val) Q E s:=by
 have go : wpAny (model prog w) A (letOwnedTupleGo (.Tuple [] 0 ⟨0,0,0,0⟩) (.ref r) val) Q E s:=by
  unfold letOwnedTupleGo
  dsimp only
  cases val with
  | ref a =>
   dsimp only
   refine wpAny_bind (wpAny_load ho ?_)
   cases hcl : o.cls with
   | type n =>
    rw [hcl] at hc
    cases hd : o.data with
    | fields vs =>
     dsimp only
     have : (["enumerate","zip","dict_itemiterator","dict_reverseitemiterator","odict_iterator","itertools.zip_longest","itertools.pairwise"].contains n && vs[0]? == some (rawInt a)) = false:=by
      have : ["enumerate","zip","dict_itemiterator","dict_reverseitemiterator","odict_iterator","itertools.zip_longest","itertools.pairwise"].contains n = false:=by simpa [zno] using hc
      rw [this,Bool.false_and]
     exact this ▸ wpAny_pure hQ
    | _=>exact wpAny_pure hQ
   | _=>exact wpAny_pure hQ
  | _=>exact wpAny_pure hQ
 cases t <;> first | exact wpAny_pure hQ | exact go
end
end Mine
namespace Mine
open PySem PySem.W PyProof.Rows PySem.Spec
section
variable {prog : Program} {A : Around} {w : World} {B : Heap} {ρ : List Addr} {H H' : Hp} {s s' : Shared} {E : Value → Shared → Prop} {P : Prg}
theorem Ext.vr {X δ : List Addr} {x : PV} {v : Value} (e : Ext ρ X s s' δ) (r : VR s.heap ρ x v) : VR s'.heap (ρ ++ δ) x v:=VR.keep e.k _ _ r
theorem Ext.vrs {X δ : List Addr} {x : List PV} {v : List Value} (e : Ext ρ X s s' δ) (r : VRs s.heap ρ x v) : VRs s'.heap (ρ ++ δ) x v:=VRs.keep e.k _ _ r
theorem yF {h : Heap} {a : Addr} {o o' : Obj} (e : h.get? a = some o) (d : zM o = false) (e' : h.get? a = some o') : zM o' = false:=by rw [e] at e';cases e';exact d
theorem Ext.obj {X δ : List Addr} {a : Addr} {o : Obj} (e : Ext ρ X s s' δ) (g : s.heap.get? a = some o) (n : a ∉ ρ) (x : a ∉ X) : s'.heap.get? a = some o ∧ a ∉ ρ ++ δ:=⟨e.keep a o g (Free.of n) x,e.k.not g n⟩
theorem js {α : Type} {l : List α} {i : Nat} {v : α} {r : List α} (e : l.drop i = v :: r) : l[i]? = some v ∧ l.drop (i + 1) = r:=by
 have h1 : (l.drop i)[0]? = some v:=by rw [e];rfl
 rw [List.getElem?_drop] at h1
 refine ⟨by simpa using h1,?_⟩
 rw [← List.drop_drop,e];rfl
noncomputable def LSt (I : Addr) (rest : List PV) (ρ : List Addr) (h : Heap) : Prop :=
 ∃ l full vs i,h.IsListIter I l i ∧ I ∉ ρ ∧ SeqAt h l "list" vs.toArray ∧ l ∉ ρ ∧ VRs h ρ full vs ∧ full.drop i = rest
theorem zol (hh : A.handled = none) (I : Addr) : Iter prog w A xk (.ref I) [I] [] (LSt I) where
 ext:=fun {l ρ X δ s s'} hst e hX=>by
  obtain ⟨la,full,vs,i,⟨o,ho,hc,hd⟩,h2,h3,h4,h5,h6⟩:=hst
  have g:=e.obj ho h2 (hX I (List.mem_singleton.mpr rfl))
  exact ⟨la,full,vs,i,⟨o,g.1,hc,hd⟩,g.2,h3.keep e.k h4,e.k.not h3.choose_spec.1 h4,e.vrs h5,h6⟩
 priv:=fun {l ρ h} hst a ha=>by
  obtain ⟨la,full,vs,i,⟨o,ho,hc,hd⟩,h2,_⟩:=hst
  exact .inr (by
  rw [List.mem_singleton.mp ha]
  exact ⟨h2,fun o' e=>yF ho (by unfold zM;rw [hd]) e⟩)
 next:=fun {v l ρ s Q E} hst hρ hQ=>by
  obtain ⟨la,full,vs,i,h1,h2,h3,h4,h5,h6⟩:=hst
  obtain ⟨q1,q2⟩:=js h6
  obtain ⟨u,hu,hr⟩:=h5.get q1
  obtain ⟨o,ho,hc,hd⟩:=id h1
  have nI : la ≠ I:=fun q=>by obtain ⟨o',ho',hc',_⟩:=id h3;rw [q,ho] at ho';cases ho';rw [hc] at hc';exact absurd hc' (by decide)
  refine wpAny_pyNext_list_item h1 (h3 : s.heap.IsList la vs.toArray) (by simpa using hu) fun h' hi hs=>?_
  have st : Still [I] s { s with heap:=h' }:=Still.sameBut s.toks hs (List.mem_singleton.mpr rfl) (by obtain ⟨o,ho,_⟩:=hi;rw [ho];exact fun q=>nomatch q)
  have nv : ∀ a ∈ [I],∀ o,s.heap.get? a = some o → zM o = false:=fun a ha o' e=>by rw [List.mem_singleton.mp ha] at e;exact yF ho (by unfold zM;rw [hd]) e
  have k:=st.k (ρ:=ρ) nv
  have hr' : VR h' ρ v u:=hr.still st nv
  obtain ⟨o2,ho2,hc2,hd2⟩:=id hi
  refine hQ _ u st hr' fun t Q' E' ht hk=>jQ (s:={ s with heap:=h' }) ho2 (by rw [hc2];decide) (hk _ Still.refl hr' ⟨la,full,vs,i + 1,hi,h2,?_,h4,?_,q2⟩)
  ·exact h3.keep k h4
  ·have z:=VRs.keep k _ _ h5
   rwa [List.append_nil] at z
 self:=fun {l ρ s Q E} hst q=>by
  obtain ⟨la,full,vs,i,h1,_⟩:=hst
  exact wpAny_pyIter_listiter h1 q
 stop:=fun {ρ s Q E} hst hQ=>by
  obtain ⟨la,full,vs,i,h1,h2,h3,h4,h5,h6⟩:=hst
  have : vs[i]? = none:=by
   rw [List.getElem?_eq_none_iff,h5.length]
   exact List.drop_eq_nil_iff.mp h6
  refine wpAny_pyNext_list_end hh h1 (h3 : s.heap.IsList la vs.toArray) (by simpa using this) fun h' hs=>hQ _ ⟨fun a o e n=>hs a o (fun q=>n (List.mem_singleton.mpr q)) e,rfl,rfl,rfl⟩
noncomputable def TSt (I : Addr) (rest : List PV) (ρ : List Addr) (h : Heap) : Prop :=
 ∃ l full vs i,h.IsTupleIter I l i ∧ I ∉ ρ ∧ SeqAt h l "tuple" vs.toArray ∧ l ∉ ρ ∧ VRs h ρ full vs ∧ full.drop i = rest
theorem zok (hh : A.handled = none) (I : Addr) : Iter prog w A xk (.ref I) [I] [] (TSt I) where
 ext:=fun {l ρ X δ s s'} hst e hX=>by
  obtain ⟨la,full,vs,i,⟨o,ho,hc,hd⟩,h2,h3,h4,h5,h6⟩:=hst
  have g:=e.obj ho h2 (hX I (List.mem_singleton.mpr rfl))
  exact ⟨la,full,vs,i,⟨o,g.1,hc,hd⟩,g.2,h3.keep e.k h4,e.k.not h3.choose_spec.1 h4,e.vrs h5,h6⟩
 priv:=fun {l ρ h} hst a ha=>by
  obtain ⟨la,full,vs,i,⟨o,ho,hc,hd⟩,h2,_⟩:=hst
  exact .inr (by
  rw [List.mem_singleton.mp ha]
  exact ⟨h2,fun o' e=>yF ho (by unfold zM;rw [hd]) e⟩)
 next:=fun {v l ρ s Q E} hst hρ hQ=>by
  obtain ⟨la,full,vs,i,h1,h2,h3,h4,h5,h6⟩:=hst
  obtain ⟨q1,q2⟩:=js h6
  obtain ⟨u,hu,hr⟩:=h5.get q1
  obtain ⟨o,ho,hc,hd⟩:=id h1
  refine wpAny_pyNext_tuple_item h1 (h3 : s.heap.IsTuple la vs.toArray) (by simpa using hu) fun h' hi hs=>?_
  have st : Still [I] s { s with heap:=h' }:=Still.sameBut s.toks hs (List.mem_singleton.mpr rfl) (by obtain ⟨o,ho,_⟩:=hi;rw [ho];exact fun q=>nomatch q)
  have nv : ∀ a ∈ [I],∀ o,s.heap.get? a = some o → zM o = false:=fun a ha o' e=>by rw [List.mem_singleton.mp ha] at e;exact yF ho (by unfold zM;rw [hd]) e
  have k:=st.k (ρ:=ρ) nv
  have hr' : VR h' ρ v u:=hr.still st nv
  obtain ⟨o2,ho2,hc2,hd2⟩:=id hi
  refine hQ _ u st hr' fun t Q' E' ht hk=>jQ (s:={ s with heap:=h' }) ho2 (by rw [hc2];decide) (hk _ Still.refl hr' ⟨la,full,vs,i + 1,hi,h2,?_,h4,?_,q2⟩)
  ·exact h3.keep k h4
  ·have z:=VRs.keep k _ _ h5
   rwa [List.append_nil] at z
 self:=fun {l ρ s Q E} hst q=>by
  obtain ⟨la,full,vs,i,h1,_⟩:=hst
  exact wpAny_pyIter_tupleiter h1 q
 stop:=fun {ρ s Q E} hst hQ=>by
  obtain ⟨la,full,vs,i,h1,h2,h3,h4,h5,h6⟩:=hst
  have : vs[i]? = none:=by
   rw [List.getElem?_eq_none_iff,h5.length]
   exact List.drop_eq_nil_iff.mp h6
  refine wpAny_pyNext_tuple_end hh h1 (h3 : s.heap.IsTuple la vs.toArray) (by simpa using this) fun h' hs=>hQ _ ⟨fun a o e n=>hs a o (fun q=>n (List.mem_singleton.mpr q)) e,rfl,rfl,rfl⟩
noncomputable def BSt (I : Addr) (rest : List PV) (ρ : List Addr) (h : Heap) : Prop :=
 ∃ (b : List UInt8) (t : Tok) (i : Nat),KBw.IsBytesIter h I b.toArray t i ∧ I ∉ ρ ∧ (b.drop i).map (fun x=>PV.int x.toNat) = rest
theorem zhp (hh : A.handled = none) (I : Addr) : Iter prog w A xk (.ref I) [I] [] (BSt I) where
 ext:=fun {l ρ X δ s s'} hst e hX=>by
  obtain ⟨b,t,i,⟨o,ho,hc,hd⟩,h2,h6⟩:=hst
  have g:=e.obj ho h2 (hX I (List.mem_singleton.mpr rfl))
  exact ⟨b,t,i,⟨o,g.1,hc,hd⟩,g.2,h6⟩
 priv:=fun {l ρ h} hst a ha=>by
  obtain ⟨b,t,i,⟨o,ho,hc,hd⟩,h2,_⟩:=hst
  exact .inr (by
  rw [List.mem_singleton.mp ha]
  exact ⟨h2,fun o' e=>yF ho (by unfold zM;rw [hd]) e⟩)
 next:=fun {v l ρ s Q E} hst hρ hQ=>by
  obtain ⟨b,t,i,h1,h2,h6⟩:=hst
  cases hb : b.drop i with
  | nil=>rw [hb] at h6;cases h6
  | cons c r =>
   rw [hb,List.map_cons] at h6
   obtain ⟨rfl,rfl⟩:=List.cons.inj h6
   obtain ⟨q1,q2⟩:=js hb
   refine KBw.next_item h1 (by simpa using q1) fun h' hi hs=>?_
   obtain ⟨o2,ho2,hc2,hd2⟩:=id hi
   have st : Still [I] s { s with heap:=h',toks:=s.toks + 1 }:=Still.sameBut _ hs (List.mem_singleton.mpr rfl) (by rw [ho2];exact fun q=>nomatch q)
   refine hQ _ _ st ⟨_,rfl⟩ fun t' Q' E' ht hk=>jQ (s:={ s with heap:=h',toks:=s.toks + 1 }) ho2 (by rw [hc2];decide) (hk _ Still.refl ⟨_,rfl⟩ ⟨b,t,i + 1,hi,h2,by rw [q2]⟩)
 self:=fun {l ρ s Q E} hst q=>by
  obtain ⟨b,t,i,h1,_⟩:=hst
  exact KBw.pyIter_self h1 q
 stop:=fun {ρ s Q E} hst hQ=>by
  obtain ⟨b,t,i,h1,h2,h6⟩:=hst
  have hb : b.drop i = []:=List.map_eq_nil_iff.mp h6
  have : b[i]? = none:=List.getElem?_eq_none_iff.mpr (List.drop_eq_nil_iff.mp hb)
  refine KBw.next_end hh h1 (by simpa using this) fun h' hs=>hQ _ ⟨fun a o e n=>hs a o (fun q=>n (List.mem_singleton.mpr q)) e,rfl,rfl,rfl⟩
noncomputable def RSt (I : Addr) (rest : List PV) (ρ : List Addr) (h : Heap) : Prop :=
 ∃ (x left step : Int),IsRangeIter h I x left step ∧ I ∉ ρ ∧ z7 left.toNat (fun i=>x + step * i) = rest
theorem zho (hh : A.handled = none) (I : Addr) : Iter prog w A xk (.ref I) [I] [] (RSt I) where
 ext:=fun {l ρ X δ s s'} hst e hX=>by
  obtain ⟨x,left,step,h1,h2,h6⟩:=hst
  have g:=e.obj h1 h2 (hX I (List.mem_singleton.mpr rfl))
  exact ⟨x,left,step,g.1,g.2,h6⟩
 priv:=fun {l ρ h} hst a ha=>by
  obtain ⟨x,left,step,h1,h2,_⟩:=hst
  exact .inr (by
  rw [List.mem_singleton.mp ha]
  exact ⟨h2,fun o' e=>yF h1 rfl e⟩)
 next:=fun {v l ρ s Q E} hst hρ hQ=>by
  obtain ⟨x,left,step,h1,h2,h6⟩:=hst
  cases hn : left.toNat with
  | zero=>rw [hn] at h6;cases h6
  | succ m =>
   replace h6:=hn ▸ h6
   unfold z7 at h6
   rw [List.range_succ_eq_map,List.map_cons,List.map_map] at h6
   obtain ⟨rfl,rfl⟩:=List.cons.inj h6
   refine wpAny_pyNext_range_item h1 (by lia) fun h' hi hs=>?_
   have st : Still [I] s { s with heap:=h',toks:=s.toks + 1 }:=Still.sameBut _ hs (List.mem_singleton.mpr rfl) (by rw [hi];exact fun q=>nomatch q)
   have hv : ∀ h'',VR h'' ρ (PV.int ((fun i : Nat=>x + step * (i : Int)) 0)) (.int x s.toks):=fun h''=>⟨s.toks,by show Value.int x s.toks = Value.int (x + step * ((0 : Nat) : Int)) s.toks;simp⟩
   refine hQ _ _ st (hv _) fun t' Q' E' ht hk=>jQ (s:={ s with heap:=h',toks:=s.toks + 1 }) hi (show zno (.type "range_iterator") = true by decide) (hk _ Still.refl (hv _) ⟨x + step,left - 1,step,hi,h2,?_⟩)
   have : (left - 1).toNat = m:=by lia
   rw [this]
   unfold z7
   refine List.map_congr_left fun i uu=>?_
   show PV.int _ = PV.int _
   congr 1
   show x + step + step * (i : Int) = x + step * ((i + 1 : Nat) : Int)
   rw [Int.natCast_add,Int.mul_add]
   simp only [Int.natCast_one,Int.mul_one]
   lia
 self:=fun {l ρ s Q E} hst q=>by
  obtain ⟨x,left,step,h1,_⟩:=hst
  exact wpAny_pyIter_rangeiter h1 q
 stop:=fun {ρ s Q E} hst hQ=>by
  obtain ⟨x,left,step,h1,h2,h6⟩:=hst
  have : left.toNat = 0:=by
   have:=congrArg List.length h6
   simpa [z7] using this
  refine wpAny_pyNext_range_end hh h1 (by lia) fun h' hs=>hQ _ ⟨fun a o e n=>hs a o (fun q=>n (List.mem_singleton.mpr q)) e,rfl,rfl,rfl⟩
end
end Mine
namespace Mine
open PySem PySem.W PyProof.Rows PySem.Spec
section
variable {prog : Program} {A : Around} {w : World} {B : Heap} {ρ : List Addr} {H H' : Hp} {s s' : Shared} {E : Value → Shared → Prop} {P : Prg}
structure EV where
 l : Addr
 full : List PV
 vs : List Value
 i : Nat
 old : Value
structure ES (I it : Addr) (rest : List PV) (ρ : List Addr) (h : Heap) (v : EV) : Prop where
 e : IsEnum h I it ((v.i : Nat) : Int) v.old
 li : h.IsListIter it v.l v.i
 nI : I ∉ ρ
 nit : it ∉ ρ
 s : SeqAt h v.l "list" v.vs.toArray
 nl : v.l ∉ ρ
 r : VRs h ρ v.full v.vs
 hr : jF v.i (v.full.drop v.i) = rest
noncomputable def ESt (I it : Addr) (rest : List PV) (ρ : List Addr) (h : Heap) : Prop:=∃ v,ES I it rest ρ h v
theorem zhn {h : Heap} {it l : Addr} {k : Nat} (h1 : h.IsListIter it l k) : ∀ o,h.get? it = some o → zM o = false:=fun o' e=>by
 obtain ⟨o,ho,hc,hd⟩:=h1
 exact yF ho (by unfold zM;rw [hd]) e
theorem zcr {h : Heap} {I it l : Addr} {k : Nat} (h0 : ∀ o,h.get? I = some o → zM o = false) (h1 : h.IsListIter it l k) : ∀ a ∈ [I,it],∀ o,h.get? a = some o → zM o = false:=fun a ha o' e=>by
 rcases List.mem_cons.mp ha with rfl | ha
 ·exact h0 o' e
 ·exact zhn h1 o' (List.mem_singleton.mp ha ▸ e)
theorem Keep.vrs0 {h h' : Heap} (k : Keep ρ [] h h') {x : List PV} {v : List Value} (r : VRs h ρ x v) : VRs h' ρ x v:=by
 have y:=VRs.keep k x v r
 rwa [List.append_nil] at y
theorem Keep.vr0 {h h' : Heap} (k : Keep ρ [] h h') {x : PV} {v : Value} (r : VR h ρ x v) : VR h' ρ x v:=by
 have y:=VR.keep k x v r
 rwa [List.append_nil] at y
theorem zch {h : Heap} {it l : Addr} {k : Nat} (h1 : h.IsListIter it l k) : h.get? it ≠ none:=by
 obtain ⟨o,ho,_⟩:=h1
 rw [ho];exact fun q=>nomatch q
theorem ES.ext {I it : Addr} {l : List PV} {v : EV} {X δ : List Addr} (S : ES I it l ρ s.heap v) (e : Ext ρ X s s' δ) (hX : ∀ a ∈ [I,it],a ∉ X) : ES I it l (ρ ++ δ) s'.heap v:=by
 obtain ⟨o,ho,hc,hd⟩:=S.li
 have g:=e.obj ho S.nit (hX it (.tail _ (.head _)))
 have g':=e.obj S.e S.nI (hX I (.head _))
 exact ⟨g'.1,⟨o,g.1,hc,hd⟩,g'.2,g.2,S.s.keep e.k S.nl,e.k.not S.s.choose_spec.1 S.nl,e.vrs S.r,S.hr⟩
theorem zh1 {h' : Heap} {I it l : Addr} {k : Nat} (g1 : h'.get? I ≠ none) (g2 : h'.IsListIter it l k) (g5 : ∀ a o,a ≠ I → a ≠ it → s.heap.get? a = some o → h'.get? a = some o) : Still [I,it] s { s with heap:=h',toks:=s.toks + 1 } :=
 ⟨fun a o e n=>g5 a o (fun q=>n (q ▸ .head _)) (fun q=>n (q ▸ .tail _ (.head _))) e,fun a e=>by
  by_cases q : a = I
  ·exact absurd (q ▸ e) g1
  ·by_cases q' : a = it
   ·exact absurd (q' ▸ e) (zch g2)
   ·cases z : s.heap.get? a with
    | none=>rfl
    | some o=>exact absurd ((g5 a o q q' z).symm.trans e) (fun q=>nomatch q),rfl,rfl,rfl⟩
theorem zjh {h : Heap} {c d : PV} {u w : Value} {x : Addr} (hn : x ∉ ρ) (ht : SeqAt h x "tuple" #[u,w]) (h1 : VR h ρ c u) (h2 : VR h ρ d w) : VR h ρ (.tup [c,d]) (.ref x) :=
 ⟨_,[_,_],rfl,hn,ht,⟨_,_,rfl,h1,⟨_,_,rfl,h2,rfl⟩⟩⟩
theorem zle (hh : A.handled = none) (I it : Addr) (hne : I ≠ it) : Iter prog w A zom (.ref I) [I,it] [] (ESt I it) where
 ext:=fun {l ρ X δ s s'} hst e hX=>by
  obtain ⟨v,S⟩:=hst
  exact ⟨v,S.ext e hX⟩
 priv:=fun {l ρ h} hst a ha=>by
  obtain ⟨v,S⟩:=hst
  refine .inr ⟨?_,zcr (fun o e=>yF S.e rfl e) S.li a ha⟩
  rcases List.mem_cons.mp ha with rfl | ha
  ·exact S.nI
  ·exact List.mem_singleton.mp ha ▸ S.nit
 next:=fun {v l ρ s Q E} hst hρ hQ=>by
  obtain ⟨ev,S⟩:=hst
  have h6:=S.hr
  cases hb : ev.full.drop ev.i with
  | nil=>rw [hb] at h6;cases h6
  | cons c r =>
   rw [hb] at h6
   obtain ⟨rfl,rfl⟩:=List.cons.inj h6
   obtain ⟨q1,q2⟩:=js hb
   obtain ⟨u,hu,hr⟩:=S.r.get q1
   refine wpAny_pyNext_enum_item S.e S.li (S.s : s.heap.IsList ev.l ev.vs.toArray) (by simpa using hu) hne fun h' g1 g2 g3 g4 g5=>?_
   have st:=zh1 (s:=s) (by rw [show h'.get? I = _ from g1];exact fun q=>nomatch q) g2 g5
   have k:=st.k (ρ:=ρ) (zcr (fun o e=>yF S.e rfl e) S.li)
   have ht' : VR h' ρ (.tup [.int ev.i,c]) (.ref s.heap.objs.size):=zjh (hρ _ (zU _)) ⟨_,g3,rfl,_,rfl⟩ ⟨_,rfl⟩ (k.vr0 hr)
   refine hQ _ _ st ht' fun t Q' E' ht hk=>?_
   cases t <;> first | cases ht | skip
   refine wpAny_letOwnedTupleGo_enum (s:={ s with heap:=h',toks:=s.toks + 1 }) g1 fun h'' f1 f2=>?_
   have st2 : Still [I,it] { s with heap:=h',toks:=s.toks + 1 } { s with heap:=h'',toks:=s.toks + 1 }:=Still.sameBut _ f2 (.head _) (by rw [f1];exact fun q=>nomatch q)
   have nv2:=zcr (fun o e=>yF g1 rfl e) g2
   have k2:=st2.k (ρ:=ρ) nv2
   obtain ⟨oi,hoi,hci,hdi⟩:=g2
   refine hk _ st2 (VR.still (s:={ s with heap:=h',toks:=s.toks + 1 }) ht' st2 nv2) ⟨⟨ev.l,ev.full,ev.vs,ev.i + 1,u⟩,?_,⟨oi,(f2.2 it (Ne.symm hne)).trans hoi,hci,hdi⟩,S.nI,S.nit,(S.s.keep k S.nl).keep k2 S.nl,S.nl,k2.vrs0 (k.vrs0 S.r),congrArg (jF _) q2⟩
   have : ((ev.i + 1 : Nat) : Int) = (ev.i : Int) + 1:=by push_cast;rfl
   exact this ▸ f1
 self:=fun {l ρ s Q E} hst q=>by
  obtain ⟨v,S⟩:=hst
  exact wpAny_pyIter_enum S.e q
 stop:=fun {ρ s Q E} hst hQ=>by
  obtain ⟨v,S⟩:=hst
  have h6:=S.hr
  have h6' : v.full.drop v.i = []:=by
   cases hb : v.full.drop v.i with
   | nil=>rfl
   | cons c r=>rw [hb] at h6;cases h6
  have : v.vs[v.i]? = none:=by
   rw [List.getElem?_eq_none_iff,S.r.length]
   exact List.drop_eq_nil_iff.mp h6'
  refine wpAny_pyNext_enum_end hh S.e S.li (S.s : s.heap.IsList v.l v.vs.toArray) (by simpa using this) fun h' hs=>hQ _ ⟨fun a o e n=>hs a o (fun q=>n (q ▸ .tail _ (.head _))) e,rfl,rfl,rfl⟩
structure ZP where
 z : Addr
 TI : Addr
 TO : Addr
 i1 : Addr
 i2 : Addr
 l1 : Addr
 l2 : Addr
structure ZV where
 f1 : List PV
 v1 : List Value
 f2 : List PV
 v2 : List Value
 k1 : Nat
 k2 : Nat
 a : Value
 b : Value
structure ZS (p : ZP) (rest : List PV) (ρ : List Addr) (h : Heap) (v : ZV) : Prop where
 hz : IsZip h p.z p.TI p.TO .none
 hTI : IsPair h p.TI (.ref p.i1) (.ref p.i2)
 hTO : IsPair h p.TO v.a v.b
 h1 : h.IsListIter p.i1 p.l1 v.k1
 h2 : h.IsListIter p.i2 p.l2 v.k2
 n1 : p.z ∉ ρ
 n2 : p.i1 ∉ ρ
 n3 : p.i2 ∉ ρ
 n4 : p.TI ∉ ρ
 n5 : Free ρ p.TO ∧ p.TO ∈ ρ
 s1 : SeqAt h p.l1 "list" v.v1.toArray
 s2 : SeqAt h p.l2 "list" v.v2.toArray
 n6 : p.l1 ∉ ρ
 n7 : p.l2 ∉ ρ
 r1 : VRs h ρ v.f1 v.v1
 r2 : VRs h ρ v.f2 v.v2
 hr : zbn (v.f1.drop v.k1) (v.f2.drop v.k2) = rest
noncomputable def ZSt (p : ZP) (rest : List PV) (ρ : List Addr) (h : Heap) : Prop:=∃ v,ZS p rest ρ h v
theorem Free.ext {X δ : List Addr} {a : Addr} {o : Obj} (f : Free ρ a) (e : Ext ρ X s s' δ) (g : s.heap.get? a = some o) : Free (ρ ++ δ) a:=f.append fun m=>by rw [e.new a m] at g;cases g
theorem zmd : ∀ (l : List PV),zbn l [] = []
 | []=>rfl
 | _ :: _=>rfl
theorem mem4 {P : Addr → Prop} {a b c d : Addr} (h1 : P a) (h2 : P b) (h3 : P c) (h4 : P d) : ∀ x ∈ [a,b,c,d],P x:=fun x hx=>by
 rcases List.mem_cons.mp hx with rfl | hx
 ·exact h1
 rcases List.mem_cons.mp hx with rfl | hx
 ·exact h2
 rcases List.mem_cons.mp hx with rfl | hx
 ·exact h3
 exact List.mem_singleton.mp hx ▸ h4
theorem zep {a b c d x : Addr} (n : x ∉ [a,b,c,d]) : x ≠ a ∧ x ≠ b ∧ x ≠ c ∧ x ≠ d :=
 ⟨fun e=>n (e ▸ .head _),fun e=>n (e ▸ .tail _ (.head _)),fun e=>n (e ▸ .tail _ (.tail _ (.head _))),fun e=>n (e ▸ .tail _ (.tail _ (.tail _ (.head _))))⟩
theorem zog {it l : Addr} {k : Nat} {X δ : List Addr} (h : s.heap.IsListIter it l k) (e : Ext ρ X s s' δ) (n : it ∉ ρ) (hX : it ∉ X) : s'.heap.IsListIter it l k ∧ it ∉ ρ ++ δ:=by
 obtain ⟨o,ho,hc,hd⟩:=h
 have g:=e.obj ho n hX
 exact ⟨⟨o,g.1,hc,hd⟩,g.2⟩
theorem ZS.ext {p : ZP} {l : List PV} {v : ZV} {X δ : List Addr} (S : ZS p l ρ s.heap v) (e : Ext ρ X s s' δ) (hX : ∀ a ∈ [p.z,p.TO,p.i1,p.i2],a ∉ X) : ZS p l (ρ ++ δ) s'.heap v:=by
 have gz:=e.obj S.hz S.n1 (hX _ (.head _))
 have g1:=zog S.h1 e S.n2 (hX _ (.tail _ (.tail _ (.head _))))
 have g2:=zog S.h2 e S.n3 (hX _ (.tail _ (.tail _ (.tail _ (.head _)))))
 exact ⟨gz.1,e.vals _ _ S.hTI S.n4 rfl,e.keep _ _ S.hTO S.n5.1 (hX _ (.tail _ (.head _))),g1.1,g2.1,gz.2,g1.2,g2.2,e.k.not S.hTI S.n4,⟨S.n5.1.ext e S.hTO,List.mem_append_left _ S.n5.2⟩,
   S.s1.keep e.k S.n6,S.s2.keep e.k S.n7,e.k.not S.s1.choose_spec.1 S.n6,e.k.not S.s2.choose_spec.1 S.n7,e.vrs S.r1,e.vrs S.r2,S.hr⟩
theorem ZS.priv {p : ZP} {l : List PV} {v : ZV} {h : Heap} (S : ZS p l ρ h v) : ∀ x ∈ [p.z,p.TO,p.i1,p.i2],x ∈ [p.TO] ∨ x ∉ ρ ∧ ∀ o,h.get? x = some o → zM o = false :=
 mem4 (.inr ⟨S.n1,fun o' e=>yF S.hz rfl e⟩) (.inl (.head _)) (.inr ⟨S.n2,zhn S.h1⟩) (.inr ⟨S.n3,zhn S.h2⟩)
theorem ZS.step {p : ZP} {l : List PV} {v : ZV} {h' : Heap} (S : ZS p l ρ s.heap v) (n : ∀ x ∈ [p.z,p.TO,p.i1,p.i2],h'.get? x ≠ none) (g7 : ∀ x o,x ≠ p.z → x ≠ p.TO → x ≠ p.i1 → x ≠ p.i2 → s.heap.get? x = some o → h'.get? x = some o) :
  Still [p.z,p.TO,p.i1,p.i2] s { s with heap:=h' } ∧ Keep ρ [] s.heap h':=by
 have kp : ∀ x o,s.heap.get? x = some o → x ∉ [p.z,p.TO,p.i1,p.i2] → h'.get? x = some o:=fun x o e m=>g7 x o (zep m).1 (zep m).2.1 (zep m).2.2.1 (zep m).2.2.2 e
 have gone : ∀ x,h'.get? x = none → s.heap.get? x = none:=fun x e=>by
  by_cases q : x ∈ [p.z,p.TO,p.i1,p.i2]
  ·exact absurd e (n x q)
  ·cases y : s.heap.get? x with
   | none=>rfl
   | some o=>exact absurd ((kp x o y q).symm.trans e) (fun q=>nomatch q)
 refine ⟨⟨kp,gone,rfl,rfl,rfl⟩,fun x o e m y=>?_,fun uu h=>(nomatch h),gone⟩
 by_cases q : x ∈ [p.z,p.TO,p.i1,p.i2]
 ·rcases S.priv x q with t | t
  ·exact absurd (List.mem_singleton.mp t ▸ S.n5.2) m
  ·exact absurd y (by rw [t.2 o e];exact Bool.false_ne_true)
 ·exact kp x o e q
theorem zoj (hh : A.handled = none) {p : ZP} (D : ZipApart p.z p.TI p.TO p.i1 p.i2 p.l1 p.l2) : Iter prog w A zom (.ref p.z) [p.z,p.TO,p.i1,p.i2] [p.TO] (ZSt p) where
 ext:=fun {l ρ X δ s s'} hst e hX=>by
  obtain ⟨v,S⟩:=hst
  exact ⟨v,S.ext e hX⟩
 priv:=fun {l ρ h} hst x hx=>by
  obtain ⟨v,S⟩:=hst
  exact S.priv x hx
 next:=fun {v l ρ s Q E} hst hρ hQ=>by
  obtain ⟨zv,S⟩:=hst
  have hr:=S.hr
  cases hb : zv.f1.drop zv.k1 with
  | nil=>rw [hb] at hr;cases hr
  | cons c1 t1 =>
   cases hb2 : zv.f2.drop zv.k2 with
   | nil=>rw [hb2,zmd] at hr;cases hr
   | cons c2 t2 =>
    rw [hb,hb2] at hr
    obtain ⟨rfl,rfl⟩:=List.cons.inj hr
    obtain ⟨q1,q2⟩:=js hb
    obtain ⟨p1,p2⟩:=js hb2
    obtain ⟨u1,hu1,hr1⟩:=S.r1.get q1
    obtain ⟨u2,hu2,hr2⟩:=S.r2.get p1
    refine wpAny_pyNext_zip_item D S.hz S.hTI S.hTO S.h1 S.h2 (S.s1 : s.heap.IsList p.l1 zv.v1.toArray) (S.s2 : s.heap.IsList p.l2 zv.v2.toArray) (by simpa using hu1) (by simpa using hu2) fun h' g1 g2 g3 g4 g5 g6 g7=>?_
    obtain ⟨st,k⟩:=S.step (h':=h') (mem4 (by rw [g1];exact fun q=>nomatch q) (by rw [g2];exact fun q=>nomatch q) (zch g3) (zch g4)) g7
    have hTI':=k.vals _ _ S.hTI S.n4 rfl
    have ht' : VR h' ρ (.tup [c1,c2]) (.ref s.heap.objs.size):=zjh (hρ _ (zU _)) ⟨_,g5,rfl,_,rfl⟩ (k.vr0 hr1) (k.vr0 hr2)
    refine hQ _ _ st ht' fun t Q' E' ht hk=>?_
    cases t <;> first | cases ht | skip
    refine wpAny_letOwnedTupleGo_zip (s:={ s with heap:=h' }) g1 fun h'' y1 y2=>?_
    have st2 : Still [p.z,p.TO,p.i1,p.i2] { s with heap:=h' } { s with heap:=h'' }:=Still.sameBut _ y2 (.head _) (by rw [y1];exact fun q=>nomatch q)
    have k2 : Keep ρ [] h' h'':=⟨fun x o e n y=>(y2.2 x fun q=>by subst q;rw [yF g1 rfl e] at y;cases y).trans e,fun uu h=>(nomatch h),st2.gone⟩
    obtain ⟨o1',ho1',hc1',hd1'⟩:=g3
    obtain ⟨o2',ho2',hc2',hd2'⟩:=g4
    exact hk _ st2 (k2.vr0 ht') ⟨⟨zv.f1,zv.v1,zv.f2,zv.v2,zv.k1 + 1,zv.k2 + 1,u1,u2⟩,y1,k2.vals _ _ hTI' S.n4 rfl,(y2.2 p.TO D.TOz).trans g2,⟨o1',(y2.2 p.i1 D.i1z).trans ho1',hc1',hd1'⟩,⟨o2',(y2.2 p.i2 D.i2z).trans ho2',hc2',hd2'⟩,S.n1,S.n2,S.n3,S.n4,S.n5,
     (S.s1.keep k S.n6).keep k2 S.n6,(S.s2.keep k S.n7).keep k2 S.n7,S.n6,S.n7,k2.vrs0 (k.vrs0 S.r1),k2.vrs0 (k.vrs0 S.r2),by rw [q2,p2]⟩
 self:=fun {l ρ s Q E} hst q=>by
  obtain ⟨v,S⟩:=hst
  exact wpAny_pyIter_zip S.hz q
 stop:=fun {ρ s Q E} hst hQ=>by
  obtain ⟨v,S⟩:=hst
  have hr:=S.hr
  have hend : v.v1.toArray[v.k1]? = none ∨ v.v2.toArray[v.k2]? = none:=by
   cases hb : v.f1.drop v.k1 with
   | nil =>
    refine .inl (List.getElem?_toArray.trans ?_)
    rw [List.getElem?_eq_none_iff,S.r1.length]
    exact List.drop_eq_nil_iff.mp hb
   | cons c1 t1 =>
    cases hb2 : v.f2.drop v.k2 with
    | nil =>
     refine .inr (List.getElem?_toArray.trans ?_)
     rw [List.getElem?_eq_none_iff,S.r2.length]
     exact List.drop_eq_nil_iff.mp hb2
    | cons c2 t2=>rw [hb,hb2] at hr;cases hr
  exact wpAny_pyNext_zip_end hh D S.hz S.hTI S.hTO S.h1 S.h2 (S.s1 : s.heap.IsList p.l1 v.v1.toArray) (S.s2 : s.heap.IsList p.l2 v.v2.toArray) hend fun h' hs=>hQ _ ⟨fun x o e n=>hs x o (zep n).1 (zep n).2.1 (zep n).2.2.1 (zep n).2.2.2 e,rfl,rfl,rfl⟩
end
end Mine
namespace Mine
open PySem PySem.W PyProof.Rows PySem.Spec
noncomputable def kindE (k : NameKind) (x : Nat) (cd : Bool) : Option ME:=match k with
 | .local=>some (.loc x)
 | .cell=>some (.loc x)
 | .free=>gr (!cd)<|some (.loc x)
 | .globalImplicit=>some (.glob x)
 | _=>none
noncomputable def cN (sc : Scope) (id : Str) : Option ME:=gr (!(id == ("__debug__" : Str)))<|bn (nid id) fun x=>bn (sc.names.lookup id) fun k=>kindE k x (id == ("__classdict__" : Str))
noncomputable def cC : Const → Option ME
 | .none=>some .cnone
 | .bool b=>some (.cbool b)
 | .int i=>some (.cint i)
 | .str s=>bn (nid s) fun n=>some (.cstr n)
 | .bytes b=>gr (decide (b.length ≤ 1000))<|some (.cbytes b)
 | _=>none
noncomputable def zO (e : PySem.Expr) : Bool:=!(Nat.ble 1 (xz e) && Nat.ble (xz e) 3)
noncomputable def wj : PySem.Expr → Option (Str × Pos)
 | .Name id p=>some (id,p)
 | _=>none
noncomputable def ztl : PySem.Expr → Option (PySem.Expr × Str × Pos)
 | .Attribute o n p=>some (o,n,p)
 | _=>none
noncomputable def zgs : PySem.Expr → Option (Option PySem.Expr × Option PySem.Expr × Option PySem.Expr × Pos)
 | .Slice a b c p=>some (a,b,c,p)
 | _=>none
noncomputable def xh {α : Type} : List α → Bool
 | []=>true
 | _ :: _=>false
theorem jS {α : Type} {l : List α} (h : xh l = true) : l = []:=by cases l <;> first | rfl | exact absurd h Bool.false_ne_true | cases h
noncomputable def zj7 : PySem.Expr → Option (PySem.Expr × List PySem.Expr × Pos)
 | .Call f args kw p=>gr (xh kw)<|some (f,args,p)
 | _=>none
theorem jq {e : PySem.Expr} {p : Str × Pos} (h : wj e = some p) : e = .Name p.1 p.2:=by cases e <;> first | exact Option.some.inj h ▸ rfl | exact zd h
theorem zl8 {e : PySem.Expr} {p : PySem.Expr × Str × Pos} (h : ztl e = some p) : e = .Attribute p.1 p.2.1 p.2.2:=by cases e <;> first | exact Option.some.inj h ▸ rfl | exact zd h
theorem wR {e : PySem.Expr} {p : Option PySem.Expr × Option PySem.Expr × Option PySem.Expr × Pos} (h : zgs e = some p) : e = .Slice p.1 p.2.1 p.2.2.1 p.2.2.2:=by cases e <;> first | exact Option.some.inj h ▸ rfl | exact zd h
theorem zlu {e : PySem.Expr} {p : PySem.Expr × List PySem.Expr × Pos} (h : zj7 e = some p) : e = .Call p.1 p.2.1 [] p.2.2:=by cases e <;> first | exact yp h fun g h=>jS g ▸ Option.some.inj h ▸ rfl | exact zd h
noncomputable def jb : PySem.Expr → Bool
 | .Call f args kw _=>!(xh args && xh kw && (wj f).isSome)
 | _=>true
noncomputable def qo (s outer : Scope) : Scope:={ s with names:=s.names.map fun (n,k)=>if k == .free && outer.kind == .function && outer.names.lookup n == some .cell then (n,.cell) else (n,k) }
noncomputable def yK (loc : Bool) (sc : Scope) (id : Str) : Option Nat:=match sc.names.lookup id with
 | some .local=>nid id
 | some .cell=>match loc with
  | true=>none
  | false=>nid id
 | _=>none
noncomputable def xE (loc : Bool) (sc : Scope) (t : PySem.Expr) : Option (List Nat):=match t with
 | .Name id _=>bn (yK loc sc id) fun x=>some [x]
 | .Tuple l _ _=>bn (w8 l) fun p=>bn (wj p.1) fun a=>bn (wj p.2) fun b=>bn (yK loc sc a.1) fun x=>bn (yK loc sc b.1) fun y=>some [x,y]
 | _=>none
noncomputable def zta (id : Str) : Nat:=if id == ("range" : Str) then 1 else if id == ("enumerate" : Str) then 2 else if id == ("zip" : Str) then 3 else 0
noncomputable def zL (e : PySem.Expr) : Nat:=kv (zj7 e) (fun q=>kv (wj q.1) (fun n=>zta n.1) 0) 0
noncomputable def ju (sc outer : Scope) (t : List Nat) : Bool:=sc.names.all fun x=>match x.2 with
 | .local=>match nid x.1 with
  | some i=>t.contains i && sc.names.lookup x.1 == some .local
  | none=>sc.names.lookup x.1 == some .local
 | .free=>outer.names.lookup x.1 == some .cell || outer.names.lookup x.1 == some .free
 | .globalImplicit=>true
 | _=>false
noncomputable def kL (k : Nat) (t : List Nat) : Bool:=match k with
 | 0=>true
 | 1=>true
 | _=>match t with
  | [_,_]=>true
  | _=>false
noncomputable def zce : List Nat → Bool
 | []=>true
 | x :: r=>!(r.contains x) && zce r
noncomputable def zhi : ME → Nat
 | .not _=>1
 | .bool _ _=>2
 | .ite _ _ _=>3
 | .cmp _ _ _=>4
 | .cmp2 _ _ _ _ _=>4
 | _=>0
noncomputable def ztp : UnaryOp → Nat
 | .Not=>1
 | _=>0
noncomputable def zcp : PySem.Expr → Nat
 | .UnaryOp op _ _=>ztp op
 | .BoolOp _ _ _=>2
 | .IfExp _ _ _ _=>3
 | .Compare _ _ _ _=>4
 | _=>0
noncomputable def cL (f : PySem.Expr → Option ME) : List PySem.Expr → Option (List ME)
 | []=>some []
 | e :: r=>gr (zO e)<|bn (f e) fun a=>bn (cL f r) fun b=>some (a :: b)
noncomputable def cUn (op : UnaryOp) (a : ME) : Option ME:=match op with
 | .Not=>some (.not a)
 | .USub=>some (.neg a)
 | _=>none
noncomputable def zti (ops : List CmpOp) (a : ME) (l : List ME) : Option ME:=match ops with
 | []=>none
 | o1 :: os=>match os with
  | []=>bn (one l) fun b=>some (.cmp o1 a b)
  | _ :: _=>bn (one os) fun o2=>bn (w8 l) fun p=>some (.cmp2 o1 o2 a p.1 p.2)
noncomputable def oE (f : PySem.Expr → Option ME) (o : Option PySem.Expr) : Option ME:=kv o f (some .cnone)
noncomputable def keyP (o : Option PySem.Expr) : Option (Str × Nat × Pos):=bn o fun e=>match e with
 | .Constant c k p=>match c with
  | .str s=>some (s,k,p)
  | _=>none
 | _=>none
noncomputable def cKs : List (Option PySem.Expr) → Option (List Nat)
 | []=>some []
 | o :: r=>bn (keyP o) fun q=>bn (nid q.1) fun n=>bn (cKs r) fun l=>some (n :: l)
noncomputable def itE (f : PySem.Expr → Option ME) (e : PySem.Expr) : Option (List ME):=cond (Nat.beq (zL e) 0) (bn (f e) fun a=>some [a]) <|
 bn (zj7 e) fun q=>gr (decide (q.2.1.length < 20))<|bn (f q.1) fun a=>bn (cL f q.2.1) fun l=>some (a :: l)
noncomputable def zmq (F : Scope → PySem.Expr → Option ME) (sc : Scope) (e : PySem.Expr) : Option ME:=match e with
 | .Constant c _ _=>cC c
 | .Name id _=>cN sc id
 | .BinOp l op r _=>bn (F sc l) fun a=>bn (F sc r) fun b=>some (.bin op a b)
 | .UnaryOp op x _=>bn (F sc x) fun a=>cUn op a
 | .BoolOp op vs _=>bn (cL (F sc) vs) fun l=>some (.bool (op == .And) l)
 | .IfExp c a b _=>bn (F sc c) fun x=>bn (F sc a) fun y=>bn (F sc b) fun z=>some (.ite x y z)
 | .Compare l ops rs _=>bn (F sc l) fun a=>bn (cL (F sc) rs) fun bs=>zti ops a bs
 | .Call f args kw pos=>gr (xh kw && decide (args.length < 20))<|bn (cL (F sc) args) fun l=>kv (ztl f)
   (fun q=>gr (jb q.1 && (q.2.2.endLine == pos.line))<|bn (F sc q.1) fun a=>bn (nid q.2.1) fun n=>some (.meth a n l))
   (bn (F sc f) fun a=>some (.call a l))
 | .Attribute o name _=>gr (jb o)<|bn (F sc o) fun a=>bn (nid name) fun n=>some (.attr a n)
 | .Subscript o s _=>bn (F sc o) fun a=>kv (zgs s)
   (fun q=>bn (oE (F sc) q.1) fun b=>bn (oE (F sc) q.2.1) fun c=>bn (oE (F sc) q.2.2.1) fun d=>some (.slice a b c d))
   (gr (zO s)<|bn (F sc s) fun b=>some (.sub a b))
 | .Tuple l _ _=>gr (decide (l.length ≤ 1000))<|bn (cL (F sc) l) fun a=>some (.tup a)
 | .List l _=>gr (decide (l.length ≤ 1000))<|bn (cL (F sc) l) fun a=>some (.lst a)
 | .Dict ks vs _=>bn (cKs ks) fun a=>bn (cL (F sc) vs) fun b=>gr (decide (a.length = b.length ∧ a.length ≤ 15) && zce a)<|some (.dict a b)
 | .ListComp elt gs s _=>bn (one gs) fun g=>gr (decide (g.is_async = 0) && (zO g.iter && decide (s.kind = .function) && decide (sc.kind = .function)))<|bn (xE true (qo s sc) g.target) fun t =>
   bn (itE (F sc) g.iter) fun its=>bn (F (qo s sc) elt) fun e1=>bn (cL (F (qo s sc)) g.ifs) fun e2 =>
   gr (ju s sc t && decide (g.ifs.length ≤ 1) && zce t && kL (zL g.iter) t)<|some (.comp e1 t (zL g.iter) its e2)
 | _=>none
noncomputable def cE : Nat → Scope → PySem.Expr → Option ME
 | 0,_,_=>none
 | k + 1,sc,e=>bn (zmq (cE k) sc e) fun m=>gr (Nat.beq (zhi m) (zcp e)) (some m)
noncomputable def cEs (k : Nat) (sc : Scope) (l : List PySem.Expr) : Option (List ME):=cL (cE k sc) l
noncomputable def cO (k : Nat) (sc : Scope) (o : Option PySem.Expr) : Option ME:=oE (cE k sc) o
noncomputable def cIt (k : Nat) (sc : Scope) (e : PySem.Expr) : Option (List ME):=itE (cE k sc) e
theorem vX {k : Nat} {sc : Scope} {e : PySem.Expr} {m : ME} {C : Prop} (h : cE k sc e = some m) (g : ∀ k',k = k' + 1 → zmq (cE k') sc e = some m → C) : C:=match k,h,g with
 | 0,h,_=>nomatch h
 | k + 1,h,g=>zq h fun a e1 h=>yp h fun uu h=>g k rfl (e1.trans h)
theorem zsl {k : Nat} {sc : Scope} {e : PySem.Expr} {m : ME} (h : cE k sc e = some m) : zhi m = zcp e:=match k,h with
 | 0,h=>nomatch h
 | k + 1,h=>zq h fun a e1 h=>yp h fun q h=>Option.some.inj h ▸ Nat.eq_of_beq_eq_true q
theorem jf {k : Nat} {sc : Scope} {e : PySem.Expr} {r : List PySem.Expr} {m : List ME} (h : cEs k sc (e :: r) = some m) : ∃ a b,zO e = true ∧ cE k sc e = some a ∧ cEs k sc r = some b ∧ m = a :: b :=
 yp h fun h1 h=>zq h fun a h2 h=>zq h fun b h3 h=>⟨a,b,h1,h2,h3,(Option.some.inj h).symm⟩
end Mine
namespace Mine
open PySem PySem.W PyProof.Rows PySem.Spec
structure TopK (prog : Program) (w : World) (K : Frag) (B : Heap) (P : Prg) : Prop where
 kin : K.In B
 sys : B.get? sysModules ≠ none
 lim : B.NoLimit
 cat : CatOk P
 cls : ∀ a cd,P.cls a = some cd → ClsK K a cd ∧ keepIn K (.ref a) = true
 fnk : ∀ a fd,P.fn a = some fd → keepIn K (.ref a) = true
 glob : ∀ x v st,P.glob x = some v → nid st = some x → ∃ val,(∀ h ρ,VR h ρ v val) ∧ ∀ s : Shared,(∀ a o,B.get? a = some o → s.heap.get? a = some o) →
  ((∀ (A' : Around) (Q' : Option Value → Shared → Prop) (E' : Value → Shared → Prop),Q' (some val) s → wpAny (model prog w) A' (nsGet mainGlobals st) Q' E' s) ∨
   ((∀ (A' : Around) (Q' : Option Value → Shared → Prop) (E' : Value → Shared → Prop),Q' none s → wpAny (model prog w) A' (nsGet mainGlobals st) Q' E' s) ∧
   ∀ (A' : Around) (Q' : Option Value → Shared → Prop) (E' : Value → Shared → Prop),Q' (some val) s → wpAny (model prog w) A' (nsGet builtinsNs st) Q' E' s))
noncomputable def PostL (prog : Program) (w : World) (B : Heap) (ρ : List Addr) (s : Shared) (H : Hp) (vs : List PV) (Q : List Value → Shared → Prop) : Prop :=
 ∀ s' δ vals,Ext ρ [] s s' δ → Rel prog w B (ρ ++ δ) H s'.heap → VRs s'.heap (ρ ++ δ) vs vals → Q vals s'
noncomputable def PostB (prog : Program) (w : World) (B : Heap) (ρ : List Addr) (s : Shared) (H : Hp) (b : Bool) (Q : Bool → Shared → Prop) : Prop :=
 ∀ s' δ,Ext ρ [] s s' δ → Rel prog w B (ρ ++ δ) H s'.heap → Q b s'
theorem PostL.eq2 {prog : Program} {w : World} {B : Heap} {ρ : List Addr} {s : Shared} {H H' : Hp} {v v' : List PV} {Q : List Value → Shared → Prop} (h : PostL prog w B ρ s H' v' Q) (e : some (v,H) = some (v',H')) : PostL prog w B ρ s H v Q:=by
 obtain ⟨rfl,rfl⟩:=z6 e
 exact h
theorem PostB.eq2 {prog : Program} {w : World} {B : Heap} {ρ : List Addr} {s : Shared} {H H' : Hp} {b b' : Bool} {Q : Bool → Shared → Prop} (h : PostB prog w B ρ s H' b' Q) (e : some (b,H) = some (b',H')) : PostB prog w B ρ s H b Q:=by
 obtain ⟨rfl,rfl⟩:=z6 e
 exact h
noncomputable def PostS (prog : Program) (w : World) (B : Heap) (ρ : List Addr) (env : Env) (s : Shared) (L : Loc) (H : Hp) (Q : Shared → List Addr → Prop) : Prop :=
 ∀ s' δ,Ext ρ (ym env) s s' δ → Rel prog w B (ρ ++ δ) H s'.heap → EnvOk B env (ρ ++ δ) s'.heap → VarsOk env (ρ ++ δ) s'.heap L → Q s' (ρ ++ δ)
section
variable {prog : Program} {A : Around} {w : World} {B : Heap} {ρ δ : List Addr} {H H' : Hp} {s s₁ : Shared} {E : Value → Shared → Prop} {P : Prg} {K : Frag} {env : Env} {L : Loc}
theorem Post.after {v : PV} {Q : Value → Shared → Prop} (h : Post prog w B ρ s H v Q) (x : Ext ρ [] s s₁ δ) : Post prog w B (ρ ++ δ) s₁ H v Q:=fun s' δ' val e R r=>h s' (δ ++ δ') val (x.seq e) (by rw [← List.append_assoc];exact R) (by rw [← List.append_assoc];exact r)
theorem PostL.after {v : List PV} {Q : List Value → Shared → Prop} (h : PostL prog w B ρ s H v Q) (x : Ext ρ [] s s₁ δ) : PostL prog w B (ρ ++ δ) s₁ H v Q:=fun s' δ' val e R r=>h s' (δ ++ δ') val (x.seq e) (by rw [← List.append_assoc];exact R) (by rw [← List.append_assoc];exact r)
theorem PostB.after {b : Bool} {Q : Bool → Shared → Prop} (h : PostB prog w B ρ s H b Q) (x : Ext ρ [] s s₁ δ) : PostB prog w B (ρ ++ δ) s₁ H b Q:=fun s' δ' e R=>h s' (δ ++ δ') (x.seq e) (by rw [← List.append_assoc];exact R)
theorem EnvOk.step (V : EnvOk B env ρ s.heap) (x : Ext ρ [] s s₁ δ) : EnvOk B env (ρ ++ δ) s₁.heap:=V.ext x fun uu uu h=>(nomatch h)
theorem VarsOk.step (W : VarsOk env ρ s.heap L) (V : EnvOk B env ρ s.heap) (x : Ext ρ [] s s₁ δ) : VarsOk env (ρ ++ δ) s₁.heap L:=W.ext V x fun uu uu h=>(nomatch h)
theorem Post.toks {v : PV} {val : Value} {Q : Value → Shared → Prop} (h : Post prog w B ρ s H v Q) (R : Rel prog w B ρ H s.heap) (k : Nat) (r : VR s.heap ρ v val) : Q val { s with toks:=k }:=h.pure R (Still.toks k) r
theorem Post.same {v : PV} {val : Value} {Q : Value → Shared → Prop} (h : Post prog w B ρ s H v Q) (R : Rel prog w B ρ H s.heap) (r : VR s.heap ρ v val) : Q val s:=h.pure R Still.refl r
theorem PostB.same {b : Bool} {Q : Bool → Shared → Prop} (h : PostB prog w B ρ s H b Q) (R : Rel prog w B ρ H s.heap) : Q b s:=h s [] (Ext.refl ..) (by rw [List.append_nil];exact R)
theorem PostL.same {v : List PV} {val : List Value} {Q : List Value → Shared → Prop} (h : PostL prog w B ρ s H v Q) (R : Rel prog w B ρ H s.heap) (r : VRs s.heap ρ v val) : Q val s:=h s [] val (Ext.refl ..) (by rw [List.append_nil];exact R) (by rw [List.append_nil];exact r)
theorem Room.less {n m : Nat} (r : Room A n) (h : m ≤ n) : Room A m:=⟨by have:=r.depth;lia,by have:=r.units;lia,r.handled⟩
end
noncomputable def EOk (prog : Program) (w : World) (B : Heap) (P : Prg) (n : Nat) : Prop :=
 ∀ ⦃A : Around⦄ ⦃ρ : List Addr⦄ ⦃H H' : Hp⦄ ⦃s : Shared⦄ ⦃E : Value → Shared → Prop⦄ ⦃env : Env⦄ ⦃L : Loc⦄ ⦃k : Nat⦄ ⦃e : PySem.Expr⦄ ⦃m : ME⦄ ⦃v : PV⦄ ⦃Q : Value → Shared → Prop⦄,
  cE k env.scope e = some m → evE P n m L H = some (v,H') → Rel prog w B ρ H s.heap → EnvOk B env ρ s.heap → VarsOk env ρ s.heap L → Room A n → Post prog w B ρ s H' v Q → wpN (model prog w) A (eval e env) Q E s
noncomputable def EsOk (prog : Program) (w : World) (B : Heap) (P : Prg) (n : Nat) : Prop :=
 ∀ ⦃A : Around⦄ ⦃ρ : List Addr⦄ ⦃H H' : Hp⦄ ⦃s : Shared⦄ ⦃E : Value → Shared → Prop⦄ ⦃env : Env⦄ ⦃L : Loc⦄ ⦃k : Nat⦄ ⦃l : List PySem.Expr⦄ ⦃m : List ME⦄ ⦃vs : List PV⦄ ⦃pos : Pos⦄ ⦃Q : List Value → Shared → Prop⦄,
  cEs k env.scope l = some m → yO P n m L H = some (vs,H') → Rel prog w B ρ H s.heap → EnvOk B env ρ s.heap → VarsOk env ρ s.heap L → Room A n → PostL prog w B ρ s H' vs Q → wpN (model prog w) A (spliced (backTo pos (starEach l env))) Q E s
noncomputable def AllOk (prog : Program) (w : World) (B : Heap) (P : Prg) (n : Nat) : Prop :=
 ∀ ⦃A : Around⦄ ⦃ρ : List Addr⦄ ⦃H H' : Hp⦄ ⦃s : Shared⦄ ⦃E : Value → Shared → Prop⦄ ⦃env : Env⦄ ⦃L : Loc⦄ ⦃k : Nat⦄ ⦃l : List PySem.Expr⦄ ⦃m : List ME⦄ ⦃v : PV⦄ ⦃op : BoolOp⦄ ⦃pos : Pos⦄ ⦃Q : Value → Shared → Prop⦄,
  cEs k env.scope l = some m → evAll P n (op == .And) m L H = some (v,H') → Rel prog w B ρ H s.heap → EnvOk B env ρ s.heap → VarsOk env ρ s.heap L → Room A n → Post prog w B ρ s H' v Q → wpN (model prog w) A (boolOp pos op (evalEach l env)) Q E s
noncomputable def COk (prog : Program) (w : World) (B : Heap) (P : Prg) (n : Nat) : Prop :=
 ∀ ⦃A : Around⦄ ⦃ρ : List Addr⦄ ⦃H H' : Hp⦄ ⦃s : Shared⦄ ⦃E : Value → Shared → Prop⦄ ⦃env : Env⦄ ⦃L : Loc⦄ ⦃k : Nat⦄ ⦃e : PySem.Expr⦄ ⦃m : ME⦄ ⦃b : Bool⦄ ⦃Q : Bool → Shared → Prop⦄,
  cE k env.scope e = some m → evC P n m L H = some (b,H') → Rel prog w B ρ H s.heap → EnvOk B env ρ s.heap → VarsOk env ρ s.heap L → Room A n → PostB prog w B ρ s H' b Q → wpN (model prog w) A (isTrue e env (eval e env)) Q E s
noncomputable def CsOk (prog : Program) (w : World) (B : Heap) (P : Prg) (n : Nat) : Prop :=
 ∀ ⦃A : Around⦄ ⦃ρ : List Addr⦄ ⦃H H' : Hp⦄ ⦃s : Shared⦄ ⦃E : Value → Shared → Prop⦄ ⦃env : Env⦄ ⦃L : Loc⦄ ⦃k : Nat⦄ ⦃l : List PySem.Expr⦄ ⦃m : List ME⦄ ⦃b : Bool⦄ ⦃op : BoolOp⦄ ⦃Q : Bool → Shared → Prop⦄,
  cEs k env.scope l = some m → zhz P n (op == .And) m L H = some (b,H') → Rel prog w B ρ H s.heap → EnvOk B env ρ s.heap → VarsOk env ρ s.heap L → Room A n → PostB prog w B ρ s H' b Q → wpN (model prog w) A (allTrue op l env) Q E s
noncomputable def CallOk (prog : Program) (w : World) (B : Heap) (P : Prg) (n : Nat) : Prop :=
 ∀ ⦃A : Around⦄ ⦃ρ : List Addr⦄ ⦃H H' : Hp⦄ ⦃s : Shared⦄ ⦃E : Value → Shared → Prop⦄ ⦃f v : PV⦄ ⦃vs : List PV⦄ ⦃fv : Value⦄ ⦃vals : List Value⦄ ⦃Q : Value → Shared → Prop⦄,
  zs P n f vs H = some (v,H') → Rel prog w B ρ H s.heap → VR s.heap ρ f fv → VRs s.heap ρ vs vals → Room A n → Post prog w B ρ s H' v Q → wpN (model prog w) A (call fv vals) Q E s
section
variable {prog : Program} {A : Around} {w : World} {B : Heap} {ρ δ : List Addr} {H H' : Hp} {s s₁ : Shared} {E : Value → Shared → Prop} {P : Prg} {K : Frag} {env : Env} {L : Loc} {n : Nat}
theorem qz {e : PySem.Expr} {r : List PySem.Expr} (h : zO e = true) : starEach (e :: r) env = (false,eval e env) :: starEach r env:=by
 cases e <;> first | rfl | exact absurd h Bool.false_ne_true | cases h
theorem es_ok (T : TopK prog w K B P) (h1 : EOk prog w B P n) (h2 : EsOk prog w B P n) : EsOk prog w B P (n + 1):=by
 intro A ρ H H' s E env L k l m vs pos Q hc he R V W Rm hQ
 cases l with
 | nil =>
  obtain rfl:=Option.some.inj hc
  obtain ⟨rfl,rfl⟩:=z6 he
  exact zg (hQ.same R rfl)
 | cons e r =>
  obtain ⟨a,b,p1,p2,p3,rfl⟩:=jf hc
  revert he;refine zC fun v H1 e1=>zC fun vs' H2 e2 he=>?_
  obtain ⟨rfl,rfl⟩:=z6 he
  rw [qz p1]
  show wpN _ _ (eval e env >>= fun v=>pure [v] >>= fun here=>holding here (spliced (backTo pos (starEach r env))) >>= fun q=>pure (here ++ q)) _ _ _
  refine zb (h1 p2 e1 R V W (Rm.less (Nat.le_succ _)) fun s1 δ1 v1 x1 R1 r1=>?_)
  refine zb (zg ?_)
  refine zb (zp (h2 p3 e2 R1 (V.step x1) (W.step V x1) (Rm.less (Nat.le_succ _)) fun s2 δ2 vals x2 R2 r2=>?_))
  exact zg ((hQ.after x1) s2 δ2 _ x2 R2 (VRs.cons (x2.vr r1) r2))
theorem all_ok (T : TopK prog w K B P) (h1 : EOk prog w B P n) (h2 : AllOk prog w B P n) : AllOk prog w B P (n + 1):=by
 intro A ρ H H' s E env L k l m v op pos Q hc he R V W Rm hQ
 cases l with
 | nil=>obtain rfl:=Option.some.inj hc;exact zd he
 | cons e r =>
  obtain ⟨a,b,p1,p2,p3,rfl⟩:=jf hc
  revert he;refine zka fun b1 H1 e1 he=>?_
  cases r with
  | nil =>
   obtain rfl:=Option.some.inj p3
   obtain ⟨rfl,rfl⟩:=z6 he
   exact h1 p2 e1 R V W (Rm.less (Nat.le_succ _)) hQ
  | cons e' r' =>
   have p3':=p3
   obtain ⟨a',b',q1,q2,q3,rfl⟩:=jf p3
   show wpN _ _ (eval e env >>= _) _ _ _
   refine zb (h1 p2 e1 R V W (Rm.less (Nat.le_succ _)) fun s1 δ1 v1 x1 R1 r1=>?_)
   obtain rfl:=r1
   refine zb (zl ?_)
   refine zm (wpAny_holding (wpAny_truthy_bool ?_))
   revert he;refine jh (fun hb he=>?_) fun hb he=>?_
   ·have : wpN (model prog w) A (boolOp pos op (evalEach (e' :: r') env)) Q E s1:=h2 p3' he R1 (V.step x1) (W.step V x1) (Rm.less (Nat.le_succ _)) (hQ.after x1)
    cases op <;> cases b1 <;> first | exact this | exact absurd hb Bool.false_ne_true | exact absurd hb.symm Bool.false_ne_true | cases hb
   ·obtain ⟨rfl,rfl⟩:=z6 he
    have : wpN (model prog w) A (pure (Value.bool b1)) Q E s1:=zg ((hQ.after x1).same R1 rfl)
    cases op <;> cases b1 <;> first | exact this | exact absurd hb Bool.false_ne_true | exact absurd hb.symm Bool.false_ne_true | cases hb
theorem cs_ok (T : TopK prog w K B P) (h1 : COk prog w B P n) (h2 : CsOk prog w B P n) : CsOk prog w B P (n + 1):=by
 intro A ρ H H' s E env L k l m b op Q hc he R V W Rm hQ
 cases l with
 | nil =>
  obtain rfl:=Option.some.inj hc;obtain ⟨rfl,rfl⟩:=z6 he
  exact zg (hQ.same R)
 | cons e r =>
  obtain ⟨a,b',p1,p2,p3,rfl⟩:=jf hc
  revert he;refine zC fun b1 H1 e1 he=>?_
  show wpN _ _ (isTrue e env (eval e env) >>= _) _ _ _
  refine zb (h1 p2 e1 R V W (Rm.less (Nat.le_succ _)) fun s1 δ1 x1 R1=>?_)
  revert he;refine jh (fun hb he=>?_) fun hb he=>?_
  ·have : wpN (model prog w) A (allTrue op r env) Q E s1:=h2 p3 he R1 (V.step x1) (W.step V x1) (Rm.less (Nat.le_succ _)) (hQ.after x1)
   cases op <;> cases b1 <;> first | exact this | exact absurd hb Bool.false_ne_true | exact absurd hb.symm Bool.false_ne_true | cases hb
  ·obtain ⟨rfl,rfl⟩:=z6 he
   have : wpN (model prog w) A (pure b1) Q E s1:=zg ((hQ.after x1).same R1)
   cases op <;> cases b1 <;> first | exact this | exact absurd hb Bool.false_ne_true | exact absurd hb.symm Bool.false_ne_true | cases hb
end
end Mine
namespace Mine
open PySem PySem.W PyProof.Rows PySem.Spec
section
variable {prog : Program} {A : Around} {w : World} {B : Heap} {ρ δ : List Addr} {H H' : Hp} {s s₁ : Shared} {E : Value → Shared → Prop} {P : Prg} {K : Frag} {env : Env} {L : Loc} {n : Nat} {v : PV} {Q : Value → Shared → Prop} {m : ME}
theorem Post.tk (h : Post prog w B ρ s H v Q) (k : Nat) : Post prog w B ρ { s with toks:=k } H v Q:=by
 have z:=h.after (Still.toks k).ext0
 rwa [List.append_nil] at z
theorem PostB.tk {b : Bool} {Q : Bool → Shared → Prop} (h : PostB prog w B ρ s H b Q) (k : Nat) : PostB prog w B ρ { s with toks:=k } H b Q:=by
 have z:=h.after (Still.toks k).ext0
 rwa [List.append_nil] at z
theorem Room.down (r : Room A (n + 1)) : Room A n:=r.less (Nat.le_succ _)
theorem zpj {c : Const} {k : Nat} {pos : Pos} (hc : cC c = some m) (he : evE P (n + 1) m L H = some (v,H')) (R : Rel prog w B ρ H s.heap) (hQ : Post prog w B ρ s H' v Q) : wpN (model prog w) A (eval (.Constant c k pos) env) Q E s:=by
 show wpN _ _ (constValue env c) _ _ _
 cases c with
 | none=>obtain rfl:=Option.some.inj hc;replace hQ:=hQ.eq2 he;exact zg (hQ.same R rfl)
 | bool b=>obtain rfl:=Option.some.inj hc;replace hQ:=hQ.eq2 he;exact zg (hQ.same R rfl)
 | int i=>obtain rfl:=Option.some.inj hc;replace hQ:=hQ.eq2 he;exact wpN.of (wpAny_mkInt (hQ.toks R _ ⟨_,rfl⟩))
 | str st =>
  revert hc;refine zk fun x hx hc=>?_
  obtain rfl:=Option.some.inj hc;replace hQ:=hQ.eq2 he
  exact wpN.of (wpAny_mkText (hQ.toks R _ ⟨_,_,rfl,hx⟩))
 | bytes b =>
  revert hc;refine zR fun x hc=>?_
  obtain rfl:=Option.some.inj hc;replace hQ:=hQ.eq2 he
  exact wpN.of (wpAny_mkTextBytes (hQ.toks R _ ⟨_,rfl⟩))
 | _=>exact zd hc
theorem zrh (T : TopK prog w K B P) {id : Str} {pos : Pos} (hc : cN env.scope id = some m) (he : evE P (n + 1) m L H = some (v,H')) (R : Rel prog w B ρ H s.heap) (V : EnvOk B env ρ s.heap) (W : VarsOk env ρ s.heap L)
  (hQ : Post prog w B ρ s H' v Q) : wpN (model prog w) A (eval (.Name id pos) env) Q E s:=by
 revert hc;refine zR fun hd=>zk fun x hx=>zk fun kd hk hc=>?_
 replace hd:=Bool.not_eq_true' _ ▸ hd
 cases kd with
 | «local» =>
  obtain rfl:=Option.some.inj hc
  revert he;refine zk fun v' hL he=>?_
  replace hQ:=hQ.eq2 he
  obtain ⟨m,val,hm,hv,hr⟩:=(W id x _ hx hL).1 hk
  exact wpN.of (wpAny_Name (wpAny_loadName_local V.kind hk hm hv (hQ.same R hr)) hd)
 | cell =>
  obtain rfl:=Option.some.inj hc
  revert he;refine zk fun v' hL he=>?_
  replace hQ:=hQ.eq2 he
  obtain ⟨c,val,hc,hv,hr⟩:=(W id x _ hx hL).2 (.inl hk)
  exact wpN.of (wpAny_Name (wpAny_loadName_cell V.kind hk hc hv (hQ.same R hr)) hd)
 | free =>
  revert hc;refine zR fun hcd hc=>?_
  obtain rfl:=Option.some.inj hc
  revert he;refine zk fun v' hL he=>?_
  replace hQ:=hQ.eq2 he
  obtain ⟨c,val,hc,hv,hr⟩:=(W id x _ hx hL).2 (.inr hk)
  exact wpN.of (wpAny_Name (wpAny_loadName_free V.kind hk hc hv (hQ.same R hr) (Bool.not_eq_true' _ ▸ hcd)) hd)
 | globalImplicit =>
  obtain rfl:=Option.some.inj hc
  revert he;refine zk fun v' hg he=>?_
  replace hQ:=hQ.eq2 he
  obtain ⟨val,h1,h2⟩:=T.glob x _ id hg hx
  exact wpN.of (Calls.Name_function_global V.kind hk (xY V (h2 s R.base) (hQ.same R (h1 _ _))) hd)
 | _=>exact zd hc
theorem vD (h1 : EOk prog w B P n) {l r : PySem.Expr} {a b : ME} {k k' : Nat} {x y : PV} {H1 H2 : Hp} {γ : Type} {X : Value → Value → Sem γ} {Q : γ → Shared → Prop} (ha : cE k env.scope l = some a) (hb : cE k' env.scope r = some b)
  (e1 : evE P n a L H = some (x,H1)) (e2 : evE P n b L H1 = some (y,H2)) (R : Rel prog w B ρ H s.heap) (V : EnvOk B env ρ s.heap) (W : VarsOk env ρ s.heap L) (Rm : Room A (n + 1))
  (hX : ∀ s2 δ v1 v2,Ext ρ [] s s2 δ → Rel prog w B (ρ ++ δ) H2 s2.heap → VR s2.heap (ρ ++ δ) x v1 → VR s2.heap (ρ ++ δ) y v2 → wpN (model prog w) A (X v1 v2) Q E s2) :
  wpN (model prog w) A (eval l env >>= fun a=>holding [a] (eval r env) >>= fun b=>X a b) Q E s:=by
 refine zb (h1 ha e1 R V W Rm.down fun s1 δ1 v1 x1 R1 r1=>?_)
 refine zb (zp (h1 hb e2 R1 (V.step x1) (W.step V x1) Rm.down fun s2 δ2 v2 x2 R2 r2=>?_))
 have z:=hX s2 (δ1 ++ δ2) v1 v2 (x1.seq x2)
 replace z:=(List.append_assoc ..) ▸ z
 exact z R2 (x2.vr r1) r2
theorem zvg (T : TopK prog w K B P) (h1 : EOk prog w B P n) {l r : PySem.Expr} {op : Operator} {pos : Pos} {a b : ME} {k k' : Nat} (ha : cE k env.scope l = some a) (hb : cE k' env.scope r = some b)
  (he : evE P (n + 1) (.bin op a b) L H = some (v,H')) (R : Rel prog w B ρ H s.heap) (V : EnvOk B env ρ s.heap) (W : VarsOk env ρ s.heap L) (Rm : Room A (n + 1)) (hQ : Post prog w B ρ s H' v Q) :
  wpN (model prog w) A (eval (.BinOp l op r pos) env) Q E s:=by
 revert he;refine zC fun x H1 e1=>zC fun y H2 e2 he=>?_
 exact vD (X:=fun a b=>standAt pos >>= fun uu=>operate [a,b] (binaryOp op a b)) h1 ha hb e1 e2 R V W Rm fun s2 δ v1 v2 x2 R2 r1 r2 =>
  zb (zl (wpN.of (wpAny_operating (zsn T.cat R2 r1 r2 he (hQ.after x2)))))
theorem zuf (h1 : EOk prog w B P n) {x : PySem.Expr} {pos : Pos} {a : ME} {k : Nat} (ha : cE k env.scope x = some a)
  (he : evE P (n + 1) (.not a) L H = some (v,H')) (R : Rel prog w B ρ H s.heap) (V : EnvOk B env ρ s.heap) (W : VarsOk env ρ s.heap L) (Rm : Room A (n + 1)) (hQ : Post prog w B ρ s H' v Q) :
  wpN (model prog w) A (eval (.UnaryOp .Not x pos) env) Q E s:=by
 revert he;refine zka fun b H1 e1 he=>?_
 replace hQ:=hQ.eq2 he
 refine zb (f:=fun v=>standAt pos >>= fun uu=>holding [v] (unaryOp .Not v)) (h1 ha e1 R V W Rm.down fun s1 δ1 v1 x1 R1 r1=>?_)
 obtain rfl:=r1
 exact zb (zl (zp (wpN.of (PyProof.Rows.not_of (wpAny_truthy_bool ((hQ.after x1).same R1 rfl))))))
theorem zui (h1 : EOk prog w B P n) {x : PySem.Expr} {pos : Pos} {a : ME} {k : Nat} (ha : cE k env.scope x = some a)
  (he : evE P (n + 1) (.neg a) L H = some (v,H')) (R : Rel prog w B ρ H s.heap) (V : EnvOk B env ρ s.heap) (W : VarsOk env ρ s.heap L) (Rm : Room A (n + 1)) (hQ : Post prog w B ρ s H' v Q) :
  wpN (model prog w) A (eval (.UnaryOp .USub x pos) env) Q E s:=by
 revert he;refine bnI_k fun b H1 e1 he=>?_
 replace hQ:=hQ.eq2 he
 refine zb (f:=fun v=>standAt pos >>= fun uu=>holding [v] (unaryOp .USub v)) (h1 ha e1 R V W Rm.down fun s1 δ1 v1 x1 R1 r1=>?_)
 obtain ⟨t,rfl⟩:=r1
 exact zb (zl (zp (wpN.of (PyProof.Rows.neg_int ((hQ.after x1).toks R1 _ ⟨_,rfl⟩)))))
theorem zup (h1 : EOk prog w B P n) (h2 : COk prog w B P n) {c a b : PySem.Expr} {pos : Pos} {x y z : ME} {k : Nat} (hc : cE k env.scope c = some x) (ha : cE k env.scope a = some y) (hb : cE k env.scope b = some z)
  (he : evE P (n + 1) (.ite x y z) L H = some (v,H')) (R : Rel prog w B ρ H s.heap) (V : EnvOk B env ρ s.heap) (W : VarsOk env ρ s.heap L) (Rm : Room A (n + 1)) (hQ : Post prog w B ρ s H' v Q) :
  wpN (model prog w) A (eval (.IfExp c a b pos) env) Q E s:=by
 revert he;refine zC fun t H1 e1 he=>?_
 refine zb (f:=fun t : Bool=>if t = true then eval a env else eval b env) (h2 hc e1 R V W Rm.down fun s1 δ1 x1 R1=>?_)
 revert he;refine jh (fun q he=>?_) fun q he=>?_
 ·exact yk q (h1 ha he R1 (V.step x1) (W.step V x1) Rm.down (hQ.after x1))
 ·exact zF q (h1 hb he R1 (V.step x1) (W.step V x1) Rm.down (hQ.after x1))
theorem kj (T : TopK prog w K B P) (Rm : Room A n) {op : CmpOp} {x y : PV} {a b : Value} {r : Bool} {Q : Value → Shared → Prop} (R : Rel prog w B ρ H s.heap) (ha : VR s.heap ρ x a) (hb : VR s.heap ρ y b)
  (e : jd op x y H = some r) (h : ∀ k,Q (.bool r) { s with toks:=k }) : wpAny (model prog w) A (compareOp op a b) Q E s:=zsf Rm T.sys R ha hb e h
theorem qc {op : CmpOp} {e : PySem.Expr} {t : Sem Value} (h : zO e = true) : markedEach [op] [e] [t] = [t]:=by
 cases e <;> first | rfl | exact absurd h Bool.false_ne_true | cases h
theorem kF {o1 o2 : CmpOp} {e1 e2 : PySem.Expr} {t1 t2 : Sem Value} (h : zO e2 = true) : markedEach [o1,o2] [e1,e2] [t1,t2] = [t1,t2]:=by
 show t1 :: markedEach [o2] [e2] [t2] = _
 rw [qc h]
theorem zu7 (T : TopK prog w K B P) (h1 : EOk prog w B P n) {l r : PySem.Expr} {op : CmpOp} {pos : Pos} {a b : ME} {k k' : Nat} (hp : zO r = true) (ha : cE k env.scope l = some a) (hb : cE k' env.scope r = some b)
  (he : evE P (n + 1) (.cmp op a b) L H = some (v,H')) (R : Rel prog w B ρ H s.heap) (V : EnvOk B env ρ s.heap) (W : VarsOk env ρ s.heap L) (Rm : Room A (n + 1)) (hQ : Post prog w B ρ s H' v Q) :
  wpN (model prog w) A (eval (.Compare l [op] [r] pos) env) Q E s:=by
 revert he;refine zC fun x H1 e1=>zC fun y H2 e2=>zk fun c hc he=>?_
 replace hQ:=hQ.eq2 he
 show wpN _ _ (eval l env >>= fun a=>compareChain pos a [op] (markedEach [op] [r] [eval r env])) _ _ _
 rw [qc hp]
 exact vD (X:=fun a b=>standAt pos >>= fun uu=>operate [a,b] (compareOp op a b)) h1 ha hb e1 e2 R V W Rm fun s2 δ v1 v2 x2 R2 r1 r2 =>
  zb (zl (wpN.of (wpAny_operating (kj T Rm R2 r1 r2 hc fun k=>(hQ.after x2).toks R2 k rfl))))
theorem zsg (T : TopK prog w K B P) (h1 : EOk prog w B P n) {l r1 r2 : PySem.Expr} {o1 o2 : CmpOp} {pos : Pos} {a b c : ME} {k : Nat} (hp : zO r2 = true) (ha : cE k env.scope l = some a) (hb : cE k env.scope r1 = some b) (hc : cE k env.scope r2 = some c)
  (he : evE P (n + 1) (.cmp2 o1 o2 a b c) L H = some (v,H')) (R : Rel prog w B ρ H s.heap) (V : EnvOk B env ρ s.heap) (W : VarsOk env ρ s.heap L) (Rm : Room A (n + 1)) (hQ : Post prog w B ρ s H' v Q) :
  wpN (model prog w) A (eval (.Compare l [o1,o2] [r1,r2] pos) env) Q E s:=by
 revert he;refine zC fun x H1 e1=>zC fun y H2 e2=>zk fun t ht he=>?_
 show wpN _ _ (eval l env >>= fun a=>compareChain pos a [o1,o2] (markedEach [o1,o2] [r1,r2] [eval r1 env,eval r2 env])) _ _ _
 rw [kF hp]
 refine vD (X:=fun v1 rv=>standAt pos >>= fun uu=>holding [v1,rv] (compareOp o1 v1 rv) >>= fun c=>release [v1,rv] [c] >>= fun uu =>
  holding [c,rv] (truthy c) >>= fun t=>if t = true then compareChain pos rv [o2] [eval r2 env] else pure c) h1 ha hb e1 e2 R V W Rm fun s2 δ v1 v2 x2 R2 q1 q2=>?_
 refine zb (zl (zm (wpAny_holding (kj T Rm R2 q1 q2 ht fun k=>zm (wpAny_release (zm (wpAny_holding (wpAny_truthy_bool ?_))))))))
 have hQ2:=(hQ.after x2).tk k
 have V2:=V.step x2
 have W2:=W.step V x2
 revert he;refine jh (fun ht he=>yk ht ?_) fun ht he=>zF ht ?_
 ·revert he;refine zC fun z H3 e3=>zk fun cr hcr he=>?_
  obtain ⟨rfl,rfl⟩:=z6 he
  refine zb (f:=fun rv=>standAt pos >>= fun uu=>operate [v2,rv] (compareOp o2 v2 rv)) (zp (h1 (s:={ s2 with toks:=k }) hc e3 R2 V2 W2 Rm.down fun s3 δ3 v3 x3 R3 q3=>?_))
  exact zb (zl (wpN.of (wpAny_operating (kj T Rm R3 (x3.vr (s:={ s2 with toks:=k }) q2) q3 hcr fun k=>(hQ2.after x3).toks R3 k rfl))))
 ·obtain ⟨rfl,rfl⟩:=z6 he
  exact zg (hQ2.same R2 (congrArg Value.bool ht))
end
end Mine
namespace Mine
open PySem PySem.W PyProof.Rows PySem.Spec
section
variable {prog : Program} {A : Around} {w : World} {B : Heap} {ρ δ : List Addr} {H H' : Hp} {s s₁ : Shared} {E : Value → Shared → Prop} {P : Prg} {K : Frag} {env : Env} {L : Loc} {n : Nat} {v : PV} {Q : Value → Shared → Prop} {m : ME}
theorem TopK.kin' (T : TopK prog w K B P) (R : Rel prog w B ρ H s.heap) : K.In s.heap:=T.kin.keeps R.base
theorem xK {o : PySem.Expr} {name : Str} {t : Sem Value} (h : jb o = true) : attributeBase o name env t = t:=by
 cases o with
 | Call f args kw =>
  cases f with
  | Name =>
   cases args with
   | cons=>rfl
   | nil =>
    cases kw with
    | cons=>rfl
    | nil=>exact absurd h Bool.false_ne_true
  | _=>rfl
 | _=>rfl
theorem zst (T : TopK prog w K B P) (h1 : EOk prog w B P n) {o : PySem.Expr} {name : Str} {pos : Pos} {a : ME} {x : Nat} {k : Nat} (hb : jb o = true) (ha : cE k env.scope o = some a) (hx : nid name = some x)
  (he : evE P (n + 1) (.attr a x) L H = some (v,H')) (R : Rel prog w B ρ H s.heap) (V : EnvOk B env ρ s.heap) (W : VarsOk env ρ s.heap L) (Rm : Room A (n + 1)) (hQ : Post prog w B ρ s H' v Q) :
  wpN (model prog w) A (eval (.Attribute o name pos) env) Q E s:=by
 revert he;refine zC fun y H1 e1=>zk fun r hr he=>?_
 replace hQ:=hQ.eq2 he
 show wpN _ _ (attributeBase o name env (eval o env) >>= fun o'=>standAt pos.atName >>= fun uu=>holding [o'] (getAttr o' name true) >>= fun r=>letTemporaryGo o o' r >>= fun uu=>pure r) _ _ _
 rw [xK hb]
 refine zb (h1 ha e1 R V W Rm.down fun s1 δ1 v1 x1 R1 r1=>?_)
 refine zb (zl ?_)
 refine zm (wpAny_holding (zrr (fun a cd h=>(T.cls a cd h).1) (T.kin' R1) R1 r1 hx hr fun val k hv=>?_))
 exact zm (wpAny_letTemporaryGo (zg ((hQ.after x1).toks R1 k hv)))
theorem w5 {e : PySem.Expr} (h : zO e = true) : xd e = true:=by cases e <;> first | rfl | exact absurd h Bool.false_ne_true | cases h
theorem zts (T : TopK prog w K B P) (h1 : EOk prog w B P n) {o i : PySem.Expr} {pos : Pos} {a b : ME} {k k' : Nat} (hp : zO i = true) (ha : cE k env.scope o = some a) (hb : cE k' env.scope i = some b)
  (he : evE P (n + 1) (.sub a b) L H = some (v,H')) (R : Rel prog w B ρ H s.heap) (V : EnvOk B env ρ s.heap) (W : VarsOk env ρ s.heap L) (Rm : Room A (n + 1)) (hQ : Post prog w B ρ s H' v Q) :
  wpN (model prog w) A (eval (.Subscript o i pos) env) Q E s:=by
 revert he;refine zC fun y H1 e1=>zC fun z H2 e2=>zk fun r hr he=>?_
 replace hQ:=hQ.eq2 he
 exact vD (X:=fun o' i'=>standAt pos >>= fun uu=>subscriptTail o i o' i') h1 ha hb e1 e2 R V W Rm fun s2 δ v1 v2 x2 R2 r1 r2 =>
  zb (zl (wpN.of (zow (w5 hp) R2 r1 r2 hr fun val k hv=>(hQ.after x2).toks R2 k hv)))
theorem w9 (h1 : EOk prog w B P n) {o : Option PySem.Expr} {a : ME} {k : Nat} (ha : cO k env.scope o = some a) (he : evE P n a L H = some (v,H')) (R : Rel prog w B ρ H s.heap) (V : EnvOk B env ρ s.heap) (W : VarsOk env ρ s.heap L) (Rm : Room A n) (hQ : Post prog w B ρ s H' v Q) :
  wpN (model prog w) A (valueOrNone (evalOpt o env)) Q E s:=by
 cases o with
 | none =>
  obtain rfl:=Option.some.inj ha
  cases n with
  | zero=>exact zd he
  | succ n=>replace hQ:=hQ.eq2 he;exact zg (hQ.same R rfl)
 | some e=>exact h1 ha he R V W Rm hQ
theorem zkl (lo hi st : Option PySem.Expr) (pos : Pos) (o i : Value) : ∃ ops,subscripted (.Slice lo hi st pos) false o i = operate ops (getItem o i):=by
 cases st with
 | none=>exact ⟨_,rfl⟩
 | some e=>exact ⟨_,rfl⟩
theorem zmu (T : TopK prog w K B P) (h1 : EOk prog w B P n) {o : PySem.Expr} {lo hi st : Option PySem.Expr} {pos pos' : Pos} {a b c d : ME} {k : Nat} (ha : cE k env.scope o = some a) (hb : cO k env.scope lo = some b) (hc : cO k env.scope hi = some c) (hd : cO k env.scope st = some d)
  (he : evE P (n + 1) (.slice a b c d) L H = some (v,H')) (R : Rel prog w B ρ H s.heap) (V : EnvOk B env ρ s.heap) (W : VarsOk env ρ s.heap L) (Rm : Room A (n + 1)) (hQ : Post prog w B ρ s H' v Q) :
  wpN (model prog w) A (eval (.Subscript o (.Slice lo hi st pos') pos) env) Q E s:=by
 revert he;refine zC fun y0 H1 e1=>zC fun y1 H2 e2=>zC fun y2 H3 e3=>zC fun y3 H4 e4=>zk fun r hr he=>?_
 replace hQ:=hQ.eq2 he
 show wpN _ _ (eval o env >>= fun o'=>holding [o'] (valueOrNone (evalOpt lo env) >>= fun l=>holding [l] (valueOrNone (evalOpt hi env)) >>= fun u=>holding [l,u] (valueOrNone (evalOpt st env)) >>= fun s=>newFields "slice" [l,u,s]) >>= fun i' =>
  standAt pos >>= fun uu=>subscriptTail o (.Slice lo hi st pos') o' i') _ _ _
 refine zb (h1 ha e1 R V W Rm.down fun s1 δ1 v1 x1 R1 r1=>?_)
 have V1:=V.step x1
 have W1:=W.step V x1
 refine zb (zp ?_)
 refine zb (w9 h1 hb e2 R1 V1 W1 Rm.down fun s2 δ2 v2 x2 R2 r2=>?_)
 have V2:=V1.step x2
 have W2:=W1.step V1 x2
 refine zb (zp (w9 h1 hc e3 R2 V2 W2 Rm.down fun s3 δ3 v3 x3 R3 r3=>?_))
 have V3:=V2.step x3
 have W3:=W2.step V2 x3
 refine zb (zp (w9 h1 hd e4 R3 V3 W3 Rm.down fun s4 δ4 v4 x4 R4 r4=>?_))
 refine wpN.of (wpAny_newObj_type ?_ ?_)
 ·have st5 : Still [] s4 { s4 with heap:=s4.heap.push { cls:=.type "slice",data:=.fields [v2,v3,v4].toArray },toks:=s4.toks }:=Still.push _ _
  have x5:=st5.ext0 (ρ:=(((ρ ++ δ1) ++ δ2) ++ δ3) ++ δ4)
  have R5:=R4.still0 st5
  have hQ5:=((((hQ.after x1).after x2).after x3).after x4).after x5
  rw [List.append_nil] at hQ5
  have back : ∀ {x v},VR s4.heap ((((ρ ++ δ1) ++ δ2) ++ δ3) ++ δ4) x v → VR (s4.heap.push { cls:=.type "slice",data:=.fields [v2,v3,v4].toArray }) ((((ρ ++ δ1) ++ δ2) ++ δ3) ++ δ4) x v:=fun r=>r.still0 st5
  refine zb (zl (wpN.of ?_))
  obtain ⟨ops,hops⟩:=zkl lo hi st pos' v1 (.ref s4.heap.objs.size)
  exact zkq R5 (back (x4.vr (x3.vr (x2.vr r1)))) (Heap.IsSliceOf.new _ _ _ _) (back (x4.vr (x3.vr r2))) (back (x4.vr r3)) (back r4) hops hr hQ5
 ·show (3 : Nat) ≤ _;decide
theorem ztr (h2 : EsOk prog w B P n) {l : List PySem.Expr} {c : Nat} {pos : Pos} {a : List ME} {k : Nat} (hl : l.length ≤ 1000) (ha : cEs k env.scope l = some a)
  (he : evE P (n + 1) (.tup a) L H = some (v,H')) (R : Rel prog w B ρ H s.heap) (V : EnvOk B env ρ s.heap) (W : VarsOk env ρ s.heap L) (Rm : Room A (n + 1)) (hQ : Post prog w B ρ s H' v Q) (hlen : ∀ vs H,yO P n a L H = some vs → vs.1.length = l.length) :
  wpN (model prog w) A (eval (.Tuple l c pos) env) Q E s:=by
 revert he;refine zC fun vs H1 e1 he=>?_
 replace hQ:=hQ.eq2 he
 show wpN _ _ (standAt pos >>= fun uu=>spliced (backTo pos (starEach l env)) >>= fun vs=>newTuple vs) _ _ _
 refine zb (zl (zb (h2 ha e1 R V W Rm.down fun s1 δ1 vals x1 R1 r1=>?_)))
 refine wpN.of (wpAny_newTuple ?_ (by rw [r1.length];have:=hlen _ _ e1;rw [this];exact Nat.le_trans hl (by decide)))
 have st : Still [] s1 { s1 with heap:=s1.heap.push { cls:=.type "tuple",data:=.seq vals.toArray },toks:=s1.toks }:=Still.push _ _
 refine (hQ.after x1).pure R1 st ⟨_,vals,rfl,R1.off (Nat.le_refl _),⟨_,Heap.get?_push_size _ rfl,rfl,_,rfl⟩,?_⟩
 have z:=VRs.keep (st.k (ρ:=ρ ++ δ1) fun uu h=>(nomatch h)) _ _ r1
 rwa [List.append_nil] at z
end
end Mine
namespace Mine
open PySem PySem.W PyProof.Rows PySem.Spec
structure Map (ρ ρ' : List Addr) (h h' : Heap) : Prop where
 vals : ∀ a o,h.get? a = some o → a ∉ ρ → zM o = true → h'.get? a = some o ∧ a ∉ ρ'
 locs : ∀ (i : Nat) (a : Addr),LocA h ρ i a → LocA h' ρ' i a
theorem SeqAt.map {ρ ρ' : List Addr} {h h' : Heap} (k : Map ρ ρ' h h') {a : Addr} {T : String} {vs : Array Value} (n : a ∉ ρ) (x : SeqAt h a T vs) : SeqAt h' a T vs ∧ a ∉ ρ':=by
 obtain ⟨o,ho,hc,m,hd⟩:=x
 have z:=k.vals a o ho n (by unfold zM;rw [hd])
 exact ⟨⟨o,z.1,hc,m,hd⟩,z.2⟩
mutual
theorem VR.map {ρ ρ' : List Addr} {h h' : Heap} (k : Map ρ ρ' h h') : ∀ (x : PV) (v : Value),VR h ρ x v → VR h' ρ' x v
 | .none,v,e=>e
 | .bool b,v,e=>e
 | .int i,v,e=>e
 | .str n,v,e=>e
 | .bytes b,v,e=>e
 | .barr b,v,e=>by
  obtain ⟨a,rfl,n,ha⟩:=e
  have z:=k.vals a _ ha n rfl
  exact ⟨a,rfl,z.2,z.1⟩
 | .tup l,v,e=>by
  obtain ⟨a,vs,rfl,n,ha,hl⟩:=e
  have z:=ha.map k n
  exact ⟨a,vs,rfl,z.2,z.1,VRs.map k l vs hl⟩
 | .lst l,v,e=>by
  obtain ⟨a,vs,rfl,n,ha,hl⟩:=e
  have z:=ha.map k n
  exact ⟨a,vs,rfl,z.2,z.1,VRs.map k l vs hl⟩
 | .loc i,v,e=>by
  obtain ⟨a,rfl,ha⟩:=e
  exact ⟨a,rfl,k.locs i a ha⟩
 | .fn o,v,e=>e
 | .bi o,v,e=>e
theorem VRs.map {ρ ρ' : List Addr} {h h' : Heap} (k : Map ρ ρ' h h') : ∀ (l : List PV) (vs : List Value),VRs h ρ l vs → VRs h' ρ' l vs
 | [],vs,e=>e
 | x :: r,vs,e=>by
  obtain ⟨v,t,rfl,h1,h2⟩:=e
  exact ⟨v,t,rfl,VR.map k x v h1,VRs.map k r t h2⟩
end
theorem KVR.map {ρ ρ' : List Addr} {h h' : Heap} (k : Map ρ ρ' h h') : ∀ {l : List (Nat × PV)} {ds : List (Str × Value)},KVR h ρ l ds → KVR h' ρ' l ds
 | [],ds,e=>e
 | x :: r,ds,e=>by
  obtain ⟨s,v,q,rfl,h1,h2,h3⟩:=e
  exact ⟨s,v,q,rfl,h1,VR.map k _ _ h2,h3.map k⟩
theorem NSR.map {ρ ρ' : List Addr} {h h' : Heap} (k : Map ρ ρ' h h') : ∀ {l : List (Nat × PV)} {ds : List DictEntry},NSR h ρ l ds → NSR h' ρ' l ds
 | [],ds,e=>e
 | x :: r,ds,e=>by
  obtain ⟨g,s,t,v,q,rfl,h1,h2,h3⟩:=e
  exact ⟨g,s,t,v,q,rfl,h1,VR.map k _ _ h2,h3.map k⟩
section
variable {prog : Program} {A : Around} {w : World} {B : Heap} {ρ ρ' δ : List Addr} {H H' : Hp} {s s₁ : Shared} {h h' : Heap} {E : Value → Shared → Prop} {P : Prg} {K : Frag} {env : Env} {L : Loc} {n : Nat} {v : PV} {Q : Value → Shared → Prop} {m : ME}
theorem OR.map (k : Map ρ ρ' h h') {m : MObj} {o : Obj} (e : OR prog w h ρ m o) : OR prog w h' ρ' m o:=by
 cases m with
 | list l=>obtain ⟨vs,n,rfl,q⟩:=e;exact ⟨vs,n,rfl,VRs.map k _ _ q⟩
 | dict es=>obtain ⟨kvs,q,r⟩:=e;exact ⟨kvs,q,r.map k⟩
 | ns es=>obtain ⟨vs,n,rfl,q⟩:=e;exact ⟨vs,n,rfl,q.map k⟩
 | barr b=>exact e
 | inst c d=>obtain ⟨a,ha,rfl⟩:=e;exact ⟨a,k.locs _ _ ha,rfl⟩
 | hid=>exact e
theorem Rel.adopt (R : Rel prog w B ρ H s.heap) {d : Addr} {mo : MObj} {o' : Obj} {h' : Heap} (hd : d ∉ ρ) (hB : B.get? d = none) (hv : ∀ o,s.heap.get? d = some o → zM o = false) (hs : Heap.SameBut d s.heap h') (hg : h'.get? d = some o')
  (hor : Map ρ (ρ ++ [d]) s.heap h' → OR prog w h' (ρ ++ [d]) mo o') : Rel prog w B (ρ ++ [d]) (H ++ [mo]) h' ∧ LocA h' (ρ ++ [d]) H.length d ∧ Map ρ (ρ ++ [d]) s.heap h':=by
 have k : Map ρ (ρ ++ [d]) s.heap h':=by
  refine ⟨fun a o e n y=>?_,fun i a l=>?_⟩
  ·have ne : a ≠ d:=fun q=>by subst q;rw [hv o e] at y;cases y
   exact ⟨(hs.2 a ne).trans e,fun mm=>by
    rcases List.mem_append.mp mm with mm | mm
    ·exact n mm
    ·exact ne (List.mem_singleton.mp mm)⟩
  ·obtain ⟨l1,l2,l3⟩:=l
   have li:=(List.getElem?_eq_some_iff.mp l1).1
   have ne : a ≠ d:=fun q=>hd (q ▸ List.mem_of_getElem? l1)
   refine ⟨by rw [List.getElem?_append_left li];exact l1,fun j hj=>?_,fun q=>l3 ((hs.2 a ne).symm.trans q)⟩
   by_cases lj : j < ρ.length
   ·rw [List.getElem?_append_left lj] at hj;exact l2 j hj
   ·rw [List.getElem?_append_right (Nat.le_of_not_lt lj)] at hj
    exact absurd (List.mem_singleton.mp (List.mem_of_getElem? hj)) ne
 refine ⟨⟨fun a o e=>(hs.2 a fun q=>by subst q;rw [hB] at e;cases e).trans (R.base a o e),by rw [List.length_append,List.length_append,R.len];rfl,fun a mm=>?_,fun i m' a g q=>?_⟩,?_,k⟩
 ·rcases List.mem_append.mp mm with mm | mm
  ·exact R.fresh a mm
  ·exact (List.mem_singleton.mp mm) ▸ hB
 ·by_cases l : i < H.length
  ·rw [List.getElem?_append_left l] at g
   rw [List.getElem?_append_left (by rw [R.len];exact l)] at q
   obtain ⟨o,ho,hr⟩:=R.obj i m' a g q
   have ne : a ≠ d:=fun q'=>hd (q' ▸ List.mem_of_getElem? q)
   exact ⟨o,(hs.2 a ne).trans ho,hr.map k⟩
  ·have l' : H.length ≤ i:=Nat.le_of_not_lt l
   rw [List.getElem?_append_right l'] at g
   rw [List.getElem?_append_right (by rw [R.len];exact l')] at q
   have z : i - H.length = 0:=by
    have:=(List.getElem?_eq_some_iff.mp g).1
    simpa using this
   replace g:=z ▸ g
   rw [R.len,z] at q
   cases g
   cases q
   exact ⟨o',hg,hor k⟩
 ·refine ⟨by rw [← R.len,List.getElem?_append_right (Nat.le_refl _),Nat.sub_self];rfl,fun j hj=>?_,by rw [hg];exact fun q=>nomatch q⟩
  by_cases l : j < ρ.length
  ·rw [List.getElem?_append_left l] at hj
   exact absurd (List.mem_of_getElem? hj) hd
  ·rw [List.getElem?_append_right (Nat.le_of_not_lt l)] at hj
   have:=(List.getElem?_eq_some_iff.mp hj).1
   rw [← R.len]
   simp at this
   lia
theorem jE : ∀ {n : Nat} {ms : List ME} {vs : List PV} {H H' : Hp},yO P n ms L H = some (vs,H') → vs.length = ms.length
 | 0,ms,vs,H,H',e=>zd e
 | n + 1,[],vs,H,H',e=>(z6 e).1 ▸ rfl
 | n + 1,x :: r,vs,H,H',e=>by
  revert e;refine zC fun v H1 uu=>zC fun vs' H2 q e=>?_
  obtain ⟨rfl,rfl⟩:=z6 e
  exact congrArg Nat.succ (jE q)
theorem jy {k : Nat} {sc : Scope} : ∀ {l : List PySem.Expr} {ms : List ME},cEs k sc l = some ms → ms.length = l.length
 | [],ms,e=>Option.some.inj e ▸ rfl
 | x :: r,ms,e=>by
  obtain ⟨a,b,_,_,p,rfl⟩:=jf e
  exact congrArg Nat.succ (jy p)
theorem zuj (h2 : EsOk prog w B P n) {l : List PySem.Expr} {pos : Pos} {a : List ME} {k : Nat} (hl : l.length ≤ 1000) (ha : cEs k env.scope l = some a)
  (he : evE P (n + 1) (.lst a) L H = some (v,H')) (R : Rel prog w B ρ H s.heap) (V : EnvOk B env ρ s.heap) (W : VarsOk env ρ s.heap L) (Rm : Room A (n + 1)) (hQ : Post prog w B ρ s H' v Q) :
  wpN (model prog w) A (eval (.List l pos) env) Q E s:=by
 revert he;refine zC fun vs H1 e1 he=>?_
 show wpN _ _ (standAt pos >>= fun uu=>spliced (backTo pos (starEach l env)) >>= fun vs=>newList vs) _ _ _
 refine zb (zl (zb (h2 ha e1 R V W Rm.down fun s1 δ1 vals x1 R1 r1=>?_)))
 have hlen : vals.length ≤ sizeLine:=by rw [r1.length,jE e1,jy ha];exact Nat.le_trans hl (by decide)
 have go1 : some (PV.loc H1.length,H1 ++ [MObj.list vs]) = some (v,H') → wpN (model prog w) A (newList vals) Q E s1:=fun e=>by
  replace hQ:=hQ.eq2 e
  refine wpN.of (wpAny_newList ?_ hlen)
  obtain ⟨q1,q2⟩:=R1.alloc (m:=.list vs) (o:={ cls:=.type "list",data:=.seq vals.toArray }) s1.toks ⟨vals.toArray,0,rfl,by simpa using r1⟩
  exact (hQ.after x1) _ _ _ q2 q1 ⟨_,rfl,R1.newAt (zU _) (by show (s1.heap.push _).get? _ ≠ none;rw [Heap.get?_push_size _ rfl];exact fun q=>nomatch q)⟩
 cases a with
 | nil=>exact go1 he
 | cons a0 a =>
  cases a with
  | nil=>exact go1 he
  | cons a1 a =>
   replace hQ:=hQ.eq2 he
   refine wpN.of (wpAny_newList ?_ hlen)
   have st : Still [] s1 { s1 with heap:=s1.heap.push { cls:=.type "list",data:=.seq vals.toArray },toks:=s1.toks }:=Still.push _ _
   refine (hQ.after x1).pure R1 st ⟨_,vals,rfl,R1.off (Nat.le_refl _),⟨_,Heap.get?_push_size _ rfl,rfl,_,rfl⟩,?_⟩
   have z:=VRs.keep (st.k (ρ:=ρ ++ δ1) fun uu h=>(nomatch h)) _ _ r1
   rwa [List.append_nil] at z
end
end Mine
namespace Mine
open PySem PySem.W PyProof.Rows PySem.Spec
noncomputable def KV (h : Heap) (ρ : List Addr) : List Nat → List PV → List (Str × Value) → Prop
 | [],[],kvs=>kvs = []
 | k :: ks,v :: vs,kvs=>∃ st val r,kvs = (st,val) :: r ∧ nid st = some k ∧ VR h ρ v val ∧ KV h ρ ks vs r
 | _,_,_=>False
theorem KV.keep {ρ δ : List Addr} {h h' : Heap} (k : Keep ρ δ h h') : ∀ {ks : List Nat} {vs : List PV} {kvs : List (Str × Value)},KV h ρ ks vs kvs → KV h' (ρ ++ δ) ks vs kvs
 | [],[],_,e=>e
 | _ :: _,_ :: _,_,⟨st,val,r,e,h1,h2,h3⟩=>⟨st,val,r,e,h1,h2.keep k,h3.keep k⟩
 | [],_ :: _,_,e=>e.elim
 | _ :: _,[],_,e=>e.elim
theorem KV.map {ρ ρ' : List Addr} {h h' : Heap} (k : Map ρ ρ' h h') : ∀ {ks : List Nat} {vs : List PV} {kvs : List (Str × Value)},KV h ρ ks vs kvs → KV h' ρ' ks vs kvs
 | [],[],_,e=>e
 | _ :: _,_ :: _,_,⟨st,val,r,e,h1,h2,h3⟩=>⟨st,val,r,e,h1,h2.map k,h3.map k⟩
 | [],_ :: _,_,e=>e.elim
 | _ :: _,[],_,e=>e.elim
theorem k7 : ∀ (kvs : List (Str × Value)) (k : Str) (v : Value) (x : Str),x ∈ (yJ kvs k v).map (·.1) → x ∈ kvs.map (·.1) ∨ x = k
 | [],k,v,x,h=>.inr (by simpa [yJ] using h)
 | e :: r,k,v,x,h=>by
  unfold yJ at h
  by_cases c : e.1 = k
  ·rw [if_pos c] at h
   rcases List.mem_cons.mp h with h | h
   ·exact .inr h
   ·exact .inl (List.mem_cons_of_mem _ h)
  ·rw [if_neg c] at h
   rcases List.mem_cons.mp h with h | h
   ·exact .inl (h ▸ List.mem_cons_self ..)
   ·rcases k7 r k v x h with q | q
    ·exact .inl (List.mem_cons_of_mem _ q)
    ·exact .inr q
theorem kC : ∀ (kvs : List (Str × Value)) (k : Str) (v : Value),(kvs.map (·.1)).Nodup → ((yJ kvs k v).map (·.1)).Nodup
 | [],k,v,_=>by simp [yJ]
 | e :: r,k,v,h=>by
  rw [List.map_cons,List.nodup_cons] at h
  unfold yJ
  by_cases c : e.1 = k
  ·rw [if_pos c,List.map_cons,List.nodup_cons]
   exact ⟨c ▸ h.1,h.2⟩
  ·rw [if_neg c,List.map_cons,List.nodup_cons]
   refine ⟨fun q=>?_,kC r k v h.2⟩
   rcases k7 r k v _ q with q | q
   ·exact h.1 q
   ·exact c q
theorem KV.merged {h : Heap} {ρ : List Addr} : ∀ {ks : List Nat} {vs : List PV} {kvs acc : List (Str × Value)} {es es' : List (Nat × PV)},KV h ρ ks vs kvs → zcg ks vs es = some es' → KVR h ρ es acc → (acc.map (·.1)).Nodup → KVR h ρ es' (PySem.merged acc kvs)
 | [],[],kvs,acc,es,es',e,m,r,_=>by cases e;cases m;exact r
 | k :: ks,v :: vs,kvs,acc,es,es',⟨st,val,q,e,h1,h2,h3⟩,m,r,nd=>by
  subst e
  have : PySem.merged acc ((st,val) :: q) = PySem.merged (stored acc st val) q:=by simp [PySem.merged]
  rw [this,vF _ _ _ nd]
  exact KV.merged h3 m (r.set h1 h2) (kC _ _ _ nd)
 | [],_ :: _,_,_,_,_,e,_,_,_=>e.elim
 | _ :: _,[],_,_,_,_,e,_,_,_=>e.elim
noncomputable def j9 (env : Env) (pos : Pos) : List (Option PySem.Expr) → List PySem.Expr → List (Sem Value × Sem Value)
 | some k :: ks,v :: vs=>(eval k env,do let x ← eval v env;standAt pos;pure x) :: j9 env pos ks vs
 | _,_=>[]
theorem xF {o : Option PySem.Expr} {r : List (Option PySem.Expr)} {a : List Nat} (h : cKs (o :: r) = some a) : ∃ st c pos n l,o = some (.Constant (.str st) c pos) ∧ nid st = some n ∧ cKs r = some l ∧ a = n :: l:=by
 revert h;refine zk fun q hq=>zk fun n hn=>zk fun l hl h=>?_
 revert hq;refine zk fun e he hq=>?_
 obtain rfl:=he
 cases e with
 | Constant c k p =>
  cases c with
  | str st=>obtain rfl:=Option.some.inj hq;exact ⟨st,k,p,n,l,rfl,hn,hl,(Option.some.inj h).symm⟩
  | _=>exact zd hq
 | _=>exact zd hq
theorem wh {env : Env} {pos : Pos} : ∀ {ks : List (Option PySem.Expr)} {vs : List PySem.Expr} {a : List Nat},cKs ks = some a → a.length = vs.length →
  (evalEachOpt ks env).zip ((evalEach vs env).map fun v=>do let x ← v;standAt pos;pure x) = (j9 env pos ks vs).map fun p=>(some p.1,p.2)
 | [],vs,a,h,hl=>by
  obtain rfl:=Option.some.inj h
  cases vs with
  | nil=>rfl
  | cons v r=>cases hl
 | o :: r,vs,a,h,hl=>by
  obtain ⟨st,c,p,n,l,rfl,h1,h2,rfl⟩:=xF h
  cases vs with
  | nil=>cases hl
  | cons v t =>
   have ih:=wh (env:=env) (pos:=pos) (vs:=t) h2 (by simpa using hl)
   show (some (eval (.Constant (.str st) c p) env),_) :: _ = _ :: _
   exact congrArg _ ih
theorem jl {env : Env} {pos : Pos} : ∀ {ks : List (Option PySem.Expr)} {vs : List PySem.Expr} {a : List Nat},cKs ks = some a → a.length = vs.length → (j9 env pos ks vs).length = a.length
 | [],vs,a,h,hl=>by
  obtain rfl:=Option.some.inj h
  rfl
 | o :: r,vs,a,h,hl=>by
  obtain ⟨st,c,p,n,l,rfl,h1,h2,rfl⟩:=xF h
  cases vs with
  | nil=>cases hl
  | cons v t =>
   show (j9 env pos r t).length + 1 = l.length + 1
   rw [jl h2 (by simpa using hl)]
section
variable {prog : Program} {A : Around} {w : World} {B : Heap} {ρ ρ' δ : List Addr} {H H' : Hp} {s s₁ : Shared} {h h' : Heap} {E : Value → Shared → Prop} {P : Prg} {K : Frag} {env : Env} {L : Loc} {n : Nat} {v : PV} {Q : Value → Shared → Prop} {m : ME}
theorem znc : ∀ {n : Nat} {ks : List (Option PySem.Expr)} {vs : List PySem.Expr} {a : List Nat} {b : List ME} {vv : List PV} {k : Nat} {pos : Pos} {H : Hp} {ρ : List Addr} {s : Shared} {Q : List (Value × Value) → Shared → Prop},
  (∀ m ≤ n,EOk prog w B P m) → cKs ks = some a → cEs k env.scope vs = some b → a.length = b.length → yO P n b L H = some (vv,H') → Rel prog w B ρ H s.heap → EnvOk B env ρ s.heap → VarsOk env ρ s.heap L → Room A n →
  (∀ s' δ res kvs,Ext ρ [] s s' δ → Rel prog w B (ρ ++ δ) H' s'.heap → Carries (strKind prog w) res kvs → KV s'.heap (ρ ++ δ) a vv kvs → Q res s') → wpN (model prog w) A (evalPairs (j9 env pos ks vs)) Q E s:=by
 intro n
 induction n with
 | zero=>intro ks vs a b vv k pos H ρ s Q hE h1 h2 h3 he;exact zd he
 | succ n ih =>
  intro ks vs a b vv k pos H ρ s Q hE h1 h2 h3 he R V W Rm hQ
  cases ks with
  | nil =>
   obtain rfl:=Option.some.inj h1
   cases b with
   | cons _ _=>cases h3
   | nil =>
    obtain ⟨rfl,rfl⟩:=z6 he
    show wpN _ _ (evalPairs []) _ _ _
    rw [evalPairs]
    exact zg (hQ s [] [] [] (Ext.refl ..) (by rw [List.append_nil];exact R) trivial rfl)
  | cons o r =>
   obtain ⟨st,c,p,i,l,rfl,q1,q2,rfl⟩:=xF h1
   cases vs with
   | nil=>obtain rfl:=Option.some.inj h2;cases h3
   | cons e t =>
    obtain ⟨a',b',p1,p2,p3,rfl⟩:=jf h2
    revert he;refine zC fun v H1 e1=>zC fun vs' H2 e2 he=>?_
    obtain ⟨rfl,rfl⟩:=z6 he
    show wpN _ _ (evalPairs ((eval (.Constant (.str st) c p) env,do let x ← eval e env;standAt pos;pure x) :: j9 env pos r t)) _ _ _
    rw [evalPairs]
    refine zm ?_
    show wpAny _ _ (mkText st) _ _ _
    refine wpAny_mkText ?_
    have st0 : Still [] s { s with toks:=s.toks + 1 }:=Still.toks _
    have x0:=st0.ext0 (ρ:=ρ)
    have R0:=R.still0 st0
    have V0 : EnvOk B env ρ ({ s with toks:=s.toks + 1 } : Shared).heap:=V
    have W0 : VarsOk env ρ ({ s with toks:=s.toks + 1 } : Shared).heap L:=W
    refine zb (zp (zb (hE n (Nat.le_succ _) p2 e1 R0 V0 W0 Rm.down fun s1 δ1 v1 x1 R1 r1=>?_)))
    refine zb (zl (zg ?_))
    refine zb (zp (ih (fun m hm=>hE m (Nat.le_succ_of_le hm)) q2 p3 (by simpa using h3) e2 R1 (V0.step x1) (W0.step V0 x1) Rm.down fun s2 δ2 res kvs x2 R2 c2 k2=>?_))
    refine zg (hQ s2 (δ1 ++ δ2) ((.str st s.toks,v1) :: res) ((st,v1) :: kvs) ?_ ?_ ?_ ?_)
    ·have y:=x0.seq (δ:=[]) (ε:=δ1 ++ δ2) (by rw [List.append_nil];exact x1.seq x2)
     simpa using y
    ·exact (List.append_assoc ..) ▸ R2
    ·exact ⟨vE st s.toks,rfl,c2⟩
    ·exact (List.append_assoc ..) ▸ ⟨st,v1,kvs,rfl,q1,x2.vr r1,k2⟩
theorem zsb (hE : ∀ m ≤ n,EOk prog w B P m) {ks : List (Option PySem.Expr)} {vs : List PySem.Expr} {pos : Pos} {a : List Nat} {b : List ME} {k : Nat} (h1 : cKs ks = some a) (h2 : cEs k env.scope vs = some b) (h3 : a.length = b.length) (h4 : a.length ≤ 15)
  (he : evE P (n + 1) (.dict a b) L H = some (v,H')) (R : Rel prog w B ρ H s.heap) (V : EnvOk B env ρ s.heap) (W : VarsOk env ρ s.heap L) (Rm : Room A (n + 1)) (hQ : Post prog w B ρ s H' v Q) :
  wpN (model prog w) A (eval (.Dict ks vs pos) env) Q E s:=by
 have hlv : a.length = vs.length:=h3.trans (jy h2)
 revert he;refine zC fun vv H1 e1=>zk fun es hes he=>?_
 replace hQ:=hQ.eq2 he
 show wpN _ _ (standAt pos >>= fun uu=>dictDisplay ((evalEachOpt ks env).zip ((evalEach vs env).map fun v=>do let x ← v;standAt pos;pure x))) _ _ _
 rw [wh h1 hlv]
 refine zb (zl ?_)
 by_cases h0 : j9 env pos ks vs = []
 ·rw [h0]
  have ha : a = []:=by
   have:=jl (env:=env) (pos:=pos) h1 hlv
   rw [h0] at this
   exact List.eq_nil_of_length_eq_zero this.symm
  subst ha
  have hb : b = []:=List.eq_nil_of_length_eq_zero h3.symm
  subst hb
  cases n with
  | zero=>exact zd e1
  | succ n =>
   obtain ⟨rfl,rfl⟩:=z6 e1
   obtain rfl:=Option.some.inj hes
   show wpN _ _ (newDict) _ _ _
   refine wpN.of (wpAny_newObj_type ?_ (by show (0 : Nat) ≤ _;exact Nat.zero_le _))
   obtain ⟨q1,q2⟩:=R.alloc (m:=.dict []) (o:={ cls:=.type "dict",data:=.dict #[] }) s.toks ⟨[],(Heap.dictOf_iff.mp (Heap.DictOf.new (knd:=strKind prog w) s.heap)).elim fun o ho=>by
    have e1:=Heap.get?_push_size s.heap (o:={ cls:=.type "dict",data:=.dict #[] }) rfl
    rw [e1] at ho;cases ho.1;exact ho.2,rfl⟩
   exact hQ _ _ _ q2 q1 ⟨_,rfl,R.newAt (zU _) (by show (s.heap.push _).get? _ ≠ none;rw [Heap.get?_push_size _ rfl];exact fun q=>nomatch q)⟩
 ·rw [dictDisplay_pairs _ h0 (by rw [jl h1 hlv];exact zu4 h4 rfl)]
  unfold subDict
  refine zb (zm (wpAny_alloc ?_))
  have st0 : Still [] s { s with heap:=s.heap.push { cls:=.type "dict",data:=.dict #[] },toks:=s.toks }:=Still.push _ _
  have x0:=st0.ext0 (ρ:=ρ)
  have R0:=R.still0 st0
  have V0:=V.step x0
  have W0:=W.step V x0
  rw [List.append_nil] at V0 W0
  have D0 : (s.heap.push { cls:=.type "dict",data:=.dict #[] }).DictOf (strKind prog w) s.heap.objs.size []:=Heap.DictOf.new _
  obtain ⟨o0,ho0,hk0⟩:=Heap.dictOf_iff.mp D0
  have hdρ : s.heap.objs.size ∉ ρ:=R.off (Nat.le_refl _)
  have hdB : B.get? s.heap.objs.size = none:=R.bsize (Nat.le_refl _)
  have hnv : zM o0 = false:=by
   obtain ⟨es,ep,_,hd,_⟩:=hk0
   unfold zM;rw [hd]
  refine zb (zp ?_)
  rw [if_pos (by rw [jl h1 hlv];exact h4)]
  refine zb (znc (s:={ s with heap:=s.heap.push { cls:=.type "dict",data:=.dict #[] } }) hE h1 h2 h3 e1 R0 V0 W0 Rm.down fun s1 δ1 res kvs x1 R1 c1 k1=>?_)
  have ho1:=x1.obj (a:=s.heap.objs.size) ho0 hdρ (fun q=>nomatch q)
  have D1 : s1.heap.DictOf (strKind prog w) s.heap.objs.size []:=Heap.dictOf_iff.mpr ⟨o0,ho1.1,hk0⟩
  have hle : ([] : List (Str × Value)).length + kvs.length ≤ sizeLine:=by
   have hkl : ∀ {ks : List Nat} {vs : List PV} {kvs : List (Str × Value)},KV s1.heap (ρ ++ δ1) ks vs kvs → kvs.length = ks.length:=by
    intro ks
    induction ks with
    | nil=>intro vs kvs e;cases vs with
     | nil=>cases e;rfl
     | cons _ _=>exact e.elim
    | cons k ks ih=>intro vs kvs e;cases vs with
     | nil=>exact e.elim
     | cons _ _ =>
      obtain ⟨st,val,r,rfl,_,_,h3⟩:=e
      rw [List.length_cons,List.length_cons,ih h3]
   rw [hkl k1,List.length_nil,sizeLine_eq];exact zv7 h4 rfl
  refine zp (wpN.of (wpAny_bind (wpAny_storeAll (knd:=strKind prog w) res kvs [] s1 _ c1 D1 hle fun h' hm' hs'=>wpAny_pure ?_)))
  refine zg (zg ?_)
  obtain ⟨o',ho',hk'⟩:=Heap.dictOf_iff.mp hm'
  obtain ⟨q1,q2,q3⟩:=R1.adopt (mo:=.dict es) (h':=h') ho1.2 hdB (fun o e=>by rw [ho1.1] at e;cases e;exact hnv) hs' ho' (fun km=>⟨_,hk',KV.merged (k1.map km) hes rfl (by simp)⟩)
  have xe : Ext ρ [] s s1 δ1:=by
   have y:=x0.seq (δ:=[]) (ε:=δ1) (by rw [List.append_nil];exact x1)
   simpa using y
  have hsn : s.heap.get? s.heap.objs.size = none:=zU _
  refine hQ { s1 with heap:=h',toks:=s1.toks + res.length } (δ1 ++ [s.heap.objs.size]) _ ⟨fun a o g f x=>?_,fun a o g f y=>?_,fun a ma=>?_,fun a g=>?_,xe.gens,xe.drawn,xe.os⟩ (by rw [← List.append_assoc];exact q1) (by rw [← List.append_assoc];exact ⟨_,rfl,q2⟩)
  ·have ne : a ≠ s.heap.objs.size:=fun q=>by subst q;rw [hsn] at g;cases g
   exact (hs'.2 a ne).trans (xe.keep a o g f x)
  ·have ne : a ≠ s.heap.objs.size:=fun q=>by subst q;rw [hsn] at g;cases g
   exact (hs'.2 a ne).trans (xe.vals a o g f y)
  ·rcases List.mem_append.mp ma with ma | ma
   ·exact xe.new a ma
   ·rw [List.mem_singleton.mp ma];exact hsn
  ·by_cases ne : a = s.heap.objs.size
   ·rw [ne];exact hsn
   ·exact xe.gone a ((hs'.2 a ne).symm.trans g)
end
end Mine
namespace Mine
open PySem PySem.W PyProof.Rows PySem.Spec
theorem wM {k : Nat} {sc : Scope} {rs : List PySem.Expr} (h : cEs k sc rs = some []) : rs = []:=List.eq_nil_of_length_eq_zero (jy h).symm
theorem ql {k : Nat} {sc : Scope} {rs : List PySem.Expr} {b : ME} {bs : List ME} (h : cEs k sc rs = some (b :: bs)) : ∃ r t,rs = r :: t ∧ zO r = true ∧ cE k sc r = some b ∧ cEs k sc t = some bs:=by
 cases rs with
 | nil=>cases h
 | cons r t =>
  obtain ⟨a,b',p1,p2,p3,e⟩:=jf h
  obtain ⟨rfl,rfl⟩:=List.cons.inj e
  exact ⟨r,t,rfl,p1,p2,p3⟩
theorem zfl {k : Nat} {sc : Scope} {ops : List CmpOp} {rs : List PySem.Expr} {a m : ME} {bs : List ME} (hb : cEs k sc rs = some bs) (h : zti ops a bs = some m) :
  (∃ op r b,ops = [op] ∧ rs = [r] ∧ zO r = true ∧ cE k sc r = some b ∧ m = .cmp op a b) ∨
  (∃ o1 o2 r1 r2 b c,ops = [o1,o2] ∧ rs = [r1,r2] ∧ zO r2 = true ∧ cE k sc r1 = some b ∧ cE k sc r2 = some c ∧ m = .cmp2 o1 o2 a b c):=by
 cases ops with
 | nil=>exact zd h
 | cons o1 os =>
  cases os with
  | nil =>
   revert h;refine zk fun b h1 h=>?_
   obtain rfl:=yE h1
   obtain ⟨r,t,rfl,p1,p2,p3⟩:=ql hb
   obtain rfl:=wM p3
   exact .inl ⟨o1,r,b,rfl,rfl,p1,p2,(Option.some.inj h).symm⟩
  | cons o2 os =>
   revert h;refine zk fun o h0=>zk fun p h1 h=>?_
   have h0:=yE h0
   obtain ⟨rfl,rfl⟩:=List.cons.inj h0
   obtain rfl:=yS h1
   obtain ⟨r,t,rfl,p1,p2,p3⟩:=ql hb
   obtain ⟨r',t',rfl,q1,q2,q3⟩:=ql p3
   obtain rfl:=wM q3
   exact .inr ⟨o1,o2,r,r',_,_,rfl,rfl,q1,p2,q2,(Option.some.inj h).symm⟩
set_option tactic.hygienic true in
theorem zgg {e : PySem.Expr} {env : Env} {t : Sem Value} (h : zcp e = 0) : isTrue e env t = (t >>= fun v=>standAt e.pos >>= fun uu=>holding [v] (truthy v)):=by
 cases e <;> first | rfl | exact absurd h Bool.false_ne_true | (cases h;done) | skip
 rename_i op x pos
 cases op <;> first | rfl | exact absurd h Bool.false_ne_true | cases h
section
variable {prog : Program} {A : Around} {w : World} {B : Heap} {ρ ρ' δ : List Addr} {H H' : Hp} {s s₁ : Shared} {h h' : Heap} {E : Value → Shared → Prop} {P : Prg} {K : Frag} {env : Env} {L : Loc} {n : Nat} {v : PV} {m : ME} {b : Bool} {Q : Bool → Shared → Prop}
theorem zgi (T : TopK prog w K B P) (h1 : ∀ m ≤ n,EOk prog w B P m) {l : PySem.Expr} {ops : List CmpOp} {rs : List PySem.Expr} {pos : Pos} {k : Nat} (hc : cE k env.scope (.Compare l ops rs pos) = some m)
  (he : evE P n m L H = some (.bool b,H')) (R : Rel prog w B ρ H s.heap) (V : EnvOk B env ρ s.heap) (W : VarsOk env ρ s.heap L) (Rm : Room A (n + 1)) (hQ : PostB prog w B ρ s H' b Q) :
  wpN (model prog w) A (eval l env >>= fun a=>testChain pos a ops (markedEach ops rs (evalEach rs env))) Q E s:=by
 cases n with
 | zero=>exact zd he
 | succ n =>
  have g1 : EOk prog w B P n:=h1 n (Nat.le_succ _)
  have Rm' : Room A (n + 1):=Rm.down
  refine vX hc fun k uu hc=>?_
  revert hc;refine zk fun a ha=>zk fun bs hb hc=>?_
  have fin : ∀ {s' : Shared} {δ : List Addr} {k : Nat} {r : Bool} {H3 : Hp},some (PV.bool r,H3) = some (.bool b,H') → Ext ρ [] s s' δ → Rel prog w B (ρ ++ δ) H3 s'.heap → Q r { s' with toks:=k }:=fun {s' δ k r H3} e x R'=>by
   obtain ⟨e1,rfl⟩:=z6 e
   obtain rfl:=zq5 e1
   exact ((hQ.after x).tk k).same R'
  rcases zfl hb hc with ⟨op,r,b',rfl,rfl,hp,hb,rfl⟩ | ⟨o1,o2,r1,r2,b',c,rfl,rfl,hp,hb,hc2,rfl⟩
  ·revert he;refine zC fun x H1 e1=>zC fun y H2 e2=>zk fun c hc' he=>?_
   show wpN _ _ (eval l env >>= fun a=>testChain pos a [op] (markedEach [op] [r] [eval r env])) _ _ _
   rw [qc hp]
   exact vD (X:=fun v1 rv=>standAt pos >>= fun uu=>operate [v1,rv] (compareOp op v1 rv) >>= fun c=>holding [c] (truthy c)) g1 ha hb e1 e2 R V W Rm' fun s2 δ v1 v2 x2 R2 r1 r2 =>
    zb (zl (zm (wpAny_operating (kj T Rm' R2 r1 r2 hc' fun k=>wpN.of (wpAny_holding (wpAny_truthy_bool (fin he x2 R2)))))))
  ·revert he;refine zC fun x H1 e1=>zC fun y H2 e2=>zk fun t ht he=>?_
   show wpN _ _ (eval l env >>= fun a=>testChain pos a [o1,o2] (markedEach [o1,o2] [r1,r2] [eval r1 env,eval r2 env])) _ _ _
   rw [kF hp]
   refine vD (X:=fun v1 rv=>standAt pos >>= fun uu=>holding [v1,rv] (compareOp o1 v1 rv) >>= fun c=>release [v1,rv] [c] >>= fun uu =>
    holding [c,rv] (truthy c) >>= fun t=>if t = true then testChain pos rv [o2] [eval r2 env] else pure false) g1 ha hb e1 e2 R V W Rm' fun s2 δ v1 v2 x2 R2 q1 q2=>?_
   refine zb (zl (zm (wpAny_holding (kj T Rm' R2 q1 q2 ht fun k=>zm (wpAny_release (zm (wpAny_holding (wpAny_truthy_bool ?_))))))))
   have V2:=V.step x2
   have W2:=W.step V x2
   revert he;refine jh (fun ht he=>yk ht ?_) fun ht he=>zF ht ?_
   ·revert he;refine zC fun z H3 e3=>zk fun cr hcr he=>?_
    have x2':=x2.seq ((Still.toks k).ext0 (ρ:=ρ ++ δ))
    rw [List.append_nil] at x2'
    refine zb (f:=fun rv=>standAt pos >>= fun uu=>operate [v2,rv] (compareOp o2 v2 rv) >>= fun c=>holding [c] (truthy c)) (zp (g1 (s:={ s2 with toks:=k }) hc2 e3 R2 V2 W2 Rm'.down fun s3 δ3 v3 x3 R3 q3=>?_))
    have R3':=R3
    rw [List.append_assoc] at R3'
    exact zb (zl (zm (wpAny_operating (kj T Rm' R3 (x3.vr (s:={ s2 with toks:=k }) q2) q3 hcr fun k'=>wpN.of (wpAny_holding (wpAny_truthy_bool (fin he (x2'.seq x3) R3')))))))
   ·obtain rfl:=ht
    exact zg (fin he x2 R2)
noncomputable def zhb (m : ME) : Bool:=match zhi m with
 | 0=>true
 | 4=>true
 | _=>false
theorem zbd {m : ME} (h : zhb m = true) : evC P (n + 1) m L H = bnB (evE P n m L H) fun b H1=>some (b,H1):=by
 cases m <;> first | rfl | exact absurd h Bool.false_ne_true | cases h
theorem c_ok (T : TopK prog w K B P) (h1 : ∀ m ≤ n,EOk prog w B P m) (h2 : COk prog w B P n) (h3 : CsOk prog w B P n) : COk prog w B P (n + 1):=by
 intro A ρ H H' s E env L k e m b Q hc he R V W Rm hQ
 have hk:=zsl hc
 have plain : zcp e = 0 → wpN (model prog w) A (isTrue e env (eval e env)) Q E s:=fun hm=>by
  rw [hm] at hk
  rw [zbd (by unfold zhb;rw [hk];rfl)] at he
  revert he;refine zka fun b' H1 e1 he=>?_
  replace hQ:=hQ.eq2 he
  rw [zgg hm]
  refine zb (h1 n (Nat.le_refl _) hc e1 R V W Rm.down fun s1 δ1 v1 x1 R1 r1=>?_)
  obtain rfl:=r1
  exact zb (zl (wpN.of (wpAny_holding (wpAny_truthy_bool ((hQ.after x1).same R1)))))
 cases e with
 | UnaryOp op x pos =>
  cases op with
  | Not =>
   refine vX hc fun k uu hc=>?_
   revert hc;refine zk fun a ha hc=>?_
   obtain rfl:=Option.some.inj hc
   revert he;refine zC fun b' H1 e1 he=>?_
   replace hQ:=hQ.eq2 he
   exact zb (m:=isTrue x env (eval x env)) (f:=fun c=>pure (!c)) (h2 ha e1 R V W Rm.down fun s1 δ1 x1 R1=>zg ((hQ.after x1).same R1))
  | _=>exact plain rfl
 | BoolOp op vs pos =>
  refine vX hc fun k uu hc=>?_
  revert hc;refine zk fun l hl hc=>?_
  obtain rfl:=Option.some.inj hc
  exact h3 hl he R V W Rm.down hQ
 | IfExp c x y pos =>
  refine vX hc fun k uu hc=>?_
  revert hc;refine zk fun uu uu=>zk fun uu uu=>zk fun uu uu hc=>?_
  obtain rfl:=Option.some.inj hc
  exact zd he
 | Compare l ops rs pos =>
  rw [zbd (by unfold zhb;rw [hk];rfl)] at he
  revert he;refine zka fun b' H1 e1 he=>?_
  replace hQ:=hQ.eq2 he
  exact zgi T h1 hc e1 R V W Rm hQ
 | _=>exact plain rfl
end
end Mine
namespace Mine
open PySem PySem.W PyProof.Rows PySem.Spec
section
variable {prog : Program} {A : Around} {w : World} {B : Heap} {ρ ρ' δ : List Addr} {H H' : Hp} {s s₁ : Shared} {h h' : Heap} {E : Value → Shared → Prop} {P : Prg} {K : Frag} {env : Env} {L : Loc} {n : Nat} {v : PV} {m : ME} {b : Bool} {Q : Value → Shared → Prop}
theorem zlj {f : Value} {args : List (Bool × Sem Value)} {Q : Args → Shared → Prop} (ha : args.any (·.1) = false) (h : wpN (model prog w) A (spliced args) (fun vs s'=>Q ⟨vs,[]⟩ s') E s) : wpN (model prog w) A (evalArgs f true args []) Q E s:=by
 unfold evalArgs
 have go : wpN (model prog w) A (spliced args >>= fun vs=>pure (vs,(none : Option Value)) >>= fun (pl : List Value × Option Value)=>holding (pl.1 ++ pl.2.toList) (do
   let kw:=((([] : List (Option Str × Sem Value)).filterMap (·.1)).zip (← evalAll (([] : List (Option Str × Sem Value)).map (·.2))))
   return (⟨← (match pl.2 with | none=>pure pl.1 | some s=>holding (kw.map (·.2)) (collect s)),kw⟩ : Args))) Q E s:=by
  refine zb (zW h (fun vs s' h'=>?_) fun uu uu x=>x)
  refine zb (zg (zp ?_))
  exact zb (zg (zb (zg (zg h'))))
 cases args with
 | nil =>
  show wpN _ _ (spliced [] >>= _) _ _ _
  refine zb (zW h (fun vs s' h'=>?_) fun uu uu x=>x)
  refine zb (zg (zp ?_))
  exact zb (zg (zb (zg (zg h'))))
 | cons x r =>
  obtain ⟨st,t⟩:=x
  cases st with
  | true=>simp at ha
  | false =>
   show wpN _ _ (spliced ((false,t) :: r) >>= _) _ _ _
   refine zb (zW h (fun vs s' h'=>?_) fun uu uu x=>x)
   refine zb (zg (zp ?_))
   exact zb (zg (zb (zg (zg h'))))
theorem kr {pos : Pos} {f : Value} {first : List Value} {args : List (Bool × Sem Value)} (ha : args.any (·.1) = false)
  (h : wpN (model prog w) A (spliced args) (fun vs s₁=>(∃ k,(k = Keeper.frame ∨ k = Keeper.machine) ∧ Looks (model prog w) s₁.heap (keeperOf f) k) ∧ wpN (model prog w) A (call f (first ++ vs)) Q E s₁) E s) :
  wpN (model prog w) A (callWith pos f first args []) Q E s:=by
 unfold callWith
 refine zb (zp (zlj ha (zW h (fun vs s₁ h₁=>?_) fun uu uu x=>x)))
 refine zb (zl ?_)
 obtain ⟨⟨k,hk',L⟩,hc⟩:=h₁
 rw [ha]
 refine zm (L.here ?_)
 have tail : ∀ {t : Sem Value},wpN (model prog w) A t Q E s₁ → wpN (model prog w) A (t >>= fun r=>holding [r] point >>= fun uu=>pure r) Q E s₁ :=
  fun ht=>zb (zW ht (fun r s₂ hr=>zb (zp (zah (zg hr)))) fun uu uu x=>x)
 have marked (mk : Value) : wpN (model prog w) A (callMarked mk f (first ++ vs) []) Q E s₁:=by unfold callMarked;exact zmf hc
 rcases hk' with rfl | rfl
 ·exact zqm (tail hc) (tail (marked _))
 ·exact tail hc
theorem zay (T : TopK prog w K B P) {f : PV} {vs : List PV} {fv : Value} (e : zs P n f vs H = some (v,H')) (hf : VR s.heap ρ f fv) (X : K.In s.heap) : ∃ k,(k = Keeper.frame ∨ k = Keeper.machine) ∧ Looks (model prog w) s.heap (keeperOf fv) k:=by
 rcases n with _ | _ | _ | n
 ·exact zd e
 ·exact zd e
 ·exact zd e
 ·cases f with
  | fn a =>
   obtain rfl:=hf
   exact vM e (fun fd hfd uu=>looks_keep (T.fnk a fd hfd) X) fun uu e=>zq e fun cd hcd uu=>looks_keep (T.cls a cd hcd).2 X
  | bi k =>
   obtain rfl:=hf
   refine ⟨.machine,.inr rfl,?_⟩
   unfold qV
   split <;> exact Looks.now
  | _=>exact zd e
theorem vK {l : List PySem.Expr} {pos : Pos} {k : Nat} {sc : Scope} {a : List ME} (h : cEs k sc l = some a) : (backTo pos (starEach l env)).any (·.1) = false:=by
 induction l generalizing a with
 | nil=>rfl
 | cons e r ih =>
  obtain ⟨a',b',p1,p2,p3,_⟩:=jf h
  rw [qz p1]
  exact ih p3
theorem zsj (T : TopK prog w K B P) (h1 : EOk prog w B P n) (h2 : EsOk prog w B P n) (h3 : CallOk prog w B P n) {f : PySem.Expr} {args : List PySem.Expr} {pos : Pos} {a : ME} {l : List ME} {k : Nat} (ha : cE k env.scope f = some a) (hl : cEs k env.scope args = some l)
  (hna : ∀ o name apos,f ≠ .Attribute o name apos) (he : evE P (n + 1) (.call a l) L H = some (v,H')) (R : Rel prog w B ρ H s.heap) (V : EnvOk B env ρ s.heap) (W : VarsOk env ρ s.heap L) (Rm : Room A (n + 1)) (hQ : Post prog w B ρ s H' v Q) :
  wpN (model prog w) A (eval (.Call f args [] pos) env) Q E s:=by
 revert he;refine zC fun fv H1 e1=>zC fun vs H2 e2 he=>?_
 have eq : eval (.Call f args [] pos) env = eval f env >>= fun fv=>callWith pos fv [] (backTo pos (starEach args env)) (backToKw pos (keywordEach [] env)):=by
  cases f <;> first | rfl | exact absurd rfl (hna _ _ _)
 rw [eq]
 refine zb (h1 ha e1 R V W Rm.down fun s1 δ1 v1 x1 R1 r1=>?_)
 refine kr (vK hl) (h2 hl e2 R1 (V.step x1) (W.step V x1) Rm.down fun s2 δ2 vals x2 R2 r2=>?_)
 exact ⟨zay T he (x2.vr r1) (T.kin' R2),h3 he R2 (x2.vr r1) r2 Rm.down ((hQ.after x1).after x2)⟩
theorem zp8 {o : MObj} {n : Nat} {i : Nat} {vs : List PV} {r : PV × Hp} (e : zer n i o vs H = some r) : ∃ id,bId o n = some id:=by
 cases o with
 | list l =>
  rcases n with _ | _ | _ | n
  ·exact ⟨_,rfl⟩
  ·exact ⟨_,rfl⟩
  ·exact ⟨_,rfl⟩
  ·exact zd e
 | dict es=>exact yp e fun h uu=>⟨_,wq h⟩
 | _=>exact zd e
theorem zp9 {o o' : MObj} {n : Nat} (h : Nat.beq (jv o) (jv o') = true) : bId o n = bId o' n:=by
 cases o <;> cases o' <;> first | rfl | exact absurd h Bool.false_ne_true
theorem zny (T : TopK prog w K B P) (h1 : EOk prog w B P n) (h2 : EsOk prog w B P n) (h3 : CallOk prog w B P n) {o : PySem.Expr} {name : Str} {apos pos : Pos} {args : List PySem.Expr} {a : ME} {x : Nat} {l : List ME} {k : Nat}
  (hb : jb o = true) (hp : (apos.endLine == pos.line) = true) (hlen : args.length < 20) (ha : cE k env.scope o = some a) (hx : nid name = some x) (hl : cEs k env.scope args = some l)
  (he : evE P (n + 1) (.meth a x l) L H = some (v,H')) (R : Rel prog w B ρ H s.heap) (V : EnvOk B env ρ s.heap) (W : VarsOk env ρ s.heap L) (Rm : Room A (n + 1)) (hQ : Post prog w B ρ s H' v Q) :
  wpN (model prog w) A (eval (.Call (.Attribute o name apos) args [] pos) env) Q E s:=by
 show wpN _ _ (attributeBase o name env (eval o env) >>= fun ov=>standAt apos.atName >>= fun uu=>methodCall o name apos pos env ov (args.length + 0) (backTo pos (starEach args env)) (backToKw pos (keywordEach [] env))) _ _ _
 rw [xK hb]
 have hpl:=vK (env:=env) (pos:=pos) hl
 have hall : (backTo pos (starEach args env)).all (fun x=>!x.1) = true:=by
  rw [List.all_eq_true]
  intro y hy
  have:=List.any_eq_false.mp hpl y hy
  simpa using this
 have form : methodCallForm (args.length + 0) (backTo pos (starEach args env)) (backToKw pos (keywordEach [] env)) = true:=by
  unfold methodCallForm
  rw [hall]
  show (true && true && decide (args.length + 0 + 0 < 30)) = true
  simp;exact zu1 hlen rfl
 revert he;refine bnL_k fun i H1 e1=>zk fun o1 hobj he=>?_
 refine zb (h1 ha e1 R V W Rm.down fun s1 δ1 v1 x1 R1 r1=>?_)
 refine zb (zl ?_)
 obtain ⟨ad,rfl,hi⟩:=r1
 unfold methodCall
 rw [form]
 have rest : ∀ {fx : Value × List Value},wpN (model prog w) A (callWith pos fx.1 fx.2 (backTo pos (starEach args env)) (backToKw pos (keywordEach [] env))) Q E s1 →
   wpN (model prog w) A (methodCallPos true o env apos pos >>= fun callPos=>callWith callPos fx.1 fx.2 (backTo pos (starEach args env)) (backToKw pos (keywordEach [] env))) Q E s1:=fun {fx} h=>by
  unfold methodCallPos
  rw [hp]
  exact zb (zg h)
 refine zm (wpAny_holding ?_)
 show wpAny _ _ (getMethod (.ref ad) name _) _ _ _
 revert he;refine jh (fun uu he=>?_) fun uu he=>?_
 ·revert he;refine zk fun c hc=>zk fun cd hcd=>zk fun fa hfa=>zk fun es hes=>zR fun hno=>zC fun vs H2 e2 he=>?_
  obtain rfl:=xp hc
  have hno : dictGet x es = none:=by
   cases q : dictGet x es with
   | none=>rfl
   | some _=>rw [q] at hno;cases hno
  refine zrj (fun a cd h=>(T.cls a cd h).1) (T.kin' R1) R1 hi hx hobj hcd hfa (xa hes) hno (rest (fx:=(.ref fa,[.ref ad])) ?_)
  refine kr hpl (h2 hl e2 R1 (V.step x1) (W.step V x1) Rm.down fun s2 δ2 vals x2 R2 r2=>?_)
  exact ⟨zay T he (f:=.fn fa) (fv:=.ref fa) (ρ:=(ρ ++ δ1) ++ δ2) rfl (T.kin' R2),h3 he R2 rfl (VRs.cons (x2.vr (x:=.loc i) ⟨ad,rfl,hi⟩) r2) Rm.down ((hQ.after x1).after x2)⟩
 ·revert he;refine zC fun vs H2 e2=>zk fun o2 ho2=>zR fun hkk he=>?_
  obtain ⟨id,hid⟩:=zp8 he
  rw [yT hx]
  refine zcm R1 hobj hi ((zp9 hkk).trans hid) (rest (fx:=(.builtin id,[.ref ad])) ?_)
  refine kr hpl (h2 hl e2 R1 (V.step x1) (W.step V x1) Rm.down fun s2 δ2 vals x2 R2 r2=>?_)
  exact ⟨⟨.machine,.inr rfl,Looks.now⟩,wpN.of (znz (by have:=Rm.units;lia) T.sys R2 ho2 (hi.keep x2.k) hid r2 he ((hQ.after x1).after x2))⟩
end
end Mine
namespace Mine
open PySem PySem.W PyProof.Rows PySem.Spec
theorem HidA.ext {ρ δ : List Addr} {a : Addr} {i : Nat} (h : HidA ρ a i) (n : a ∉ δ) : HidA (ρ ++ δ) a i:=by
 obtain ⟨h1,h2,h3⟩:=h
 refine ⟨by rw [List.getElem?_append_left (List.getElem?_eq_some_iff.mp h1).1];exact h1,by rw [List.getElem?_append_left (List.getElem?_eq_some_iff.mp h2).1];exact h2,fun j hj=>?_⟩
 by_cases l : j < ρ.length
 ·rw [List.getElem?_append_left l] at hj;exact h3 j hj
 ·rw [List.getElem?_append_right (Nat.le_of_not_lt l)] at hj
  exact absurd (List.mem_of_getElem? hj) n
theorem HidA.mem {ρ : List Addr} {a : Addr} {i : Nat} (h : HidA ρ a i) : a ∈ ρ:=List.mem_of_getElem? h.1
theorem HidA.free {ρ : List Addr} {a : Addr} {i : Nat} (h : HidA ρ a i) : Free ρ a:=fun j e=>by
 rcases h.2.2 j e with rfl | rfl
 ·exact ⟨j + 1,Nat.succ_ne_self j,h.2.1⟩
 ·exact ⟨i,(Nat.succ_ne_self i).symm,h.1⟩
section
variable {prog : Program} {A : Around} {w : World} {B : Heap} {ρ ρ' δ : List Addr} {H H' : Hp} {s s₁ : Shared} {h h' : Heap} {E : Value → Shared → Prop} {P : Prg} {K : Frag} {env : Env} {L : Loc} {n : Nat} {v : PV} {m : ME} {b : Bool} {Q : Value → Shared → Prop}
theorem Rel.hide (R : Rel prog w B ρ H s.heap) {a : Addr} {h' : Heap} (t : Nat) (ha : s.heap.get? a = none) (hk : ∀ b o,s.heap.get? b = some o → h'.get? b = some o) (hg : h'.get? a ≠ none) :
  Rel prog w B (ρ ++ [a,a]) (H ++ [.hid,.hid]) h' ∧ Ext ρ [] s { s with heap:=h',toks:=t } [a,a] ∧ HidA (ρ ++ [a,a]) a ρ.length:=by
 have st : Still [] s { s with heap:=h',toks:=t }:=Still.kept t hk
 have na : a ∉ ρ:=R.off' ha
 have e : Ext ρ [] s { s with heap:=h',toks:=t } [a,a] :=
  ⟨fun b o g uu x=>hk b o g,fun b o g uu uu=>hk b o g,fun b m=>by simp at m;rw [m];exact ha,st.gone,rfl,rfl,rfl⟩
 refine ⟨⟨fun b o g=>hk b o (R.base b o g),by rw [List.length_append,List.length_append,R.len];rfl,fun b m=>?_,fun i m b g q=>?_⟩,e,?_⟩
 ·rcases List.mem_append.mp m with m | m
  ·exact R.fresh b m
  ·simp at m;rw [m];exact R.bnone ha
 ·by_cases l : i < H.length
  ·rw [List.getElem?_append_left l] at g
   rw [List.getElem?_append_left (by rw [R.len];exact l)] at q
   obtain ⟨o,ho,hr⟩:=R.obj i m b g q
   exact ⟨o,hk b o ho,hr.keep e.k⟩
  ·have l' : H.length ≤ i:=Nat.le_of_not_lt l
   replace g:=(List.getElem?_append_right l') ▸ g
   rw [List.getElem?_append_right (by rw [R.len];exact l'),R.len] at q
   have hb : b = a:=by simpa using List.mem_of_getElem? q
   have hm : m = .hid:=by simpa using List.mem_of_getElem? g
   subst hb hm
   cases z : h'.get? b with
   | none=>exact absurd z hg
   | some o=>exact ⟨o,rfl,ze8 z⟩
 ·refine ⟨by rw [List.getElem?_append_right (Nat.le_refl _),Nat.sub_self];rfl,by rw [List.getElem?_append_right (Nat.le_succ _)];simp,fun j hj=>?_⟩
  by_cases l : j < ρ.length
  ·rw [List.getElem?_append_left l] at hj
   exact absurd (List.mem_of_getElem? hj) na
  ·rw [List.getElem?_append_right (Nat.le_of_not_lt l)] at hj
   have:=(List.getElem?_eq_some_iff.mp hj).1
   simp at this
   lia
noncomputable def zkj (k : Nat) : PySem.Expr → Bool:=match k with
 | 0=>xk
 | 1=>xk
 | _=>zom
noncomputable def qf (k : Nat) : List MObj:=match k with
 | 3=>[.hid,.hid]
 | _=>[]
structure Start (prog : Program) (w : World) (B : Heap) (k : Nat) (ρ : List Addr) (s : Shared) (H : Hp) (l : List PV) (it : Value) (s' : Shared) (δ : List Addr) : Prop where
 ext : Ext ρ [] s s' δ
 rel : Rel prog w B (ρ ++ δ) (H ++ qf k) s'.heap
 len : ρ.length ≤ H.length
 go : ∃ PR HD St,(∀ A' : Around,A'.handled = none → Iter prog w A' (zkj k) it PR HD St) ∧ St l (ρ ++ δ) s'.heap ∧ (∀ a ∈ PR,s.heap.get? a = none ∧ B.get? a = none ∧ s'.heap.get? a ≠ none) ∧ ((k ≠ 3 ∧ HD = []) ∨ (k = 3 ∧ ∃ a,HD = [a] ∧ HidA (ρ ++ δ) a H.length))
theorem zkn (hh : A.handled = none) {l : List PV} {xv : Value} {k : Nat} (hk : k = 0) (R : Rel prog w B ρ H s.heap) (r : VR s.heap ρ (.lst l) xv) (hQ : ∀ it s',Start prog w B k ρ s H l it s' [] → Q it s') : wpAny (model prog w) A (pyIter xv) Q E s:=by
 subst hk
 obtain ⟨a,vs,rfl,n,h1,h2⟩:=r
 refine wpAny_pyIter_list (h1 : s.heap.IsList a vs.toArray) ?_
 have st : Still [] s { s with heap:=s.heap.push { cls:=.type "list_iterator",data:=.fields #[.ref a,.int 0 0] },toks:=s.toks }:=Still.push _ _
 have x:=st.ext0 (ρ:=ρ)
 have R':=R.still0 st
 have z:=VRs.keep (st.k (ρ:=ρ) fun uu h=>(nomatch h)) _ _ h2
 refine hQ _ _ ⟨x,by simpa [qf] using R',Nat.le_of_eq R.len,[s.heap.objs.size],[],LSt s.heap.objs.size,fun A' hA=>zol hA _,⟨a,l,vs,0,⟨_,Heap.get?_push_size _ rfl,rfl,rfl⟩,by rw [List.append_nil];exact R.off (Nat.le_refl _),
  h1.keep (st.k (ρ:=ρ) fun uu h=>(nomatch h)) n,by rw [List.append_nil];exact n,z,rfl⟩,fun b hb=>by rw [List.mem_singleton.mp hb];exact ⟨zU _,R.bsize (Nat.le_refl _),by show (s.heap.push _).get? _ ≠ none;rw [Heap.get?_push_size _ rfl];exact fun q=>nomatch q⟩,.inl ⟨by decide,rfl⟩⟩
theorem zkm (hh : A.handled = none) {l : List PV} {xv : Value} {k : Nat} (hk : k = 0) (R : Rel prog w B ρ H s.heap) (r : VR s.heap ρ (.tup l) xv) (hQ : ∀ it s',Start prog w B k ρ s H l it s' [] → Q it s') : wpAny (model prog w) A (pyIter xv) Q E s:=by
 subst hk
 obtain ⟨a,vs,rfl,n,h1,h2⟩:=r
 refine wpAny_pyIter_tuple (h1 : s.heap.IsTuple a vs.toArray) ?_
 have st : Still [] s { s with heap:=s.heap.push { cls:=.type "tuple_iterator",data:=.fields #[.ref a,.int 0 0] },toks:=s.toks }:=Still.push _ _
 have x:=st.ext0 (ρ:=ρ)
 have R':=R.still0 st
 have z:=VRs.keep (st.k (ρ:=ρ) fun uu h=>(nomatch h)) _ _ h2
 refine hQ _ _ ⟨x,by simpa [qf] using R',Nat.le_of_eq R.len,[s.heap.objs.size],[],TSt s.heap.objs.size,fun A' hA=>zok hA _,⟨a,l,vs,0,⟨_,Heap.get?_push_size _ rfl,rfl,rfl⟩,by rw [List.append_nil];exact R.off (Nat.le_refl _),
  h1.keep (st.k (ρ:=ρ) fun uu h=>(nomatch h)) n,by rw [List.append_nil];exact n,z,rfl⟩,fun b hb=>by rw [List.mem_singleton.mp hb];exact ⟨zU _,R.bsize (Nat.le_refl _),by show (s.heap.push _).get? _ ≠ none;rw [Heap.get?_push_size _ rfl];exact fun q=>nomatch q⟩,.inl ⟨by decide,rfl⟩⟩
theorem zd4 (hh : A.handled = none) {l : List UInt8} {xv : Value} {k : Nat} (hk : k = 0) (R : Rel prog w B ρ H s.heap) (r : VR s.heap ρ (.bytes l) xv) (hQ : ∀ it s',Start prog w B k ρ s H (l.map fun x=>.int x.toNat) it s' [] → Q it s') : wpAny (model prog w) A (pyIter xv) Q E s:=by
 subst hk
 obtain ⟨t,rfl⟩:=r
 refine KBw.pyIter_bytes ?_
 have st : Still [] s { s with heap:=s.heap.push { cls:=.type "bytes_iterator",data:=.fields #[.bytes l.toArray t,.int 0 0] },toks:=s.toks }:=Still.push _ _
 have x:=st.ext0 (ρ:=ρ)
 have R':=R.still0 st
 refine hQ _ _ ⟨x,by simpa [qf] using R',Nat.le_of_eq R.len,[s.heap.objs.size],[],BSt s.heap.objs.size,fun A' hA=>zhp hA _,⟨l,t,0,⟨_,Heap.get?_push_size _ rfl,rfl,rfl⟩,by rw [List.append_nil];exact R.off (Nat.le_refl _),rfl⟩,
  fun b hb=>by rw [List.mem_singleton.mp hb];exact ⟨zU _,R.bsize (Nat.le_refl _),by show (s.heap.push _).get? _ ≠ none;rw [Heap.get?_push_size _ rfl];exact fun q=>nomatch q⟩,.inl ⟨by decide,rfl⟩⟩
theorem zd3 (hh : A.handled = none) {a b c : Int} {t u z : Tok} {r : Addr} {k : Nat} {l : List PV} (hk : k = 1) (R : Rel prog w B ρ H s.heap) (hr : IsRange s.heap r a b c t u z) (hs : Builtin.Range.small a b c = true)
  (hl : z7 (Builtin.Range.rangeSize a b c).toNat (fun i=>a + c * i) = l) (hQ : ∀ it s',Start prog w B k ρ s H l it s' [] → Q it s') : wpAny (model prog w) A (pyIter (.ref r)) Q E s:=by
 subst hk
 refine wpAny_pyIter_range hr hs ?_
 have st : Still [] s { s with heap:=s.heap.push { cls:=.type "range_iterator",data:=.fields #[rawInt a,rawInt (Builtin.Range.rangeSize a b c),rawInt c] },toks:=s.toks }:=Still.push _ _
 have x:=st.ext0 (ρ:=ρ)
 have R':=R.still0 st
 refine hQ _ _ ⟨x,by simpa [qf] using R',Nat.le_of_eq R.len,[s.heap.objs.size],[],RSt s.heap.objs.size,fun A' hA=>zho hA _,⟨a,Builtin.Range.rangeSize a b c,c,Heap.get?_push_size _ rfl,by rw [List.append_nil];exact R.off (Nat.le_refl _),hl⟩,
  fun b hb=>by rw [List.mem_singleton.mp hb];exact ⟨zU _,R.bsize (Nat.le_refl _),by show (s.heap.push _).get? _ ≠ none;rw [Heap.get?_push_size _ rfl];exact fun q=>nomatch q⟩,.inl ⟨by decide,rfl⟩⟩
theorem Start.after {k : Nat} {l : List PV} {it : Value} {s' : Shared} {δ' : List Addr} (x : Ext ρ [] s s₁ δ) (S : Start prog w B k (ρ ++ δ) s₁ H l it s' δ') : Start prog w B k ρ s H l it s' (δ ++ δ'):=by
 obtain ⟨h1,h2,hl,PR,HD,St,h3,h4,h5,h6⟩:=S
 exact ⟨x.seq h1,by rw [← List.append_assoc];exact h2,by rw [List.length_append] at hl;lia,PR,HD,St,h3,by rw [← List.append_assoc];exact h4,fun a ha=>⟨x.gone a (h5 a ha).1,(h5 a ha).2⟩,by rw [← List.append_assoc];exact h6⟩
end
end Mine
namespace Mine
open PySem PySem.W PyProof.Rows PySem.Spec
theorem qF (a : Int) : Builtin.Range.rangeSize a (-1) (-1) = if a > -1 then a + 1 else 0:=by
 unfold Builtin.Range.rangeSize
 rw [if_neg (by decide)]
 by_cases h : a > -1
 ·rw [if_pos h,if_pos h]
  have : -(-1 : Int) = 1:=by decide
  rw [this,Int.ediv_one];lia
 ·rw [if_neg h,if_neg h]
theorem zgr {a : Int} (h1 : -1 ≤ a) (h2 : a ≤ 1000) : Builtin.Range.small a (-1) (-1) = true:=by
 unfold Builtin.Range.small
 rw [qF]
 simp only [Builtin.Range.rangeFitsLong,Bool.and_eq_true,Bool.or_eq_true,decide_eq_true_eq,beq_iff_eq,show ¬ ((-1 : Int) > 0) by decide,if_false]
 split <;> lia
section
variable {prog : Program} {A : Around} {w : World} {B : Heap} {ρ ρ' δ : List Addr} {H H' H1 : Hp} {s s₁ : Shared} {h h' : Heap} {E : Value → Shared → Prop} {P : Prg} {K : Frag} {env : Env} {L : Loc} {n : Nat} {v : PV} {m : ME} {b : Bool} {Q : Value → Shared → Prop}
theorem zlt (hE : ∀ m ≤ n,EOk prog w B P m) (hEs : ∀ m ≤ n,EsOk prog w B P m) {f : PySem.Expr} {args : List PySem.Expr} {pos : Pos} {a : ME} {l : List ME} {k : Nat} {fv : PV} {vs : List PV} (hna : ∀ o name apos,f ≠ .Attribute o name apos)
  (ha : cE k env.scope f = some a) (hl : cEs k env.scope args = some l) (he : yO P n (a :: l) L H = some (fv :: vs,H1)) (R : Rel prog w B ρ H s.heap) (V : EnvOk B env ρ s.heap) (W : VarsOk env ρ s.heap L) (Rm : Room A n)
  (hQ : ∀ s' δ fval vals,Ext ρ [] s s' δ → Rel prog w B (ρ ++ δ) H1 s'.heap → VR s'.heap (ρ ++ δ) fv fval → VRs s'.heap (ρ ++ δ) vs vals → Looks (model prog w) s'.heap (keeperOf fval) Keeper.machine ∧ wpN (model prog w) A (call fval vals) Q E s') :
  wpN (model prog w) A (eval (.Call f args [] pos) env) Q E s:=by
 cases n with
 | zero=>exact zd he
 | succ n =>
  revert he;refine zC fun x H2 e1=>zC fun vs' H3 e2 he=>?_
  obtain ⟨he1,rfl⟩:=z6 he
  obtain ⟨rfl,rfl⟩:=List.cons.inj he1
  have eq : eval (.Call f args [] pos) env = eval f env >>= fun fv=>callWith pos fv [] (backTo pos (starEach args env)) (backToKw pos (keywordEach [] env)):=by
   cases f <;> first | rfl | exact absurd rfl (hna _ _ _)
  rw [eq]
  refine zb (hE n (Nat.le_succ _) ha e1 R V W Rm.down fun s1 δ1 v1 x1 R1 r1=>?_)
  refine kr (vK hl) (hEs n (Nat.le_succ _) hl e2 R1 (V.step x1) (W.step V x1) Rm.down fun s2 δ2 vals x2 R2 r2=>?_)
  obtain ⟨q1,q2⟩:=hQ s2 (δ1 ++ δ2) v1 vals (x1.seq x2) (by rw [← List.append_assoc];exact R2) (by rw [← List.append_assoc];exact x2.vr r1) (by rw [← List.append_assoc];exact r2)
  exact ⟨⟨_,.inr rfl,q1⟩,q2⟩
theorem zhq {e : PySem.Expr} {q : PySem.Expr × List PySem.Expr × Pos} (hq : zj7 e = some q) (h : zL e ≠ 0) : ∃ id p,q.1 = .Name id p:=by
 unfold zL at h
 rw [hq] at h
 cases hn : wj q.1 with
 | none=>exact absurd (show kv (wj q.1) (fun n=>zta n.1) 0 = 0 by rw [hn];rfl) h
 | some n=>exact ⟨_,_,jq hn⟩
theorem zfd {n : Nat} {a : ME} {vs : List PV} (he : yO P n [a] L H = some (vs,H1)) : ∃ n' v,n = n' + 1 ∧ vs = [v] ∧ evE P n' a L H = some (v,H1):=by
 cases n with
 | zero=>exact zd he
 | succ n =>
  revert he;refine zC fun v H2 e1=>zC fun vs' H3 e2 he=>?_
  obtain ⟨rfl,rfl⟩:=z6 he
  cases n with
  | zero=>exact zd e2
  | succ n=>obtain ⟨rfl,rfl⟩:=z6 e2;exact ⟨_,v,rfl,rfl,e1⟩
theorem yQ {k : Nat} {vs r : List PV} (h : zbt k vs = some r) : vs = .bi k :: r:=by
 cases vs with
 | nil=>exact zd h
 | cons f t =>
  revert h;refine zR fun hb h=>?_
  obtain rfl:=Option.some.inj h
  cases f with
  | bi j=>rw [Nat.eq_of_beq_eq_true hb]
  | _=>cases hb
theorem zef (hh : A.handled = none) {a b c : Int} {t1 t2 t3 : Tok} {tk : Nat} {l : List PV} {Q : Value → Shared → Prop} (R : Rel prog w B ρ H s.heap) (hs : Builtin.Range.small a b c = true) (hl : z7 (Builtin.Range.rangeSize a b c).toNat (fun i=>a + c * i) = l)
  (hQ : ∀ it s',Start prog w B 1 ρ s H l it s' [] → Q it s') : wpAny (model prog w) A (pyIter (.ref s.heap.objs.size)) Q E { s with heap:=s.heap.push { cls:=.type "range",data:=.fields #[.int a t1,.int b t2,.int c t3] },toks:=tk }:=by
 have st : Still [] s { s with heap:=s.heap.push { cls:=.type "range",data:=.fields #[.int a t1,.int b t2,.int c t3] },toks:=tk }:=Still.push _ _
 refine zd3 (ρ:=ρ) (s:={ s with heap:=s.heap.push { cls:=.type "range",data:=.fields #[.int a t1,.int b t2,.int c t3] },toks:=tk }) hh rfl (R.still0 st) (Heap.get?_push_size _ rfl) hs hl fun it s' S=>hQ it s' ?_
 have S' : Start prog w B 1 ρ s H _ it s' ([] ++ []):=Start.after st.ext0 (by rw [List.append_nil];exact S)
 exact S'
theorem wm {n m : Nat} {f g : Nat → Int} (h : n = m) (h2 : ∀ i,f i = g i) : z7 n f = z7 m g:=by
 obtain rfl:=h
 rw [show f = g from funext h2]
theorem zkz {z : Int} {tk : Tok} (hh : A.handled = none) (g : z ≤ 1000 ∧ -1000 ≤ z) (R : Rel prog w B ρ H s.heap) (hQ : ∀ it s' δ,Start prog w B 1 ρ s H (z7 z.toNat fun i=>(i : Int)) it s' δ → Q it s') :
  wpN (model prog w) A (call (qV 8) [.int z tk]) (fun xv s1=>wpN (model prog w) A (pyIter xv) Q E s1) E s:=by
 refine wpN.of (call_range_1 (wpN.of (zef hh R (small_one (by lia) (by lia) (by lia) (by lia)) ?_ fun it s' S=>hQ it s' _ S)))
 rw [rangeSize_one]
 exact wm (by split <;> lia) fun i=>by lia
theorem zky {z : Int} {t1 t2 t3 : Tok} (hh : A.handled = none) (g1 : z ≤ 1000) (g2 : -1 ≤ z) (R : Rel prog w B ρ H s.heap) (hQ : ∀ it s' δ,Start prog w B 1 ρ s H (z7 (z + 1).toNat fun i=>z - (i : Int)) it s' δ → Q it s') :
  wpN (model prog w) A (call (qV 8) [.int z t1,.int (-1) t2,.int (-1) t3]) (fun xv s1=>wpN (model prog w) A (pyIter xv) Q E s1) E s:=by
 refine wpN.of (call_range_3 (by decide) (wpN.of (zef hh R (zgr g2 g1) ?_ fun it s' S=>hQ it s' _ S)) (Or.inl (PyProof.noPylong_small (by decide))))
 rw [qF]
 exact wm (by split <;> lia) fun i=>by lia
theorem zr2 {la : Addr} {ws : List Value} {l0 : List PV} (R : Rel prog w B ρ H s.heap) (h1 : SeqAt s.heap la "list" ws.toArray) (hn : la ∉ ρ) (h2 : VRs s.heap ρ l0 ws) (hQ : ∀ it s' δ,Start prog w B 2 ρ s H (jF 0 l0) it s' δ → Q it s') :
  wpN (model prog w) A (call (qV 9) [.ref la]) (fun xv s1=>wpN (model prog w) A (pyIter xv) Q E s1) E s:=by
 refine wpN.of (call_enumerate_list (h1 : s.heap.IsList la ws.toArray) fun h' g1 g2 g3 g4=>?_)
 refine wpN.of (wpAny_pyIter_enum (s:={ s with heap:=h' }) g1 ?_)
 have st : Still [] s { s with heap:=h',toks:=s.toks }:=Still.kept _ g4
 have z:=VRs.keep (st.k (ρ:=ρ) fun uu h=>(nomatch h)) _ _ h2
 have h1':=h1.keep (st.k (ρ:=ρ) fun uu h=>(nomatch h)) hn
 have nn0 : s.heap.get? (s.heap.objs.size + 1) = none:=by
  cases q : s.heap.get? (s.heap.objs.size + 1) with
  | none=>rfl
  | some o=>exact absurd (Heap.lt_size q) (Nat.not_lt.mpr (Nat.le_succ _))
 have S : Start prog w B 2 ρ s H _ (.ref (s.heap.objs.size + 1)) { s with heap:=h' } []:=⟨st.ext0,by have:=R.still0 st;simpa [qf] using this,Nat.le_of_eq R.len,[s.heap.objs.size + 1,s.heap.objs.size],[],ESt (s.heap.objs.size + 1) s.heap.objs.size,
  fun A' hA=>zle hA _ _ (Nat.succ_ne_self _),⟨⟨la,l0,ws,0,.none⟩,g1,g2,by rw [List.append_nil];exact R.off' nn0,by rw [List.append_nil];exact R.off (Nat.le_refl _),h1',by rw [List.append_nil];exact hn,z,rfl⟩,
  fun b hb=>by
   rcases List.mem_cons.mp hb with rfl | hb
   ·exact ⟨nn0,R.bnone nn0,by show h'.get? _ ≠ none;rw [g1];exact fun q=>nomatch q⟩
   ·rw [List.mem_singleton.mp hb];exact ⟨zU _,R.bsize (Nat.le_refl _),by obtain ⟨o,ho,_⟩:=g2;show h'.get? _ ≠ none;rw [ho];exact fun q=>nomatch q⟩,.inl ⟨by decide,rfl⟩⟩
 exact hQ _ _ _ S
noncomputable def zpOf (n la lb : Addr) : ZP:=⟨n + 4,n + 2,n + 3,n,n + 1,la,lb⟩
theorem ztm {la lb : Addr} {ws us : List Value} {l1 l2 : List PV} (R : Rel prog w B ρ H s.heap) (h1 : SeqAt s.heap la "list" ws.toArray) (hn : la ∉ ρ) (h2 : VRs s.heap ρ l1 ws) (h1' : SeqAt s.heap lb "list" us.toArray) (hn' : lb ∉ ρ) (h2' : VRs s.heap ρ l2 us)
  (hQ : ∀ it s' δ,Start prog w B 3 ρ s H (zbn l1 l2) it s' δ → Q it s') : wpN (model prog w) A (call (qV 10) [.ref la,.ref lb]) (fun xv s1=>wpN (model prog w) A (pyIter xv) Q E s1) E s:=by
 refine wpN.of (call_zip_2 (h1 : s.heap.IsList la ws.toArray) (h1' : s.heap.IsList lb us.toArray) fun h' gz gTI gTO gi1 gi2 gsz gk=>?_)
 refine wpN.of (wpAny_pyIter_zip (s:={ s with heap:=h' }) gz ?_)
 have fresh : ∀ k,s.heap.get? (s.heap.objs.size + k) = none:=fun k=>by
  cases q : s.heap.get? (s.heap.objs.size + k) with
  | none=>rfl
  | some o=>exact absurd (Heap.lt_size q) (Nat.not_lt.mpr (Nat.le_add_right _ _))
 have ltA : la < s.heap.objs.size:=Heap.lt_size h1.choose_spec.1
 have ltB : lb < s.heap.objs.size:=Heap.lt_size h1'.choose_spec.1
 have neA : ∀ k : Nat,la ≠ s.heap.objs.size + k:=fun k=>Nat.ne_of_lt (Nat.lt_of_lt_of_le ltA (Nat.le_add_right _ _))
 have neB : ∀ k : Nat,lb ≠ s.heap.objs.size + k:=fun k=>Nat.ne_of_lt (Nat.lt_of_lt_of_le ltB (Nat.le_add_right _ _))
 obtain ⟨R3,x3,hid⟩:=R.hide (a:=s.heap.objs.size + 3) (h':=h') s.toks (fresh 3) gk (by rw [gTO];exact fun q=>nomatch q)
 have nin : ∀ k,k ≠ 3 → s.heap.objs.size + k ∉ ρ ++ [s.heap.objs.size + 3,s.heap.objs.size + 3]:=fun k hk m=>by
  rcases List.mem_append.mp m with m | m
  ·exact R.off' (fresh k) m
  ·simp at m;exact hk m
 have D : ZipApart (s.heap.objs.size + 4) (s.heap.objs.size + 2) (s.heap.objs.size + 3) s.heap.objs.size (s.heap.objs.size + 1) la lb:=by
  exact ⟨by simp,by simp,by simp,by simp,by simp,by simp,by simp,by simp,by simp,by simp,neA 4,neA 3,neA 0,neA 1,neB 4,neB 3,neB 0,neB 1⟩
 have S : Start prog w B 3 ρ s H _ (.ref (s.heap.objs.size + 4)) { s with heap:=h' } [s.heap.objs.size + 3,s.heap.objs.size + 3]:=⟨x3,R3,Nat.le_of_eq R.len,[s.heap.objs.size + 4,s.heap.objs.size + 3,s.heap.objs.size,s.heap.objs.size + 1],[s.heap.objs.size + 3],
  ZSt (zpOf s.heap.objs.size la lb),fun A' hA=>zoj (p:=zpOf s.heap.objs.size la lb) hA D,
  ⟨⟨l1,ws,l2,us,0,0,.none,.none⟩,gz,gTI,gTO,gi1,gi2,nin 4 (by decide),nin 0 (by decide),nin 1 (by decide),nin 2 (by decide),⟨hid.free,hid.mem⟩,h1.keep x3.k hn,h1'.keep x3.k hn',
   x3.k.not h1.choose_spec.1 hn,x3.k.not h1'.choose_spec.1 hn',x3.vrs h2,x3.vrs h2',rfl⟩,
  fun b hb=>by
   simp only [List.mem_cons,List.not_mem_nil,or_false] at hb
   rcases hb with rfl | rfl | rfl | rfl
   ·exact ⟨fresh 4,R.bnone (fresh 4),by show h'.get? _ ≠ none;rw [gz];exact fun q=>nomatch q⟩
   ·exact ⟨fresh 3,R.bnone (fresh 3),by show h'.get? _ ≠ none;rw [gTO];exact fun q=>nomatch q⟩
   ·exact ⟨fresh 0,R.bnone (fresh 0),by obtain ⟨o,ho,_⟩:=gi1;show h'.get? _ ≠ none;rw [ho];exact fun q=>nomatch q⟩
   ·exact ⟨fresh 1,R.bnone (fresh 1),by obtain ⟨o,ho,_⟩:=gi2;show h'.get? _ ≠ none;rw [ho];exact fun q=>nomatch q⟩,.inr ⟨rfl,_,rfl,by have:=hid;rw [R.len] at this;exact this⟩⟩
 exact hQ _ _ _ S
theorem src0 {kk : Nat} {v : PV} {v1 : Value} {l : List PV} (hh : A.handled = none) (hk : kk = 0) (hs : y8 0 [v] H = some (.vals l)) (R : Rel prog w B ρ H s.heap) (r0 : VR s.heap ρ v v1) (hQ : ∀ it s' δ,Start prog w B kk ρ s H l it s' δ → Q it s') : wpAny (model prog w) A (pyIter v1) Q E s:=by
 cases v with
 | lst l' =>
  obtain rfl:=jO (Option.some.inj hs)
  exact zkn hh hk R r0 fun it s' S=>hQ it s' _ S
 | tup l' =>
  obtain rfl:=jO (Option.some.inj hs)
  exact zkm hh hk R r0 fun it s' S=>hQ it s' _ S
 | bytes b =>
  obtain rfl:=jO (Option.some.inj hs)
  exact zd4 hh hk R r0 fun it s' S=>hQ it s' _ S
 | loc i=>exact zq hs fun uu uu h=>Src.noConfusion (Option.some.inj h)
 | _=>exact zd hs
theorem zeg {r l : List PV} (h : zb3 r = some l) : ∃ z,(r = [.int z] ∧ l = (z7 z.toNat fun i=>(i : Int)) ∧ z ≤ 1000 ∧ -1000 ≤ z) ∨ (r = [.int z,.int (-1),.int (-1)] ∧ l = (z7 (z + 1).toNat fun i=>z - (i : Int)) ∧ z ≤ 1000 ∧ -1 ≤ z):=by
 cases r with
 | nil=>exact zd h
 | cons a r =>
  refine zq h fun z hz h=>⟨z,?_⟩
  rw [zH hz]
  cases r with
  | nil=>exact xq h fun g h=>.inl ⟨rfl,(Option.some.inj h).symm,g⟩
  | cons b r=>exact zq h fun pq hp h=>zq h fun b hb h=>zq h fun c hc h=>xq h fun g h=>.inr ⟨by rw [yS hp,zH hb,zH hc,g.1,g.2.1],(Option.some.inj h).symm,g.2.2⟩
theorem zgm {fv : PV} {vs' l : List PV} (hs : y8 1 (fv :: vs') H = some (.vals l)) : fv = .bi 8 ∧ zb3 vs' = some l :=
 zq hs fun r h8 h=>zq h fun l1 hr h=>⟨(List.cons.inj (yQ h8)).1,((List.cons.inj (yQ h8)).2 ▸ hr).trans (congrArg some (jO (Option.some.inj h)))⟩
theorem zgl {fv : PV} {vs' l : List PV} (hs : y8 2 (fv :: vs') H = some (.vals l)) : ∃ l0,fv = .bi 9 ∧ vs' = [.lst l0] ∧ l = jF 0 l0 :=
 zq hs fun r h9 h=>zq h fun x0 h1 h=>zq h fun l0 h2 h=>⟨l0,(List.cons.inj (yQ h9)).1,(List.cons.inj (yQ h9)).2.trans ((yE h1).trans (congrArg (fun x=>[x]) (jW h2))),(jO (Option.some.inj h)).symm⟩
theorem zgk {fv : PV} {vs' l : List PV} (hs : y8 3 (fv :: vs') H = some (.vals l)) : ∃ l1 l2,fv = .bi 10 ∧ vs' = [.lst l1,.lst l2] ∧ l = zbn l1 l2 :=
 zq hs fun r h9 h=>zq h fun pq h1 h=>zq h fun l1 h2 h=>zq h fun l2 h3 h=>⟨l1,l2,(List.cons.inj (yQ h9)).1,(List.cons.inj (yQ h9)).2.trans ((yS h1).trans (by rw [jW h2,jW h3])),(jO (Option.some.inj h)).symm⟩
theorem vrs_cons {h : Heap} {x : PV} {l : List PV} {vals : List Value} (r : VRs h ρ (x :: l) vals) : ∃ v t,vals = v :: t ∧ VR h ρ x v ∧ VRs h ρ l t:=r
theorem wE {h : Heap} {z : Int} {l : List PV} {vals : List Value} (r : VRs h ρ (.int z :: l) vals) : ∃ k t,vals = .int z k :: t ∧ VRs h ρ l t:=by
 obtain ⟨v,t,rfl,⟨k,rfl⟩,q⟩:=r
 exact ⟨k,t,rfl,q⟩
theorem zbs {h : Heap} {l0 l : List PV} {vals : List Value} (r : VRs h ρ (.lst l0 :: l) vals) : ∃ la ws t,vals = .ref la :: t ∧ la ∉ ρ ∧ SeqAt h la "list" ws.toArray ∧ VRs h ρ l0 ws ∧ VRs h ρ l t:=by
 obtain ⟨v,t,rfl,⟨la,ws,rfl,h1,h2,h3⟩,q⟩:=r
 exact ⟨la,ws,t,rfl,h1,h2,h3,q⟩
noncomputable def SrcGoal (prog : Program) (A : Around) (w : World) (s : Shared) (Q : Value → Shared → Prop) (E : Value → Shared → Prop) (fval : Value) (vals : List Value) : Prop :=
 Looks (model prog w) s.heap (keeperOf fval) Keeper.machine ∧ wpN (model prog w) A (call fval vals) (fun xv s1=>wpN (model prog w) A (pyIter xv) Q E s1) E s
theorem src1 {fv : PV} {fval : Value} {vs' l : List PV} {vals : List Value} (hh : A.handled = none) (hs : y8 1 (fv :: vs') H = some (.vals l)) (R : Rel prog w B ρ H s.heap) (r0 : VR s.heap ρ fv fval) (rs : VRs s.heap ρ vs' vals) (hQ : ∀ it s' δ,Start prog w B 1 ρ s H l it s' δ → Q it s') : SrcGoal prog A w s Q E fval vals:=by
 obtain ⟨rfl,hr⟩:=zgm hs
 obtain rfl:=r0
 obtain ⟨z,⟨rfl,rfl,g⟩ | ⟨rfl,rfl,g⟩⟩:=zeg hr
 ·obtain ⟨tk,t,rfl,q⟩:=wE rs
  obtain rfl:=q
  exact ⟨Looks.now,zkz hh g R hQ⟩
 ·obtain ⟨t1,u1,rfl,rs1⟩:=wE rs
  obtain ⟨t2,u2,rfl,rs2⟩:=wE rs1
  obtain ⟨t3,u3,rfl,q⟩:=wE rs2
  obtain rfl:=q
  exact ⟨Looks.now,zky hh g.1 g.2 R hQ⟩
theorem src2 {fv : PV} {fval : Value} {vs' l : List PV} {vals : List Value} (hh : A.handled = none) (hs : y8 2 (fv :: vs') H = some (.vals l)) (R : Rel prog w B ρ H s.heap) (r0 : VR s.heap ρ fv fval) (rs : VRs s.heap ρ vs' vals) (hQ : ∀ it s' δ,Start prog w B 2 ρ s H l it s' δ → Q it s') : SrcGoal prog A w s Q E fval vals:=by
 obtain ⟨l0,rfl,rfl,rfl⟩:=zgl hs
 obtain rfl:=r0
 obtain ⟨la,ws,t,rfl,hn,h1,h2,q⟩:=zbs rs
 obtain rfl:=q
 exact ⟨Looks.now,zr2 R h1 hn h2 hQ⟩
theorem src3 {fv : PV} {fval : Value} {vs' l : List PV} {vals : List Value} (hh : A.handled = none) (hs : y8 3 (fv :: vs') H = some (.vals l)) (R : Rel prog w B ρ H s.heap) (r0 : VR s.heap ρ fv fval) (rs : VRs s.heap ρ vs' vals) (hQ : ∀ it s' δ,Start prog w B 3 ρ s H l it s' δ → Q it s') : SrcGoal prog A w s Q E fval vals:=by
 obtain ⟨l1,l2,rfl,rfl,rfl⟩:=zgk hs
 obtain rfl:=r0
 obtain ⟨la,ws,t,rfl,hn,h1,h2,rs1⟩:=zbs rs
 obtain ⟨lb,us,u,rfl,hn',h1',h2',q⟩:=zbs rs1
 obtain rfl:=q
 exact ⟨Looks.now,ztm R h1 hn h2 h1' hn' h2' hQ⟩
theorem zms (T : TopK prog w K B P) (hE : ∀ m ≤ n,EOk prog w B P m) (hEs : ∀ m ≤ n,EsOk prog w B P m) {iter : PySem.Expr} {its : List ME} {k : Nat} {vs l : List PV} (hc : cIt k env.scope iter = some its) (he : yO P n its L H = some (vs,H1))
  (hs : y8 (zL iter) vs H1 = some (.vals l)) (R : Rel prog w B ρ H s.heap) (V : EnvOk B env ρ s.heap) (W : VarsOk env ρ s.heap L) (Rm : Room A n)
  (hQ : ∀ it s' δ,Start prog w B (zL iter) ρ s H1 l it s' δ → Q it s') : wpN (model prog w) A (eval iter env) (fun xv s1=>wpN (model prog w) A (pyIter xv) Q E s1) E s:=by
 have hh:=Rm.handled
 revert hc;refine jh (fun hk hc=>?_) fun hk hc=>?_
 ·have hk:=Nat.eq_of_beq_eq_true hk
  rw [hk] at hs
  revert hc;refine zk fun a ha hc=>?_
  obtain rfl:=Option.some.inj hc
  obtain ⟨n',v,rfl,rfl,e1⟩:=zfd he
  refine hE n' (Nat.le_succ _) ha e1 R V W Rm.down fun s1 δ1 v1 x1 R1 r1=>wpN.of ?_
  exact src0 hh hk hs R1 r1 fun it s' δ S=>hQ it s' _ (S.after x1)
 ·have hk:=Nat.ne_of_beq_eq_false hk
  revert hc;refine zk fun q hq=>zX fun hlen=>zk fun a ha=>zk fun l' hl hc=>?_
  obtain rfl:=Option.some.inj hc
  obtain ⟨id,p,hid⟩:=zhq hq hk
  obtain rfl:=zlu hq
  have hn3 : ∃ fv vs',vs = fv :: vs':=by
   have:=jE he
   cases vs with
   | nil=>cases this
   | cons x r=>exact ⟨x,r,rfl⟩
  obtain ⟨fv,vs',rfl⟩:=hn3
  refine zlt hE hEs (fun o name apos q'=>by rw [hid] at q';cases q') ha hl he R V W Rm fun s2 δ2 fval vals x2 R2 r2 rs2=>?_
  generalize zL (.Call q.1 q.2.1 [] q.2.2) = kk at hs hQ hk
  rcases kk with _ | _ | _ | _ | kk
  ·exact absurd rfl hk
  ·exact src1 hh hs R2 r2 rs2 fun it s' δ S=>hQ it s' _ (S.after x2)
  ·exact src2 hh hs R2 r2 rs2 fun it s' δ S=>hQ it s' _ (S.after x2)
  ·exact src3 hh hs R2 r2 rs2 fun it s' δ S=>hQ it s' _ (S.after x2)
  ·exact zd hs
end
end Mine
namespace Mine
open PySem PySem.W PyProof.Rows PySem.Spec
section
variable {prog : Program} {A : Around} {w : World} {B : Heap} {ρ ρ' δ : List Addr} {H H' H1 : Hp} {s s₁ : Shared} {h h' : Heap} {E : Value → Shared → Prop} {P : Prg} {K : Frag} {env : Env} {L L1 : Loc} {n : Nat} {v : PV} {m : ME} {b : Bool} {Q : Value → Shared → Prop}
theorem jn {loc : Bool} {id : Str} {x : Nat} (h : yK loc env.scope id = some x) : nid id = some x ∧ (env.kindOf id = some .local ∨ (env.kindOf id = some .cell ∧ loc = false)):=by
 unfold yK at h
 split at h
 ·rename_i hk;exact ⟨h,.inl hk⟩
 ·rename_i hk
  split at h
  ·cases h
  ·exact ⟨h,.inr ⟨hk,rfl⟩⟩
 ·cases h
theorem zai {loc : Bool} {t : PySem.Expr} {xs : List Nat} (h : xE loc env.scope t = some xs) : xk t = true ∧ ∀ k,kL k xs = true → zkj k t = true:=by
 cases t with
 | Name id p =>
  revert h;refine zk fun x hx h=>?_
  obtain rfl:=Option.some.inj h
  refine ⟨rfl,fun k hk=>?_⟩
  rcases k with _ | _ | k
  ·rfl
  ·rfl
  ·cases hk
 | Tuple l c p =>
  revert h;refine zk fun q hq=>zk fun a ha=>zk fun b hb=>zk fun x hx=>zk fun y hy h=>?_
  obtain ⟨q1,q2⟩:=q
  obtain rfl:=yS hq
  obtain rfl:=jq ha
  obtain rfl:=jq hb
  refine ⟨rfl,fun k hk=>?_⟩
  rcases k with _ | _ | k <;> rfl
 | _=>exact zd h
noncomputable def zba (loc : Bool) (env : Env) : List Addr:=match loc with
 | true=>[env.locals]
 | false=>ym env
theorem zvo {loc : Bool} : ∀ a ∈ zba loc env,a ∈ ym env:=by
 intro a ha
 cases loc with
 | true=>rw [List.mem_singleton.mp ha];exact List.mem_cons_self ..
 | false=>exact ha
theorem wO {loc : Bool} {id : Str} {x : Nat} {val : Value} {Q : Unit → Shared → Prop} (hi : yK loc env.scope id = some x) (R : Rel prog w B ρ H s.heap) (V : EnvOk B env ρ s.heap) (W : VarsOk env ρ s.heap L) (hv : VR s.heap ρ v val)
  (hQ : ∀ s',Ext ρ (zba loc env) s s' [] → Rel prog w B ρ H s'.heap → EnvOk B env ρ s'.heap → VarsOk env ρ s'.heap (z5 L x v) → Q () s') {pos : Pos} : wpAny (model prog w) A (assign (.Name id pos) env val) Q E s:=by
 obtain ⟨h1,h2⟩:=jn hi
 refine wpAny_assign_Name (vG (X:=zba loc env) ⟨fun hk=>?_,fun c hk hc=>?_⟩ R V W h1 (h2.imp (fun q=>q) And.left) hv hQ)
 ·cases loc with
  | true=>exact List.mem_singleton.mpr rfl
  | false=>exact List.mem_cons_self ..
 ·rcases h2 with q | ⟨q,rfl⟩
  ·rw [q] at hk;cases hk
  ·exact jr hc
theorem zgh (hh : A.handled = none) {loc : Bool} {t : PySem.Expr} {xs : List Nat} {val : Value} {Q : Unit → Shared → Prop} (ht : xE loc env.scope t = some xs) (hb : wu xs v L = some L1) (R : Rel prog w B ρ H s.heap) (V : EnvOk B env ρ s.heap) (W : VarsOk env ρ s.heap L) (hv : VR s.heap ρ v val)
  (hQ : ∀ s',Ext ρ (zba loc env) s s' [] → Rel prog w B ρ H s'.heap → EnvOk B env ρ s'.heap → VarsOk env ρ s'.heap L1 → Q () s') : wpAny (model prog w) A (assign t env val) Q E s:=by
 cases t with
 | Name id p =>
  revert ht;refine zk fun x hx ht=>?_
  obtain rfl:=Option.some.inj ht
  obtain rfl:=Option.some.inj hb
  exact wO hx R V W hv hQ
 | Tuple l c p =>
  revert ht;refine zk fun q hq=>zk fun a ha=>zk fun b hb'=>zk fun x hx=>zk fun y hy ht=>?_
  obtain ⟨q1,q2⟩:=q
  obtain rfl:=yS hq
  obtain rfl:=jq ha
  obtain rfl:=jq hb'
  obtain rfl:=Option.some.inj ht
  revert hb;refine zk fun l hl=>zk fun pq hpq hb=>?_
  obtain ⟨p,q⟩:=pq
  obtain rfl:=v8 hl
  obtain rfl:=yS hpq
  obtain rfl:=Option.some.inj hb
  obtain ⟨la,vs,rfl,hn,h1,va,t1,rfl,r1,vb,t2,rfl,r2,h2⟩:=hv
  obtain rfl:=h2
  refine wpAny_assign_Tuple hh (h1 : s.heap.IsTuple la [va,vb].toArray) rfl rfl fun h' hx'=>?_
  have st : Still [] s { s with heap:=h',toks:=s.toks }:=Still.kept _ fun b o e=>hx' b o (Nat.ne_of_lt (Heap.lt_size e)) e
  have x0:=st.ext0 (ρ:=ρ)
  have R0:=R.still0 st
  have V0:=V.step x0
  have W0:=W.step V x0
  rw [List.append_nil] at V0 W0
  show wpAny _ A (do holding [vb] (assign (.Name a.1 a.2) env va);do holding [] (assign (.Name b.1 b.2) env vb);pure ()) _ _ _
  refine wpAny_bind (wpAny_holding (wO (s:={ s with heap:=h' }) hx R0 V0 W0 (r1.still0 st) fun s1 e1 R1 V1 W1=>?_))
  have r2' : VR s1.heap ρ q vb:=by
   have z:=VR.keep e1.k _ _ (r2.still0 st)
   rwa [List.append_nil] at z
  refine wpAny_bind (wpAny_holding (wO hy R1 V1 W1 r2' fun s2 e2 R2 V2 W2=>wpAny_pure ?_))
  have f1 : Ext ρ (zba loc env) s s1 []:=(x0.more (Y:=zba loc env) (fun uu h=>nomatch h)).seq (δ:=[]) (ε:=[]) ((List.append_nil ..) ▸ e1)
  exact hQ s2 (f1.seq (δ:=[]) (ε:=[]) ((List.append_nil ..) ▸ e2)) R2 V2 W2
 | _=>exact zd ht
end
end Mine
namespace Mine
open PySem PySem.W PyProof.Rows PySem.Spec
noncomputable def yM (env : Env) : List (Str × NameKind) → List (Str × Addr) → List (Str × Addr)
 | [],acc=>acc
 | x :: r,acc=>if (x.2 == NameKind.free) = true then (match env.cells.lookup x.1 with
   | some a=>yM env r ((x.1,a) :: acc)
   | none=>yM env r acc) else yM env r acc
theorem qk {env : Env} : ∀ (names : List (Str × NameKind)) (acc : List (Str × Addr)),(∀ x ∈ names,x.2 = .free → ∃ a,env.cells.lookup x.1 = some a) →
  (forIn names acc fun (x : Str × NameKind) (cs : List (Str × Addr))=>(if (x.2 == NameKind.free) = true then (do let a ← cellOf env x.1;pure (ForInStep.yield ((x.1,a) :: cs))) else pure (ForInStep.yield cs) : Sem (ForInStep (List (Str × Addr))))) = pure (yM env names acc)
 | [],acc,_=>by simp [yM]
 | x :: r,acc,h=>by
  rw [List.forIn_cons]
  unfold yM
  by_cases c : (x.2 == NameKind.free) = true
  ·obtain ⟨a,ha⟩:=h x (List.mem_cons_self ..) (eq_of_beq c)
   rw [if_pos c,if_pos c,ha]
   have : cellOf env x.1 = pure a:=by unfold cellOf;rw [ha]
   rw [this]
   simp only [pure_bind]
   exact qk r _ fun y hy=>h y (List.mem_cons_of_mem _ hy)
  ·rw [if_neg c,if_neg c]
   simp only [pure_bind]
   exact qk r _ fun y hy=>h y (List.mem_cons_of_mem _ hy)
theorem zid {env : Env} {scope : Scope} (h : ∀ x ∈ scope.names,x.2 = .free → ∃ a,env.cells.lookup x.1 = some a) : closureFor scope env = pure (yM env scope.names []):=by
 have z:=qk scope.names [] h
 unfold closureFor
 show (forIn scope.names [] _ >>= fun cs=>pure cs) = _
 rw [show (forIn scope.names ([] : List (Str × Addr)) fun (x : Str × NameKind) (cs : List (Str × Addr))=>(match x with | (name,kind)=>if (kind == NameKind.free) = true then (do let a ← cellOf env name;pure (ForInStep.yield ((name,a) :: cs))) else pure (ForInStep.yield cs) : Sem (ForInStep (List (Str × Addr))))) = pure (yM env scope.names []) from z]
 rfl
theorem qT {env : Env} {n : Str} {c : Addr} : ∀ {names : List (Str × NameKind)} {acc : List (Str × Addr)},(n,c) ∈ yM env names acc → (n,c) ∈ acc ∨ env.cells.lookup n = some c
 | [],acc,h=>.inl h
 | x :: r,acc,h=>by
  unfold yM at h
  split at h
  ·split at h
   ·rename_i a ha
    rcases qT h with q | q
    ·rcases List.mem_cons.mp q with q | q
     ·cases q;exact .inr ha
     ·exact .inl q
    ·exact .inr q
   ·exact qT h
  ·exact qT h
theorem je {env : Env} {n : Str} {c : Addr} {names : List (Str × NameKind)} (h : (yM env names []).lookup n = some c) : env.cells.lookup n = some c:=by
 rcases qT (mem_of_lookup h) with q | q
 ·cases q
 ·exact q
theorem zhm {n : Str} {acc : List (Str × Addr)} {x : Str × Addr} (h : ∃ c,acc.lookup n = some c) : ∃ c,(x :: acc).lookup n = some c:=by
 rw [List.lookup_cons]
 split
 ·exact ⟨_,rfl⟩
 ·exact h
theorem vw {env : Env} {n : Str} : ∀ {names : List (Str × NameKind)} {acc : List (Str × Addr)},(∃ c,acc.lookup n = some c) → ∃ c,(yM env names acc).lookup n = some c
 | [],acc,h=>h
 | x :: r,acc,h=>by
  unfold yM
  split
  ·split
   ·exact vw (zhm h)
   ·exact vw h
  ·exact vw h
theorem qU {env : Env} {n : Str} : ∀ {names : List (Str × NameKind)} {acc : List (Str × Addr)},(n,NameKind.free) ∈ names → (∃ a,env.cells.lookup n = some a) → ∃ c,(yM env names acc).lookup n = some c
 | x :: r,acc,h,ha=>by
  rcases List.mem_cons.mp h with rfl | h
  ·obtain ⟨a,ha⟩:=ha
   unfold yM
   rw [if_pos (by show (NameKind.free == NameKind.free) = true;rfl)]
   dsimp only
   exact ha ▸ vw ⟨a,by simp [List.lookup_cons]⟩
  ·unfold yM
   split
   ·split
    ·exact qU h ha
    ·exact qU h ha
   ·exact qU h ha
set_option tactic.hygienic true in
theorem jL {sc outer : Scope} {t : List Nat} (h : ju sc outer t = true) : ∀ x ∈ sc.names,(x.2 = .local ∧ (∀ i,nid x.1 = some i → i ∈ t) ∧ sc.names.lookup x.1 = some .local) ∨ (x.2 = .free ∧ (outer.names.lookup x.1 = some .cell ∨ outer.names.lookup x.1 = some .free)) ∨ x.2 = .globalImplicit:=by
 intro x hx
 have z:=List.all_eq_true.mp h x hx
 obtain ⟨n,k⟩:=x
 dsimp only at z ⊢
 split at z
 ·refine .inl ⟨rfl,?_⟩
  split at z
  ·rename_i i hi
   obtain ⟨z1,z2⟩:=Bool.and_eq_true_iff.mp z
   exact ⟨fun j hj=>by rw [hi] at hj;cases hj;simpa using z1,eq_of_beq z2⟩
  ·rename_i hi
   exact ⟨fun j hj=>(by rw [hi] at hj;cases hj),eq_of_beq z⟩
 ·refine .inr (.inl ⟨rfl,?_⟩)
  rcases Bool.or_eq_true_iff.mp z with z | z
  ·exact .inl (eq_of_beq z)
  ·exact .inr (eq_of_beq z)
 ·exact .inr (.inr rfl)
 ·cases z
theorem znp {t : List Nat} {L : Loc} {x : Nat} {v : PV} (h : noL t L x = some v) : x ∉ t ∧ L x = some v:=by
 unfold noL at h
 split at h
 ·cases h
 ·rename_i q;exact ⟨by simpa using q,h⟩
theorem wf {scope : Scope} {env : Env} {n : Str} {k : NameKind} (h : (n,k) ∈ (relabel scope env).names) : ∃ k',(n,k') ∈ scope.names ∧ (k' = k ∨ (k' = .free ∧ k = .cell)):=by
 unfold relabel at h
 obtain ⟨⟨n',k'⟩,hm,e⟩:=List.mem_map.mp h
 dsimp only at e
 split at e
 ·rename_i c
  cases e
  refine ⟨k',hm,.inr ⟨?_,rfl⟩⟩
  have c:=(Bool.and_eq_true_iff.mp (Bool.and_eq_true_iff.mp c).1).1
  exact eq_of_beq c
 ·cases e;exact ⟨_,hm,.inl rfl⟩
section
variable {prog : Program} {A : Around} {w : World} {B : Heap} {ρ ρ' δ : List Addr} {H H' H1 : Hp} {s s₁ : Shared} {h h' : Heap} {E : Value → Shared → Prop} {P : Prg} {K : Frag} {env : Env} {L L1 : Loc} {n : Nat} {v : PV} {m : ME} {b : Bool} {Q : Value → Shared → Prop}
theorem zpn {scope : Scope} {t : List Nat} {C : Addr} {mC : Str → Option Value} (hn : ju scope env.scope t = true) (hk : scope.kind = .function) (V : EnvOk B env ρ s.heap) (W : VarsOk env ρ s.heap L) (hC : s.heap.Ns C mC) (hCρ : C ∉ ρ) (hCB : B.get? C = none) :
  EnvOk B (compEnvC scope (yM env scope.names []) C env) ρ s.heap ∧ VarsOk (compEnvC scope (yM env scope.names []) C env) ρ s.heap (noL t L):=by
 have free : ∀ n,(compEnvC scope (yM env scope.names []) C env).kindOf n = some .cell ∨ (compEnvC scope (yM env scope.names []) C env).kindOf n = some .free → (n,NameKind.free) ∈ scope.names ∧ (env.kindOf n = some .cell ∨ env.kindOf n = some .free):=by
  intro n q
  have : ∃ k,(n,k) ∈ (relabel scope env).names ∧ (k = .cell ∨ k = .free):=by
   rcases q with q | q
   ·exact ⟨_,mem_of_lookup q,.inl rfl⟩
   ·exact ⟨_,mem_of_lookup q,.inr rfl⟩
  obtain ⟨k,hm,hk⟩:=this
  obtain ⟨k',hm',hk'⟩:=wf hm
  have z:=jL hn _ hm'
  have hf : k' = .free:=by
   rcases hk' with rfl | ⟨rfl,_⟩
   ·rcases z with ⟨z,_⟩ | ⟨z,_⟩ | z
    ·dsimp only at z;subst z;rcases hk with q | q <;> cases q
    ·exact z
    ·dsimp only at z;subst z;rcases hk with q | q <;> cases q
   ·rfl
  subst hf
  refine ⟨hm',?_⟩
  rcases z with ⟨z,_⟩ | ⟨_,z⟩ | z
  ·cases z
  ·exact z
  ·cases z
 refine ⟨⟨hk,V.glob,V.bi,⟨mC,hC⟩,⟨hCρ,hCB⟩,fun n c h=>V.cell n c (je h),fun n c h=>V.cnew n c (je h),fun n n' c h h'=>V.cinj n n' c (je h) (je h'),fun n q=>?_⟩,fun n x v hx hL=>?_⟩
 ·obtain ⟨q1,q2⟩:=free n q
  exact qU q1 (V.has n q2)
 ·obtain ⟨nt,hL⟩:=znp hL
  refine ⟨fun q=>?_,fun q=>?_⟩
  ·obtain ⟨k',hm',hk'⟩:=wf (mem_of_lookup (l:=(relabel scope env).names) q)
   have z:=jL hn _ hm'
   rcases hk' with rfl | ⟨_,q⟩
   ·rcases z with ⟨_,hi,_⟩ | ⟨z,_⟩ | z
    ·exact absurd (hi x hx) nt
    ·cases z
    ·cases z
   ·cases q
  ·obtain ⟨q1,q2⟩:=free n q
   obtain ⟨_,w2⟩:=W n x v hx hL
   obtain ⟨c,val,hc,hv,hr⟩:=w2 q2
   obtain ⟨c',hc'⟩:=qU (acc:=[]) q1 ⟨c,hc⟩
   have : c' = c:=by have:=je hc';rw [hc] at this;exact (Option.some.inj this).symm
   subst this
   exact ⟨c',val,hc',hv,hr⟩
end
end Mine
namespace Mine
open PySem PySem.W PyProof.Rows PySem.Spec
theorem wr (elt target iter : PySem.Expr) (ifs : List PySem.Expr) (scope : Scope) (pos : Pos) (it acc : Value) (env : Env) :
  compTurn (.ListComp elt [⟨target,iter,ifs,0⟩] scope pos) 0 it acc env = (standAt iter.pos >>= fun uu=>pyNext it >>= fun r=>match r with
   | none=>pure (.done .next)
   | some v=>letOwnedTupleGo target it v >>= fun uu=>assign target env v >>= fun uu =>
    (forIn ifs true fun c r=>if r = true then do let ok ← isTrue c env (eval c env);pure (ForInStep.yield ok) else pure (ForInStep.yield r)) >>= fun ok =>
     if ok = true then ((eval elt env >>= fun x=>call (.builtin "list.append") [acc,x] >>= fun uu=>pure ()) >>= fun uu =>
      again (.compLoop (.ListComp elt [⟨target,iter,ifs,0⟩] scope pos) 0 it acc env)) else again (.compLoop (.ListComp elt [⟨target,iter,ifs,0⟩] scope pos) 0 it acc env)):=by rfl
noncomputable def zP (vs : List Value) (n : Nat) : Obj:={ cls:=.type "list",data:=.seq vs.toArray n }
section
variable {prog : Program} {A : Around} {w : World} {B : Heap} {E : Value → Shared → Prop} {P : Prg} {K : Frag} {n : Nat}
structure CEnd (prog : Program) (w : World) (B : Heap) (ρ₀ : List Addr) (s₀ : Shared) (D : Addr) (ja : Nat) (HD : List Addr) (hh : Nat) (PR : List Addr) (cenv : Env) (items : List PV) (H : Hp) (s' : Shared) : Prop where
 out : ∃ s δ vs k,Ext ρ₀ [] s₀ s δ ∧ Rel prog w B (ρ₀ ++ δ) H s.heap ∧ Quiet PR s s' ∧ EnvOk B cenv (ρ₀ ++ δ) s.heap ∧ s.heap.get? D = some (zP vs k) ∧ VRs s.heap (ρ₀ ++ δ) items vs ∧ HidA (ρ₀ ++ δ) D ja ∧ (∀ a ∈ HD,HidA (ρ₀ ++ δ) a hh) ∧ (∀ a ∈ PR,(a ∉ (ρ₀ ++ δ) ∧ ∀ o,s.heap.get? a = some o → zM o = false) ∨ HidA (ρ₀ ++ δ) a hh)
theorem zpk {ifs : List PySem.Expr} {e2 : List ME} {k : Nat} {cenv : Env} {L : Loc} {H H1 : Hp} {b : Bool} {ρ : List Addr} {s : Shared} {Q : Bool → Shared → Prop} (hC : COk prog w B P n) (hc : cEs k cenv.scope ifs = some e2)
  (he : vp (evC P n) e2 L H = some (b,H1)) (R : Rel prog w B ρ H s.heap) (V : EnvOk B cenv ρ s.heap) (W : VarsOk cenv ρ s.heap L) (Rm : Room A n) (hQ : PostB prog w B ρ s H1 b Q) :
  wpN (model prog w) A (forIn ifs true fun c r=>if r = true then do let ok ← isTrue c cenv (eval c cenv);pure (ForInStep.yield ok) else pure (ForInStep.yield r)) Q E s:=by
 rcases e2 with _ | ⟨c,_ | ⟨d,r⟩⟩
 ·replace hQ:=hQ.eq2 he
  obtain rfl:=wM hc
  rw [List.forIn_nil]
  exact zg (hQ.same R)
 ·obtain ⟨x,t,rfl,p1,p2,p3⟩:=ql hc
  obtain rfl:=wM p3
  rw [List.forIn_cons]
  refine zb (yk rfl (zb (hC p2 he R V W Rm fun s1 δ x R1=>?_)))
  refine zg ?_
  dsimp only
  rw [List.forIn_nil]
  exact zg (hQ s1 δ x R1)
 ·exact zd he
theorem ze5 {h0 kk : Nat} {H : Hp} {u : Unit} (h : za4 h0 kk H = some u) : H[h0 + (qf kk).length]? = some .hid ∧ H[h0 + (qf kk).length + 1]? = some .hid ∧ (kk = 3 → H[h0]? = some .hid ∧ H[h0 + 1]? = some .hid):=by
 revert h;refine zk fun uu q1=>zk fun uu q2 h=>?_
 have q1:=q7 q1
 have q2:=q7 q2
 by_cases hk : kk = 3
 ·subst hk
  exact zq h fun uu q3 q4=>⟨q7 q3,q7 q4,fun uu=>⟨q1,q2⟩⟩
 ·have : (qf kk).length = 0:=by
   unfold qf
   split
   ·exact absurd rfl hk
   ·rfl
  exact this ▸ ⟨q1,q2,fun e=>absurd e hk⟩
theorem zlq (hE : EOk prog w B P n) (hC : COk prog w B P n) {elt target iter : PySem.Expr} {ifs : List PySem.Expr} {scope : Scope} {pos : Pos} {cenv : Env} {t : List Nat} {e1 : ME} {e2 : List ME} {k1 k2 : Nat} {kk h0 : Nat}
  (ct : xE true cenv.scope target = some t) (tg : zkj kk target = true) (ce : cE k1 cenv.scope elt = some e1) (ci : cEs k2 cenv.scope ifs = some e2) (hh : A.handled = none) (Rm : Room A n)
  {it : Value} {PR HD : List Addr} {St : List PV → List Addr → Heap → Prop} (I : Iter prog w A (zkj kk) it PR HD St) {ρ₀ : List Addr} {s₀ : Shared} {D : Addr} {ja : Nat}
  (hPR : ∀ a ∈ PR,s₀.heap.get? a = none ∧ B.get? a = none) (hDB : B.get? D = none) (hD0 : s₀.heap.get? D = none) (hC0 : s₀.heap.get? cenv.locals = none) (hCP : cenv.locals ∉ PR) (hDP : D ∉ PR) (hCD : cenv.locals ≠ D)
  (hfe : ∀ n c,cenv.cells.lookup n = some c → True) (hcells : ∀ a ∈ cenv.cells.map (·.2),s₀.heap.get? a ≠ none)
  (hHD : ∀ a ∈ HD,kk = 3) (hja : ja = h0 + (qf kk).length)
  {items : List PV} {H' : Hp} {R : Result → Shared → Prop} (fin : ∀ s' Hf,Hf.length = h0 + (jz kk).length → H' = Hf.take h0 → CEnd prog w B ρ₀ s₀ D ja HD h0 PR cenv items Hf s' → R (.ok .next) s') :
  ∀ (l : List PV) (L : Loc) (H : Hp) (acc : List PV) (δ : List Addr) (s : Shared) (vs : List Value) (nn : Nat),vq (evE P n e1) (vp (evC P n) e2) t h0 kk l L H acc = some (.lst items,H') →
   Ext ρ₀ [] s₀ s δ → Rel prog w B (ρ₀ ++ δ) H s.heap → St l (ρ₀ ++ δ) s.heap → EnvOk B cenv (ρ₀ ++ δ) s.heap → VarsOk cenv (ρ₀ ++ δ) s.heap L → s.heap.get? D = some (zP vs nn) → VRs s.heap (ρ₀ ++ δ) acc vs → HidA (ρ₀ ++ δ) D ja →
   (∀ a ∈ HD,HidA (ρ₀ ++ δ) a h0) → za4 h0 kk H = some () → z4 (model prog w) A (.compLoop (.ListComp elt [⟨target,iter,ifs,0⟩] scope pos) 0 it (.ref D) cenv) R s:=by
 intro l
 induction l with
 | nil =>
  intro L H acc δ s vs nn he x R1 st V W hD ha hid hHd hok
  refine zB ?_
  rw [Around.under_of_weight (by rfl) (by rfl)]
  show wpN _ _ ((compTurn (.ListComp elt [⟨target,iter,ifs,0⟩] scope pos) 0 it (.ref D) cenv).onRaise _) _ _ _
  refine zJ ?_
  rw [wr]
  refine zb (zl (zm (I.stop st fun s' q=>?_)))
  refine zg ?_
  revert he;refine zX fun g he=>?_
  obtain ⟨he1,rfl⟩:=z6 he
  obtain rfl:=zua he1
  exact fin s' H g.1 rfl ⟨s,δ,vs,nn,x,R1,q,V,hD,ha,hid,hHd,fun a ha=>(I.priv st a ha).elim (fun q=>.inr (hHd a q)) .inl⟩
 | cons v r ih =>
  intro L H acc δ s vs nn he x R1 st V W hD ha hid hHd hok
  refine zB ?_
  rw [Around.under_of_weight (by rfl) (by rfl)]
  show wpN _ _ ((compTurn (.ListComp elt [⟨target,iter,ifs,0⟩] scope pos) 0 it (.ref D) cenv).onRaise _) _ _ _
  refine zJ ?_
  rw [wr]
  revert he;refine zk fun L1 hb he=>?_
  obtain ⟨hk1,hk2,hk3⟩:=ze5 hok
  have Pv : Priv (ρ₀ ++ δ) H B s.heap PR:=fun a ha=>⟨(hPR a ha).2,by
   rcases I.priv st a ha with q | q
   ·exact .inr ⟨h0,hHd a q,hk3 (hHD a q)⟩
   ·exact .inl q⟩
  refine zb (zl (zm (I.next st (fun a q=>R1.off' q) fun s1 val S1 uu own=>?_)))
  refine zm (own target _ _ tg fun s2 S2 rv st2=>?_)
  have S12 : Still PR s s2:=S1.trans S2 fun a h=>.inl h
  have R2:=Pv.rel S12 R1
  have feetPR : ∀ a ∈ ym cenv,a ∉ PR:=fun a ha hp=>by
   rcases List.mem_cons.mp ha with rfl | ha
   ·exact hCP hp
   ·exact hcells a (xw ha) (hPR a hp).1
  obtain ⟨V2,W2⟩:=Pv.env S12 V W feetPR
  have x2 : Ext ρ₀ [] s₀ s2 δ:=x.quiet S12.quiet fun a ha=>(hPR a ha).1
  have hD2 : s2.heap.get? D = some (zP vs nn):=S12.keep D _ hD hDP
  have ha2 : VRs s2.heap (ρ₀ ++ δ) acc vs:=by
   have z:=VRs.keep (Pv.ext S12).k _ _ ha
   rwa [List.append_nil] at z
  refine zm (zgh hh ct hb R2 V2 W2 rv fun s3 e3 R3 V3 W3=>?_)
  have st3 : St r (ρ₀ ++ δ) s3.heap:=by
   have z:=I.ext st2 e3 (fun a ha q=>hCP ((List.mem_singleton.mp q) ▸ ha))
   rwa [List.append_nil] at z
  have hD3 : s3.heap.get? D = some (zP vs nn):=e3.keep D _ hD2 hid.free (fun q=>hCD (List.mem_singleton.mp q).symm)
  have ha3 : VRs s3.heap (ρ₀ ++ δ) acc vs:=by
   have z:=VRs.keep e3.k _ _ ha2
   rwa [List.append_nil] at z
  have x3 : Ext ρ₀ [] s₀ s3 δ:=by
   have z:=x2.trans e3 (fun a ha=>.inr (by rw [List.mem_singleton.mp ha];exact hC0))
   rwa [List.append_nil] at z
  have next : ∀ {s4 : Shared} {δ4 : List Addr} {H4 : Hp} {acc' : List PV} {vs' : List Value} {nn' : Nat},vq (evE P n e1) (vp (evC P n) e2) t h0 kk r L1 H4 acc' = some (.lst items,H') →
    Ext (ρ₀ ++ δ) [] s3 s4 δ4 ∨ (∃ s4',Ext (ρ₀ ++ δ) [] s3 s4' δ4 ∧ Ext ((ρ₀ ++ δ) ++ δ4) [D] s4' s4 []) → Rel prog w B ((ρ₀ ++ δ) ++ δ4) H4 s4.heap → s4.heap.get? D = some (zP vs' nn') → VRs s4.heap ((ρ₀ ++ δ) ++ δ4) acc' vs' → za4 h0 kk H4 = some () →
    z4 (model prog w) A (.compLoop (.ListComp elt [⟨target,iter,ifs,0⟩] scope pos) 0 it (.ref D) cenv) R s4:=by
   intro s4 δ4 H4 acc' vs' nn' he4 x4 R4 hD4 ha4 hok4
   obtain ⟨s4',y1,y2⟩ : ∃ s4',Ext (ρ₀ ++ δ) [] s3 s4' δ4 ∧ Ext ((ρ₀ ++ δ) ++ δ4) [D] s4' s4 []:=by
    rcases x4 with x4 | x4
    ·exact ⟨s4,x4,Ext.refl _ _ _⟩
    ·exact x4
   have V4:=V3.step y1
   have W4:=W3.step V3 y1
   have dfeet : ∀ a ∈ ym cenv,a ∉ [D]:=fun a ha q=>by
    have q:=List.mem_singleton.mp q
    subst q
    rcases List.mem_cons.mp ha with q | q
    ·exact hCD q.symm
    ·exact hcells _ (xw q) hD0
   have V5:=V4.ext y2 dfeet
   have W5:=W4.ext V4 y2 dfeet
   have st4:=I.ext st3 y1 (fun a uu q=>nomatch q)
   have st5:=I.ext st4 y2 (fun a ha q=>hDP ((List.mem_singleton.mp q) ▸ ha))
   have nD : D ∉ δ4:=fun q=>by have:=y1.new D q;rw [hD3] at this;cases this
   have hid4:=hid.ext nD
   have hHd4 : ∀ a ∈ HD,HidA ((ρ₀ ++ δ) ++ δ4) a h0:=fun a ha=>(hHd a ha).ext fun q=>by
    have q1:=y1.new a q
    obtain ⟨o,ho,_⟩:=R3.obj h0 .hid a (hk3 (hHD a ha)).1 (hHd a ha).1
    rw [ho] at q1;cases q1
   have x5 : Ext ρ₀ [] s₀ s4 (δ ++ δ4):=by
    have z1:=x3.seq y1
    have y2' : Ext (ρ₀ ++ (δ ++ δ4)) [D] s4' s4 []:=by rw [← List.append_assoc];exact y2
    have z2:=z1.trans y2' (fun a ha=>.inr (by rw [List.mem_singleton.mp ha];exact hD0))
    rwa [List.append_nil] at z2
   rw [List.append_nil] at V5 W5 st5
   have e : (ρ₀ ++ δ) ++ δ4 = ρ₀ ++ (δ ++ δ4):=List.append_assoc ..
   rw [e] at R4 ha4 V5 W5 st5 hid4 hHd4
   exact ih L1 H4 acc' (δ ++ δ4) s4 vs' nn' he4 x5 R4 st5 V5 W5 hD4 ha4 hid4 hHd4 hok4
  revert he;refine zC fun t4 H4 hc4 he=>?_
  refine zb (zpk hC ci hc4 R3 V3 W3 Rm fun s4 δ4 x4 R4=>?_)
  have hD4:=x4.keep D _ hD3 hid.free (fun q=>nomatch q)
  have nD : D ∉ δ4:=fun q=>by have:=x4.new D q;rw [hD3] at this;cases this
  revert he;refine jh (fun ht he=>yk ht ?_) fun ht he=>zF ht ?_
  ·revert he;refine zC fun y H5 hel=>zk fun uu hok5=>zX fun hlen he=>?_
   refine zb (zb (hE ce hel R4 (V3.step x4) (W3.step V3 x4) Rm fun s5 δ5 v5 x5 R5 r5=>?_))
   have nD5 : D ∉ δ5:=fun q=>by have:=x5.new D q;rw [hD4] at this;cases this
   have hD5 : s5.heap.get? D = some (zP vs nn):=x5.keep D _ hD4 (hid.ext nD).free (fun q=>nomatch q)
   have ha5:=x5.vrs (x4.vrs ha3)
   have hid5 : HidA (((ρ₀ ++ δ) ++ δ4) ++ δ5) D ja:=(hid.ext nD).ext nD5
   obtain ⟨g1,g2,_⟩:=ze5 hok5
   rw [← hja] at g1 g2
   have Pd : Priv (((ρ₀ ++ δ) ++ δ4) ++ δ5) H5 B s5.heap [D]:=fun a ha=>by
    exact (List.mem_singleton.mp ha) ▸ ⟨hDB,.inr ⟨ja,hid5,g1,g2⟩⟩
   have hT : s5.TypeIs (.ref D) "list":=⟨_,hD5,rfl⟩
   have hl6 : IsL s5.heap D vs.toArray nn:=hD5
   have hup:=hl6.update (·.push v5)
   have S6 : Still [D] s5 { s5 with heap:=s5.heap.update D (Obj.mapSeq (·.push v5)),toks:=s5.toks }:=Still.sameBut _ (Heap.SameBut.update ..) (List.mem_singleton.mpr rfl) (hup ▸ fun q=>nomatch q)
   refine zm (call_meets PySem.F.slot_list_append hT PySem.F.entry_list_append (PySem.F.args_list_append_2 _ _) (PySem.list_append D vs.toArray nn v5 (by rw [List.size_toArray,ha.length];exact kO hlen)) ⟨hl6,?_⟩)
   refine zg (zg ⟨rfl,rfl,?_⟩)
   have e45 : ((ρ₀ ++ δ) ++ δ4) ++ δ5 = (ρ₀ ++ δ) ++ (δ4 ++ δ5):=List.append_assoc ..
   refine next (δ4:=δ4 ++ δ5) (vs':=vs ++ [v5]) (nn':=if ((vs.toArray.push v5).size == vs.toArray.size) = true then nn else nn + 1) he (.inr ⟨s5,x4.seq x5,?_⟩) ?_ ?_ ?_ hok5
   ·rw [← e45];exact Pd.ext S6
   ·rw [← e45];exact Pd.rel S6 R5
   ·have : (vs.toArray.push v5) = (vs ++ [v5]).toArray:=by simp
    show _ = some (zP _ _)
    unfold zP
    exact this ▸ hup
   ·rw [← e45]
    have z:=VRs.keep (Pd.ext S6).k _ _ (ha5.append (VRs.one r5))
    rwa [List.append_nil] at z
  ·revert he;refine zk fun uu hok4 he=>?_
   exact zg ⟨rfl,rfl,next he (.inl x4) R4 hD4 (x4.vrs ha3) hok4⟩
end
end Mine
namespace Mine
open PySem PySem.W PyProof.Rows PySem.Spec
theorem Rel.shrink {prog : Program} {w : World} {B : Heap} {ρ : List Addr} {H : Hp} {s s' : Shared} (R : Rel prog w B ρ H s.heap) {h0 : Nat} {Y : List Addr} (hl : ∀ (i : Nat) (a : Addr),LocA s.heap ρ i a → i < h0) (q : Quiet Y s s')
  (hY : ∀ a ∈ Y,B.get? a = none ∧ ((a ∉ ρ ∧ ∀ o,s.heap.get? a = some o → zM o = false) ∨ (a ∈ ρ ∧ ∀ i : Nat,ρ[i]? = some a → h0 ≤ i))) (hle : h0 ≤ ρ.length) :
  Rel prog w B (ρ.take h0) (H.take h0) s'.heap ∧ Map ρ (ρ.take h0) s.heap s'.heap:=by
 have ge : ∀ {i : Nat} {a : Addr},(ρ.take h0)[i]? = some a → i < h0 ∧ ρ[i]? = some a:=fun {i a} e=>by
  replace e:=List.getElem?_take ▸ e
  split at e
  ·rename_i l;exact ⟨l,e⟩
  ·cases e
 have k : Map ρ (ρ.take h0) s.heap s'.heap:=by
  refine ⟨fun a o e n v=>⟨q.keep a o e fun m=>?_,fun m=>n (List.mem_of_mem_take m)⟩,fun i a l=>?_⟩
  ·rcases (hY a m).2 with t | t
   ·rw [t.2 o e] at v;cases v
   ·exact n t.1
  ·have li:=hl i a l
   obtain ⟨l1,l2,l3⟩:=l
   refine ⟨by rw [List.getElem?_take,if_pos li];exact l1,fun j hj=>l2 j (ge hj).2,fun z=>?_⟩
   have na : a ∉ Y:=fun m=>by
    rcases (hY a m).2 with t | t
    ·exact t.1 (List.mem_of_getElem? l1)
    ·exact absurd (t.2 i l1) (Nat.not_le.mpr li)
   cases y : s.heap.get? a with
   | none=>exact l3 y
   | some o=>rw [q.keep a o y na] at z;cases z
 refine ⟨⟨fun a o e=>q.keep a o (R.base a o e) fun m=>(by rw [(hY a m).1] at e;cases e),by rw [List.length_take,List.length_take,R.len],fun a m=>R.fresh a (List.mem_of_mem_take m),fun i m a g e=>?_⟩,k⟩
 replace g:=List.getElem?_take ▸ g
 split at g
 ·rename_i li
  obtain ⟨_,e'⟩:=ge e
  obtain ⟨o,ho,hr⟩:=R.obj i m a g e'
  refine ⟨o,q.keep a o ho fun mm=>?_,hr.map k⟩
  rcases (hY a mm).2 with t | t
  ·exact t.1 (List.mem_of_getElem? e')
  ·exact absurd (t.2 i e') (Nat.not_le.mpr li)
 ·cases g
theorem zjp (k : Nat) : jz k = qf k ++ [.hid,.hid]:=by
 rcases k with _ | _ | _ | _ | k <;> rfl
theorem q8 {H l : Hp} (i : Nat) (h : l[i]? = some .hid) : wo (H ++ l) (H.length + i) = some ():=(zr (show (H ++ l)[H.length + i]? = some .hid by rw [List.getElem?_append_right (Nat.le_add_right _ _),Nat.add_sub_cancel_left];exact h)).trans rfl
theorem qO (k : Nat) (H : Hp) : za4 H.length k (H ++ jz k) = some ():=by
 have a0 : wo (H ++ jz k) H.length = some ():=q8 0 (by rcases k with _ | _ | _ | _ | k <;> rfl)
 have a1 : wo (H ++ jz k) (H.length + 1) = some ():=q8 1 (by rcases k with _ | _ | _ | _ | k <;> rfl)
 refine (zr a0).trans ((zr a1).trans ?_)
 rcases k with _ | _ | _ | _ | k
 ·rfl
 ·rfl
 ·rfl
 ·exact (zr (q8 2 rfl)).trans (q8 3 rfl)
 ·rfl
theorem zdv {α : Type} {M : Model} {A : Around} {E : Value → Shared → Prop} {s : Shared} {c : Prop} [Decidable c] {pos : Pos} {k : PUnit → Sem α} {Q : α → Shared → Prop} (h : wpN M A (k ()) Q E s) :
  wpN M A (if c then (standAt pos >>= k) else k ()) Q E s:=by
 split
 ·exact zb (zl h)
 ·exact h
theorem kR {e : PySem.Expr} {env : Env} (h : zO e = true) (x : Value) : foldedSetIterable e env x = pure x:=by
 cases e <;> first | rfl | exact absurd h Bool.false_ne_true | cases h
section
variable {prog : Program} {A : Around} {w : World} {B : Heap} {ρ ρ' δ : List Addr} {H H' H1 : Hp} {s s₁ : Shared} {h h' : Heap} {E : Value → Shared → Prop} {P : Prg} {K : Frag} {env : Env} {L L1 : Loc} {n : Nat} {v : PV} {m : ME} {b : Bool} {Q : Value → Shared → Prop}
theorem zh7 {elt target iter : PySem.Expr} {ifs : List PySem.Expr} {scope : Scope} {pos : Pos} {it acc : Value} {cenv : Env} {R : Result → Shared → Prop} (hs : ∀ (Q : Value → Shared → Prop) (E : Value → Shared → Prop),Q it s → wpAny (model prog w) A (pyIter it) Q E s)
  (h : z4 (model prog w) A (.compLoop (.ListComp elt [⟨target,iter,ifs,0⟩] scope pos) 0 it acc cenv) R s) : z4 (model prog w) A (.compStart (.ListComp elt [⟨target,iter,ifs,0⟩] scope pos) 0 it acc cenv) R s:=by
 refine zB ?_
 rw [Around.under_of_weight (by rfl) (by rfl)]
 show wpN _ _ ((compStart (.ListComp elt [⟨target,iter,ifs,0⟩] scope pos) 0 it acc cenv).onRaise _) _ _ _
 refine zJ ?_
 unfold compStart
 show wpN _ _ (ask >>= _) _ _ s
 refine zm (wpAny_askSetting (zql ?_))
 split
 ·first
   | exact zb (zg (zg ⟨rfl,rfl,h⟩))
   | exact zg ⟨rfl,rfl,h⟩
 ·refine zb (qx ?_)
  show wpN _ _ (standAt iter.pos >>= _) _ _ s
  exact zb (zl (zm (hs _ _ (zg ⟨rfl,rfl,h⟩))))
theorem zls {h : Heap} {σ HD : List Addr} {D : Addr} {k hh : Nat} (hl : σ.length = hh + (jz k).length) (hid : HidA σ D (hh + (qf k).length)) (hk : (k ≠ 3 ∧ HD = []) ∨ (k = 3 ∧ ∃ a,HD = [a])) (hHd : ∀ a ∈ HD,HidA σ a hh) (i : Nat) (a : Addr) (la : LocA h σ i a) : i < hh:=by
 refine Nat.lt_of_not_le fun hge=>?_
 have hi:=(List.getElem?_eq_some_iff.mp la.1).1
 have two : ∀ {d : Addr} {j : Nat},HidA σ d j → i = j ∨ i = j + 1 → False:=fun {d j} hd hj=>by
  rcases hj with rfl | rfl
  ·have e1:=Option.some.inj (la.1.symm.trans hd.1)
   exact absurd (la.2.1 _ (e1 ▸ hd.2.1)) (Nat.succ_ne_self _)
  ·have e1:=Option.some.inj (la.1.symm.trans hd.2.1)
   exact absurd (la.2.1 _ (e1 ▸ hd.1)) (Nat.succ_ne_self _).symm
 rw [hl,zjp,List.length_append] at hi
 replace hi : i < hh + ((qf k).length + 2):=hi
 rcases hk with ⟨hk,_⟩ | ⟨rfl,a',rfl⟩
 ·have hS0 : (qf k).length = 0:=by rcases k with _ | _ | _ | _ | k <;> first | rfl | exact absurd rfl hk
  rw [hS0] at hi hid
  exact two hid (by lia)
 ·rcases Nat.lt_or_ge i (hh + 2) with c | c
  ·exact two (hHd a' (List.mem_singleton.mpr rfl)) (by lia)
  ·replace hi : i < hh + 4:=hi
   exact two (j:=hh + 2) hid (by lia)
theorem zpm {D : Addr} {ja k : Nat} {HD PR : List Addr} {cenv : Env} {items : List PV} {Hf Hs : Hp} {s' : Shared} (CE : CEnd prog w B ρ s D ja HD Hs.length PR cenv items Hf s') (hja : ja = Hs.length + (qf k).length) (hlen : Hf.length = Hs.length + (jz k).length)
  (hH' : H' = Hf.take Hs.length) (hle0 : ρ.length ≤ Hs.length) (hPR : ∀ a ∈ PR,s.heap.get? a = none ∧ B.get? a = none) (hk : (k ≠ 3 ∧ HD = []) ∨ (k = 3 ∧ ∃ a,HD = [a])) (hDP : D ∉ PR) (hCP : cenv.locals ∉ PR) :
  ∃ δf,Ext ρ [] s s' δf ∧ Rel prog w B (ρ ++ δf) H' s'.heap ∧ VR s'.heap (ρ ++ δf) (.lst items) (.ref D) ∧ cenv.locals ∉ ρ ++ δf ∧ ∃ mC,s'.heap.Ns cenv.locals mC:=by
 subst hja hH'
 obtain ⟨s5,δ,vs',k',x5,R5,q5,V5,hD5,ha5,hid5,hHd5,hPv5⟩:=CE.out
 have hl5:=R5.len.trans hlen
 obtain ⟨Rf,kf⟩:=R5.shrink (zls hl5 hid5 hk hHd5) q5 (fun a ha=>⟨(hPR a ha).2,(hPv5 a ha).imp id fun hq=>⟨hq.mem,fun i hi=>(hq.2.2 i hi).elim (fun r=>Nat.le_of_eq r.symm) fun r=>r ▸ Nat.le_succ _⟩⟩) (hl5 ▸ Nat.le_add_right _ _)
 have esp : (ρ ++ δ).take Hs.length = ρ ++ δ.take (Hs.length - ρ.length):=by
  rw [List.take_append,List.take_of_length_le hle0]
 have tk : ∀ {a : Addr},a ∈ ρ ++ δ.take (Hs.length - ρ.length) → a ∈ (ρ ++ δ).take Hs.length:=fun m=>esp ▸ m
 have z:=x5.quiet q5 fun a ha=>(hPR a ha).1
 refine ⟨δ.take (Hs.length - ρ.length),⟨z.keep,z.vals,fun a ha=>z.new a (List.mem_of_mem_take ha),z.gone,z.gens,z.drawn,z.os⟩,esp ▸ Rf,⟨_,vs',rfl,fun mm=>?_,⟨_,q5.keep _ _ hD5 hDP,rfl,k',rfl⟩,esp ▸ VRs.map kf _ _ ha5⟩,fun mm=>V5.lnew.1 (List.mem_of_mem_take (tk mm)),?_⟩
 ·obtain ⟨i,hi,e⟩:=List.getElem_of_mem (tk mm)
  have e':=List.getElem?_eq_getElem hi
  rw [e,List.getElem?_take] at e'
  by_cases li : i < Hs.length
  ·rw [if_pos li] at e'
   rcases hid5.2.2 i e' with r | r <;> lia
  ·rw [if_neg li] at e';cases e'
 ·obtain ⟨mC,oC,esC,epC,hoC,rC⟩:=V5.ns
  exact ⟨mC,oC,esC,epC,q5.keep _ _ hoC hCP,rC⟩
theorem zlr {C : Addr} {s6 : Shared} {h7 : Heap} {δ6 : List Addr} {v6 : PV} {val6 : Value} (hCB : B.get? C = none) (hC0 : s.heap.get? C = none) (y1 : Ext ρ [] s s6 δ6) (y2 : Rel prog w B (ρ ++ δ6) H' s6.heap) (y3 : VR s6.heap (ρ ++ δ6) v6 val6) (y4 : C ∉ ρ ++ δ6)
  (y5 : ∃ m,s6.heap.Ns C m) (y6 : ∃ m,h7.Ns C m) (y7 : Heap.SameBut C s6.heap h7) : Ext ρ [] s { s6 with heap:=h7 } δ6 ∧ Rel prog w B (ρ ++ δ6) H' h7 ∧ VR h7 (ρ ++ δ6) v6 val6:=by
 obtain ⟨m6,y5⟩:=y5
 obtain ⟨m7,y6⟩:=y6
 have Pc : Priv (ρ ++ δ6) H' B s6.heap [C]:=fun a ha=>(List.mem_singleton.mp ha) ▸ ⟨hCB,.inl ⟨y4,fun o e=>zhf y5 e⟩⟩
 have S7 : Still [C] s6 { s6 with heap:=h7,toks:=s6.toks }:=Still.sameBut _ y7 (List.mem_singleton.mpr rfl) (by obtain ⟨o,_,_,ho,_⟩:=y6;rw [ho];exact fun q=>nomatch q)
 have z:=y1.trans (Pc.ext S7) (fun a ha=>.inr (by rw [List.mem_singleton.mp ha];exact hC0))
 exact ⟨(List.append_nil δ6) ▸ z,Pc.rel S7 y2,Pc.vr S7 y3⟩
theorem vV {E : Loc → Hp → Option (PV × Hp)} {F : Loc → Hp → Option (Bool × Hp)} {t : List Nat} {h0 k : Nat} : ∀ (l : List PV) (L : Loc) (Hx : Hp) (acc : List PV) {v : PV} {H' : Hp},vq E F t h0 k l L Hx acc = some (v,H') → ∃ items,v = .lst items
 | [],L,Hx,acc,v,H',q=>yp q fun uu q=>⟨_,(z6 q).1.symm⟩
 | x :: r,L,Hx,acc,v,H',q=>zq q fun L1 uu q=>vx q fun b H1 uu q=>ki q (fun uu q=>vx q fun x H2 uu q=>zq q fun uu uu q=>yp q fun uu q=>vV r _ _ _ q) fun uu q=>zq q fun uu uu q=>vV r _ _ _ q
theorem zh9 (V : EnvOk B env ρ s.heap) (names : List (Str × NameKind)) : ∀ a ∈ (yM env names []).map (·.2),s.heap.get? a ≠ none:=fun a ha=>by
 obtain ⟨⟨nm,a'⟩,hm,rfl⟩:=List.mem_map.mp ha
 rcases qT hm with q | q
 ·cases q
 ·obtain ⟨vv,o,ho,_⟩:=V.cell nm a' q
  exact fun z=>Option.some_ne_none _ (ho.symm.trans z)
theorem zpl (hE : EOk prog w B P n) (hC : COk prog w B P n) {elt target iter : PySem.Expr} {ifs : List PySem.Expr} {scope : Scope} {pos : Pos} {t : List Nat} {e2 : List ME} {e1 : ME} {k : Nat} {it : Value} {s2 : Shared} {δ1 : List Addr} {Hs : Hp} {l items : List PV} {h4 : Heap} {C D : Addr}
  (h2 : scope.kind = .function) (ct : xE true (qo scope env.scope) target = some t) (ce : cE k (qo scope env.scope) elt = some e1) (cc : cEs k (qo scope env.scope) ifs = some e2)
  (hn : ju scope env.scope t = true) (htf : kL (zL iter) t = true) (S : Start prog w B (zL iter) ρ s Hs l it s2 δ1) (V : EnvOk B env ρ s.heap) (W : VarsOk env ρ s.heap L) (Rm : Room A (n + 1))
  (hcv : vq (evE P n e1) (vp (evC P n) e2) t Hs.length (zL iter) l (noL t L) (Hs ++ jz (zL iter)) [] = some (.lst items,H')) (hDe : s2.heap.objs.size = D) (hCe : (s2.heap.push (zP [] 0)).objs.size = C)
  (hns : h4.Ns C (fun x=>([] : List (Str × Value)).reverse.lookup x)) (hsb : Heap.SameBut C ((s2.heap.push (zP [] 0)).push { cls:=.type "dict",data:=.dict #[] }) h4) :
  ∃ PR HD,(∀ a ∈ PR,s.heap.get? a = none ∧ B.get? a = none) ∧ ((zL iter ≠ 3 ∧ HD = []) ∨ (zL iter = 3 ∧ ∃ a,HD = [a])) ∧ D ∉ PR ∧ C ∉ PR ∧ B.get? C = none ∧ s.heap.get? C = none ∧
   (∀ (Q : Value → Shared → Prop) (E : Value → Shared → Prop),Q it { s2 with heap:=h4 } → wpAny (model prog w) A (pyIter it) Q E { s2 with heap:=h4 }) ∧
   ∀ RR : Result → Shared → Prop,(∀ s' Hf,Hf.length = Hs.length + (jz (zL iter)).length → H' = Hf.take Hs.length → CEnd prog w B ρ s D (Hs.length + (qf (zL iter)).length) HD Hs.length PR (compEnvC scope (yM env scope.names []) C env) items Hf s' → RR (.ok .next) s') →
    z4 (model prog w) A (.compLoop (.ListComp elt [⟨target,iter,ifs,0⟩] scope pos) 0 it (.ref D) (compEnvC scope (yM env scope.names []) C env)) RR { s2 with heap:=h4 }:=by
 obtain ⟨PR,HD,St,SI,Sst,SP,SHD⟩:=S.go
 have hh:=Rm.handled
 have hD2 : s2.heap.get? D = none:=hDe ▸ zU _
 obtain ⟨R3,x3,hid⟩:=S.rel.hide (a:=D) (h':=s2.heap.push (zP [] 0)) s2.toks hD2 (fun b o e=>Heap.get?_push_of_some _ e) (by rw [← hDe,Heap.get?_push_size _ rfl];exact fun q=>nomatch q)
 have V1:=(V.step S.ext)
 have W1:=(W.step V S.ext)
 have V3:=V1.step x3
 have W3:=W1.step V1 x3
 have hC3 : (s2.heap.push (zP [] 0)).get? C = none:=hCe ▸ zU _
 have hCD : C ≠ D:=by rw [← hCe,← hDe,Heap.size_push];exact Nat.succ_ne_self _
 have k4 : ∀ b o,(s2.heap.push (zP [] 0)).get? b = some o → h4.get? b = some o:=fun b o e=>hsb.extBut b o (fun q=>Option.some_ne_none _ (e.symm.trans (q ▸ hC3))) (Heap.get?_push_of_some _ e)
 have hC2 : s2.heap.get? C = none:=by
  cases q : s2.heap.get? C with
  | none=>rfl
  | some o=>exact absurd ((Heap.get?_push_of_some _ q).symm.trans hC3) (Option.some_ne_none _)
 have hDat : (s2.heap.push (zP [] 0)).get? D = some (zP [] 0):=hDe ▸ Heap.get?_push_size _ rfl
 have S4 : Still [] { s2 with heap:=s2.heap.push (zP [] 0) } { s2 with heap:=h4,toks:=s2.toks }:=Still.kept _ k4
 have x4:=S4.ext0 (ρ:=(ρ ++ δ1) ++ [D,D])
 have R4:=R3.still0 (s:={ s2 with heap:=s2.heap.push (zP [] 0) }) S4
 have V4:=V3.step (s:={ s2 with heap:=s2.heap.push (zP [] 0) }) x4
 have W4:=W3.step (s:={ s2 with heap:=s2.heap.push (zP [] 0) }) V3 x4
 rw [List.append_nil] at V4 W4
 obtain ⟨VC,WC⟩:=zpn (s:={ s2 with heap:=h4,toks:=s2.toks }) hn h2 V4 W4 hns (R3.off' hC3) (R3.bnone hC3)
 have eass : (ρ ++ δ1) ++ [D,D] = ρ ++ (δ1 ++ [D,D]):=List.append_assoc ..
 have X4 : Ext ρ [] s { s2 with heap:=h4,toks:=s2.toks } (δ1 ++ [D,D]):=(List.append_nil (δ1 ++ [D,D])) ▸ (S.ext.seq x3).seq (ε:=[]) (eass ▸ x4)
 have St4 : St l ((ρ ++ δ1) ++ [D,D]) h4:=(List.append_nil ((ρ ++ δ1) ++ [D,D])) ▸ (SI A hh).ext (s:={ s2 with heap:=s2.heap.push (zP [] 0) }) ((SI A hh).ext Sst x3 (fun a uu q=>nomatch q)) x4 (fun a uu q=>nomatch q)
 have hC0 : s.heap.get? C = none:=S.ext.gone C hC2
 have hCP : C ∉ PR:=fun q=>(SP C q).2.2 hC2
 have hDP : D ∉ PR:=fun q=>(SP D q).2.2 hD2
 have hPR : ∀ a ∈ PR,s.heap.get? a = none ∧ B.get? a = none:=fun a ha=>⟨(SP a ha).1,(SP a ha).2.1⟩
 refine ⟨PR,HD,hPR,SHD.imp id fun q=>⟨q.1,q.2.imp fun a q=>q.1⟩,hDP,hCP,R3.bnone hC3,hC0,fun Q' E' hq=>(SI A hh).self (s:={ s2 with heap:=h4,toks:=s2.toks }) St4 hq,fun RR fin=>?_⟩
 refine zlq hE hC (cenv:=compEnvC scope (yM env scope.names []) C env) (t:=t) ct ((zai (env:=compEnvC scope (yM env scope.names []) C env) ct).2 _ htf) ce cc hh Rm.down (SI A hh)
  hPR (S.rel.bnone hD2) (S.ext.gone D hD2) hC0 hCP hDP hCD (fun uu uu uu=>trivial) (zh9 V _) (fun a ha=>?_) rfl fin l (noL t L) (Hs ++ jz (zL iter)) [] (δ1 ++ [D,D]) { s2 with heap:=h4,toks:=s2.toks } [] 0 hcv X4 ?_ (eass ▸ St4) (eass ▸ VC) (eass ▸ WC) (k4 _ _ hDat) rfl ?_ (fun a ha=>?_) (qO _ _)
 ·rcases SHD with ⟨_,q⟩ | ⟨q,_⟩
  ·rw [q] at ha;cases ha
  ·exact q
 ·rw [← eass,zjp,← List.append_assoc];exact R4
 ·rw [← eass,← List.length_append,← S.rel.len];exact hid
 ·rw [← eass]
  rcases SHD with ⟨_,q⟩ | ⟨_,a',q,q'⟩
  ·rw [q] at ha;cases ha
  ·rw [q] at ha
   rw [List.mem_singleton.mp ha]
   exact q'.ext fun m=>S.rel.off' hD2 (by simp at m;rw [← m];exact q'.mem)
theorem zj1 (T : TopK prog w K B P) (hE : ∀ m ≤ n,EOk prog w B P m) (hEs : ∀ m ≤ n,EsOk prog w B P m) (hC : COk prog w B P n) {elt target iter : PySem.Expr} {ifs : List PySem.Expr} {scope : Scope} {pos p : Pos} {t : List Nat} {its e2 : List ME} {e1 : ME} {k : Nat} {use : Option (Value → Sem Unit)}
  (h1 : zO iter = true) (h2 : scope.kind = .function) (ct : xE true (qo scope env.scope) target = some t) (ci : cIt k env.scope iter = some its) (ce : cE k (qo scope env.scope) elt = some e1) (cc : cEs k (qo scope env.scope) ifs = some e2)
  (hn : ju scope env.scope t = true) (htf : kL (zL iter) t = true) (he : evE P (n + 1) (.comp e1 t (zL iter) its e2) L H = some (v,H')) (R : Rel prog w B ρ H s.heap) (V : EnvOk B env ρ s.heap) (W : VarsOk env ρ s.heap L) (Rm : Room A (n + 1))
  (hQn : use = none → Post prog w B ρ s H' v Q)
  (hQu : ∀ u,use = some u → ∀ s' δ val C,Ext ρ [] s s' δ → Rel prog w B (ρ ++ δ) H' s'.heap → VR s'.heap (ρ ++ δ) v val → s.heap.get? C = none → C ∉ ρ ++ δ → B.get? C = none → (∃ mC,s'.heap.Ns C mC) →
   wpN (model prog w) A (u val) (fun uu s''=>(∃ mC,s''.heap.Ns C mC) ∧ ∀ h',(∃ mC,h'.Ns C mC) → Heap.SameBut C s''.heap h' → Q .none { s'' with heap:=h' }) E s') :
  wpN (model prog w) A (comprehension (.ListComp elt [⟨target,iter,ifs,0⟩] scope pos) scope env p (newList []) false (eval iter env) use) Q E s:=by
 revert he;refine zC fun vs Hs es=>zk fun sr hsr=>zk fun l hl he=>?_
 have hsrc : y8 (zL iter) vs Hs = some (.vals l):=by
  cases sr with
  | vals l'=>exact Option.some.inj hl ▸ hsr
  | trk i=>exact zd hl
 have names:=@jL _ _ _ hn
 have hcl : ∀ x ∈ scope.names,x.2 = .free → ∃ a,env.cells.lookup x.1 = some a:=fun x hx hf=>by
  rcases names x hx with ⟨z,_⟩ | ⟨_,z⟩ | z
  ·rw [hf] at z;cases z
  ·exact V.has x.1 z
  ·rw [hf] at z;cases z
 have hnl : ∀ x ∈ scope.names,x.2 = .local → scope.names.lookup x.1 = some .local:=fun x hx hf=>by
  rcases names x hx with ⟨_,_,z⟩ | ⟨z,_⟩ | z
  ·exact z
  ·rw [hf] at z;cases z
  ·rw [hf] at z;cases z
 have hnc : ∀ x ∈ scope.names,x.2 ≠ .cell:=fun x hx hf=>by
  rcases names x hx with ⟨z,_⟩ | ⟨z,_⟩ | z <;> (rw [hf] at z;cases z)
 unfold comprehension
 rw [zid hcl]
 refine zb (zW (zms T hE hEs ci es hsrc R V W Rm.down (Q:=fun it s1=>∃ δ1,Start prog w B (zL iter) ρ s Hs l it s1 δ1) (E:=E) fun it s1 δ1 S=>⟨δ1,S⟩) (fun xv s1 hx=>?_) fun uu uu e=>e)
 refine zb (zl (zb (zT (kR h1 xv) (zb (zp (zW hx (fun it s2 hS=>cp fun no=>?_) fun uu uu e=>e))))))
 obtain ⟨δ1,S⟩:=hS
 refine no (zdv ?_)
 refine zm (wpAny_newList ?_ (Nat.zero_le _))
 refine zb (zg ?_)
 refine zm (wpAny_newFunctionEnv (around:=some env) hnc (fun x h=>nomatch h) (fun h4 hns hsb=>cp fun no=>?_) h2)
 obtain ⟨items,hve⟩:=vV _ _ _ _ he
 obtain ⟨PR,HD,m1,m2,m3,m4,m5,m6,m7,loop⟩:=zpl (pos:=pos) (hE n (Nat.le_refl _)) hC h2 ct ce cc hn htf S V W Rm (hve ▸ he) rfl rfl hns hsb
 refine no (zp (zb (zdw (zp (zbp rfl ?_ fun x=>nomatch x)))))
 show z4 (model prog w) A (.compStart (.ListComp elt [⟨target,iter,ifs,0⟩] scope pos) 0 it (.ref s2.heap.objs.size) (compEnvC scope (yM env scope.names []) (s2.heap.push (zP [] 0)).objs.size env)) _ { s2 with heap:=h4,toks:=s2.toks }
 refine zh7 m7 (loop _ fun s' Hf hlen hH' CE=>cp fun no=>?_)
 obtain ⟨δf,xf,Rf,hVR,hCρ',mC,hCs'⟩:=zpm CE rfl hlen hH' S.len m1 m2 m3 m4
 refine no ?_
 have hvars : ∀ x ∈ (scope.names.filter fun x=>(x.2 == .local || x.2 == .cell) && x.1 != (".0" : Str)).reverse,x.2 = .local → (compEnvC scope (yM env scope.names []) (s2.heap.push (zP [] 0)).objs.size env).kindOf x.1 = some .local :=
  fun x hx hl=>lookup_relabel_local (hnl x (List.mem_filter.mp (List.mem_reverse.mp hx)).1 hl)
 cases use with
 | none =>
  refine wpN.of (wpAny_bind (wpAny_holding (wpAny_comp_letGo (cenv:=compEnvC scope (yM env scope.names []) (s2.heap.push (zP [] 0)).objs.size env) h2 _ s' mC hvars hCs' fun h7 m7 hn7 hs7=>wpAny_pure (cp fun no=>?_))))
  obtain ⟨z1,z2,z3⟩:=zlr m5 m6 xf Rf hVR hCρ' ⟨mC,hCs'⟩ ⟨m7,hn7⟩ hs7
  exact no (hQn rfl _ _ _ z1 z2 (hve ▸ z3))
 | some u =>
  refine zb (qx (zb (zp (zW (hQu u rfl s' δf _ _ xf Rf (hve ▸ hVR) m6 hCρ' m5 ⟨mC,hCs'⟩) (fun uu s'' hq=>cp fun no=>?_) fun uu uu e=>e))))
  obtain ⟨⟨m8,hn8⟩,hq⟩:=hq
  refine no (wpN.of (wpAny_bind (wpAny_comp_letGo (cenv:=compEnvC scope (yM env scope.names []) (s2.heap.push (zP [] 0)).objs.size env) h2 _ s'' m8 (fun x hx hl=>hvars x ?_ hl) hn8 fun h7 m7 hn7 hs7=>wpAny_pure (hq h7 ⟨m7,hn7⟩ hs7))))
  exact (List.mem_append.mp hx).elim List.mem_of_mem_drop List.mem_of_mem_take
end
end Mine
namespace Mine
open PySem PySem.W PyProof.Rows PySem.Spec
section
variable {prog : Program} {w : World} {B : Heap} {P : Prg} {K : Frag} {n : Nat}
structure CompOk (k : Nat) (sc : Scope) (a : ME) (elt target iter : PySem.Expr) (ifs : List PySem.Expr) (scope : Scope) (e1 : ME) (t : List Nat) (its e2 : List ME) : Prop where
 me : a = .comp e1 t (zL iter) its e2
 plain : zO iter = true
 kind : scope.kind = .function
 ct : xE true (qo scope sc) target = some t
 ci : cIt k sc iter = some its
 ce : cE k (qo scope sc) elt = some e1
 cc : cEs k (qo scope sc) ifs = some e2
 names : ju scope sc t = true
 tgt : kL (zL iter) t = true
theorem and4 {a b c d : Bool} (h : (a && b && c && d) = true) : a = true ∧ d = true:=by
 obtain ⟨h,h4⟩:=Bool.and_eq_true_iff.mp h
 exact ⟨(Bool.and_eq_true_iff.mp (Bool.and_eq_true_iff.mp h).1).1,h4⟩
theorem zfj {k : Nat} {sc : Scope} {elt : PySem.Expr} {gs : List Comprehension} {scope : Scope} {pos : Pos} {a : ME} (h : zmq (cE k) sc (.ListComp elt gs scope pos) = some a) :
  ∃ target iter ifs e1 t its e2,gs = [⟨target,iter,ifs,0⟩] ∧ CompOk k sc a elt target iter ifs scope e1 t its e2:=by
 revert h;refine zk fun g hg=>zR fun hp=>zk fun t ct=>zk fun its ci=>zk fun e1 ce=>zk fun e2 cc=>zR fun hq h=>?_
 obtain ⟨tg,it,ifs,as⟩:=g
 obtain ⟨h0,hp⟩:=Bool.and_eq_true_iff.mp hp
 obtain ⟨hp1,hp2⟩:=Bool.and_eq_true_iff.mp (Bool.and_eq_true_iff.mp hp).1
 obtain ⟨q1,q4⟩:=and4 hq
 have h0 : as = 0:=of_decide_eq_true h0
 subst h0
 exact ⟨tg,it,ifs,e1,t,its,e2,yE hg,(Option.some.inj h).symm,hp1,of_decide_eq_true hp2,ct,ci,ce,cc,q1,q4⟩
theorem e_ok (T : TopK prog w K B P) (hE : ∀ m ≤ n,EOk prog w B P m) (hEs : ∀ m ≤ n,EsOk prog w B P m) (hA : AllOk prog w B P n) (hC : COk prog w B P n) (hCall : CallOk prog w B P n) : EOk prog w B P (n + 1):=by
 intro A ρ H H' s E env L k e m v Q hc he R V W Rm hQ
 have h1 : EOk prog w B P n:=hE n (Nat.le_refl _)
 have h2 : EsOk prog w B P n:=hEs n (Nat.le_refl _)
 refine vX hc fun k uu hc=>?_
 cases e with
 | Constant c=>exact zpj hc he R hQ
 | Name id=>exact zrh T hc he R V W hQ
 | BinOp l op r =>
  revert hc;refine zk fun a ha=>zk fun b hb hc=>?_
  obtain rfl:=Option.some.inj hc
  exact zvg T h1 ha hb he R V W Rm hQ
 | UnaryOp op x =>
  revert hc;refine zk fun a ha hc=>?_
  cases op with
  | Not=>obtain rfl:=Option.some.inj hc;exact zuf h1 ha he R V W Rm hQ
  | USub=>obtain rfl:=Option.some.inj hc;exact zui h1 ha he R V W Rm hQ
  | _=>exact zd hc
 | BoolOp op vs pos =>
  revert hc;refine zk fun l hl hc=>?_
  obtain rfl:=Option.some.inj hc
  exact hA hl he R V W Rm.down hQ
 | IfExp c a b =>
  revert hc;refine zk fun x hx=>zk fun y hy=>zk fun z hz hc=>?_
  obtain rfl:=Option.some.inj hc
  exact zup h1 hC hx hy hz he R V W Rm hQ
 | Compare l ops rs =>
  revert hc;refine zk fun a ha=>zk fun bs hb hc=>?_
  rcases zfl hb hc with ⟨op,r,b',rfl,rfl,hp,hb,rfl⟩ | ⟨o1,o2,r1,r2,b',c,rfl,rfl,hp,hb,hc2,rfl⟩
  ·exact zu7 T h1 hp ha hb he R V W Rm hQ
  ·exact zsg T h1 hp ha hb hc2 he R V W Rm hQ
 | Call f args kw pos =>
  revert hc;refine zR fun hg=>zk fun l hl=>kN (fun q hq=>zR fun hp=>zk fun a ha=>zk fun x hx hc=>?_) fun hq=>zk fun a ha hc=>?_
  ·obtain rfl:=Option.some.inj hc
   obtain ⟨g1,g2⟩:=Bool.and_eq_true_iff.mp hg
   obtain ⟨p1,p2⟩:=Bool.and_eq_true_iff.mp hp
   obtain rfl:=jS g1
   obtain rfl:=zl8 hq
   exact zny T h1 h2 hCall p1 p2 (of_decide_eq_true g2) ha hx hl he R V W Rm hQ
  ·obtain rfl:=Option.some.inj hc
   obtain rfl:=jS (Bool.and_eq_true_iff.mp hg).1
   exact zsj T h1 h2 hCall ha hl (fun o name apos q=>by subst q;cases hq) he R V W Rm hQ
 | Attribute o name =>
  revert hc;refine zR fun hp=>zk fun a ha=>zk fun x hx hc=>?_
  obtain rfl:=Option.some.inj hc
  exact zst T h1 hp ha hx he R V W Rm hQ
 | Subscript o sl =>
  revert hc;refine zk fun a ha=>kN (fun q hq=>zk fun b hb=>zk fun c hc'=>zk fun d hd hc=>?_) fun uu=>zR fun hp=>zk fun b hb hc=>?_
  ·obtain rfl:=Option.some.inj hc
   obtain rfl:=wR hq
   exact zmu T h1 ha hb hc' hd he R V W Rm hQ
  ·obtain rfl:=Option.some.inj hc
   exact zts T h1 hp ha hb he R V W Rm hQ
 | Tuple l =>
  revert hc;refine zX fun hl=>zk fun a ha hc=>?_
  obtain rfl:=Option.some.inj hc
  exact ztr h2 hl ha he R V W Rm hQ fun vs H e=>(jE e).trans (jy ha)
 | List l =>
  revert hc;refine zX fun hl=>zk fun a ha hc=>?_
  obtain rfl:=Option.some.inj hc
  exact zuj h2 hl ha he R V W Rm hQ
 | Dict ks vs =>
  revert hc;refine zk fun a ha=>zk fun b hb=>zR fun hp hc=>?_
  obtain rfl:=Option.some.inj hc
  have hp:=of_decide_eq_true (Bool.and_eq_true_iff.mp hp).1
  exact zsb hE ha hb hp.1 hp.2 he R V W Rm hQ
 | ListComp elt gs scope pos =>
  obtain ⟨target,iter,ifs,e1,t,its,e2,rfl,c⟩:=zfj hc
  obtain rfl:=c.me
  exact (eval_ListComp ..) ▸ zj1 T hE hEs hC c.plain c.kind c.ct c.ci c.ce c.cc c.names c.tgt he R V W Rm (fun uu=>hQ) (fun u q=>nomatch q)
 | _=>exact zd hc
end
end Mine
namespace Mine
open PySem PySem.W PyProof.Rows PySem.Spec
noncomputable def jo (e : PySem.Expr) : Bool:=Nat.ble 4 (xz e) && Nat.ble (xz e) 6
noncomputable def za0 : PySem.Expr → Bool
 | .Starred ..=>true
 | _=>false
noncomputable def znw (sc : Scope) (line : Nat) : PySem.Expr → Option Str
 | .Name id pos=>if sc.names.lookup id == some .local && pos.line == line then some id else none
 | _=>none
noncomputable def k0 (sc : Scope) (ts : List PySem.Expr) : List Str:=ts.filterMap (znw sc ((ts.head?.map (·.pos.line)).getD 0))
noncomputable def swapV (ts vs : List PySem.Expr) (sc : Scope) : Option (Option (List Str)) :=
 if !(ts.length == 2 || ts.length == 3) || vs.length != ts.length then some none
 else if vs.any za0 then some none
 else if (k0 sc ts).length != ts.length || (k0 sc ts).eraseDups.length != (k0 sc ts).length then some none
 else if vs.all (foldedForSure 8) then some none
 else if vs.all (constantsAlone 8) then none
 else some (some (k0 sc ts))
noncomputable def zaj (t e : PySem.Expr) (sc : Scope) : Option (Option (List Str)):=match t with
 | .List ..=>none
 | .Tuple ts _ _=>match e with
  | .Tuple vs _ _=>swapV ts vs sc
  | _=>some none
 | _=>some none
theorem ve {c : Prop} [Decidable c] {α : Type} {x y : Option α} {r : α} {z w : Sem α} (h : (if c then x else y) = some r) (k1 : x = some r → z = pure r) (k2 : y = some r → w = pure r) : (if c then z else w) = pure r:=by
 by_cases q : c
 ·rw [if_pos q] at h ⊢;exact k1 h
 ·rw [if_neg q] at h ⊢;exact k2 h
theorem yR {α : Type} {a r : α} (h : some a = some r) : (pure a : Sem α) = pure r:=Option.some.inj h ▸ rfl
theorem zi4 {t e : PySem.Expr} {env : Env} {r : Option (List Str)} (V : env.scope.kind = .function) (h : zaj t e env.scope = some r) : swappedStores [t] e env = pure r:=by
 have hb : (env.blockKind != .function) = false:=by unfold Env.blockKind;rw [V];rfl
 cases t with
 | Tuple ts c p =>
  cases e with
  | Tuple vs c' p' =>
   have key : swappedStores [.Tuple ts c p] (.Tuple vs c' p') env = (if !(ts.length == 2 || ts.length == 3) || vs.length != ts.length then pure none else if vs.any za0 then pure none
     else if (k0 env.scope ts).length != ts.length || (k0 env.scope ts).eraseDups.length != (k0 env.scope ts).length then pure none else if vs.all (foldedForSure 8) then pure none
     else if vs.all (constantsAlone 8) then (do unsupported "assign.tuple-of-constant-expressions:order-of-the-stores";pure (some (k0 env.scope ts))) else pure (some (k0 env.scope ts))):=by
    unfold swappedStores
    dsimp only
    rw [hb,Bool.or_false]
    rfl
   rw [key]
   refine ve h yR fun h=>ve h yR fun h=>ve h yR fun h=>ve h yR fun h=>?_
   by_cases q : vs.all (constantsAlone 8) = true
   ·rw [if_pos q] at h;cases h
   ·rw [if_neg q] at h ⊢;exact yR h
  | _=>exact yR h
 | List=>exact zd h
 | _=>exact yR h
noncomputable def cLT (f : PySem.Expr → Option MT) : List PySem.Expr → Option (List MT)
 | []=>some []
 | e :: r=>bn (f e) fun a=>bn (cLT f r) fun b=>some (a :: b)
noncomputable def stT (F : PySem.Expr → Option ME) (G : PySem.Expr → Option MT) (sc : Scope) (t : PySem.Expr) : Option MT:=match t with
 | .Name id _=>bn (yK false sc id) fun x=>some (.name x)
 | .Attribute o a _=>bn (F o) fun m=>bn (nid a) fun n=>some (.attr m n)
 | .Subscript o s _=>bn (F o) fun a=>kv (zgs s)
   (fun q=>gr (zs6 q.2.2.1)<|bn (oE F q.1) fun b=>bn (oE F q.2.1) fun c=>some (.slice a b c))
   (gr (zO s)<|bn (F s) fun b=>some (.sub a b))
 | .Tuple ts _ _=>bn (cLT G ts) fun l=>some (.tup l)
 | _=>none
noncomputable def cT : Nat → Scope → PySem.Expr → Option MT
 | 0,_,_=>none
 | k + 1,sc,t=>stT (cE k sc) (cT k sc) sc t
noncomputable def cTs (k : Nat) (sc : Scope) (l : List PySem.Expr) : Option (List MT):=cLT (cT k sc) l
noncomputable def znv : MT → Option Nat
 | .name x=>some x
 | _=>none
noncomputable def stS (k : Nat) (G : Stmt → MS) (sc : Scope) (s : Stmt) : Option MS:=match s with
 | .Expr e _=>gr (!jo e)<|bn (cE k sc e) fun a=>some (.expr a)
 | .Pass _=>some .pass
 | .Continue _=>some .cont
 | .Return o _=>bn (cO k sc o) fun a=>some (.ret a)
 | .Assign ts e _=>bn (one ts) fun t=>bn (cT k sc t) fun mt=>bn (cE k sc e) fun a=>cond (jo e)
   (bn (znv mt) fun x=>some (.assign (.name x) a))
   (bn (zaj t e sc) fun o=>kv o (fun names=>bn (names.mapM nid) fun xs=>some (.swap xs a)) (some (.assign mt a)))
 | .AugAssign t op e _=>bn (wj t) fun q=>gr (za2 op)<|bn (yK false sc q.1) fun x=>bn (cE k sc e) fun a=>some (.aug x a)
 | .If c a b _=>bn (cE k sc c) fun m=>some (.ifs m (a.map G) (b.map G))
 | .While c a els _=>gr (xh els)<|bn (cE k sc c) fun m=>some (.whl m (a.map G))
 | .For t it b els _=>gr (xh els)<|gr (zO it && !(zL it == 3))<|bn (xE false sc t) fun xs=>bn (cIt k sc it) fun its=>gr (zce xs && kL (zL it) xs)<|some (.for xs (zL it) its (b.map G))
 | _=>none
noncomputable def cS : Nat → Scope → Stmt → MS
 | 0,_,_=>.stuck
 | k + 1,sc,s=>kv (stS k (cS k sc) sc s) id .stuck
noncomputable def cSs (k : Nat) (sc : Scope) (l : List Stmt) : List MS:=l.map (cS k sc)
end Mine
namespace Mine
open PySem PySem.W PyProof.Rows PySem.Spec
noncomputable def FlR (h : Heap) (ρ : List Addr) : Fl → Flow → Prop
 | .next,f=>f = .next
 | .cont,f=>f = .cont
 | .ret v,f=>∃ val,f = .ret val ∧ VR h ρ v val
noncomputable def PostU (prog : Program) (w : World) (B : Heap) (ρ : List Addr) (env : Env) (s : Shared) (L : Loc) (H : Hp) (Q : Unit → Shared → Prop) : Prop :=
 ∀ s' δ,Ext ρ (ym env) s s' δ → Rel prog w B (ρ ++ δ) H s'.heap → EnvOk B env (ρ ++ δ) s'.heap → VarsOk env (ρ ++ δ) s'.heap L → Q () s'
noncomputable def PostF (prog : Program) (w : World) (B : Heap) (ρ : List Addr) (env : Env) (s : Shared) (L : Loc) (H : Hp) (fl : Fl) (Q : Flow → Shared → Prop) : Prop :=
 ∀ s' δ f,Ext ρ (ym env) s s' δ → Rel prog w B (ρ ++ δ) H s'.heap → EnvOk B env (ρ ++ δ) s'.heap → VarsOk env (ρ ++ δ) s'.heap L → FlR s'.heap (ρ ++ δ) fl f → Q f s'
theorem PostU.eq2 {prog : Program} {w : World} {B : Heap} {ρ : List Addr} {env : Env} {s : Shared} {L L' : Loc} {H H' : Hp} {Q : Unit → Shared → Prop} (h : PostU prog w B ρ env s L' H' Q) (e : some (L,H) = some (L',H')) : PostU prog w B ρ env s L H Q:=by
 obtain ⟨rfl,rfl⟩:=z6 e
 exact h
theorem PostF.eq3 {prog : Program} {w : World} {B : Heap} {ρ : List Addr} {env : Env} {s : Shared} {L L' : Loc} {H H' : Hp} {fl fl' : Fl} {Q : Flow → Shared → Prop} (h : PostF prog w B ρ env s L' H' fl' Q) (e : some (fl,L,H) = some (fl',L',H')) : PostF prog w B ρ env s L H fl Q:=by
 obtain ⟨rfl,rfl,rfl⟩:=wP e
 exact h
noncomputable def AsgOk (prog : Program) (w : World) (B : Heap) (P : Prg) (n : Nat) : Prop :=
 ∀ ⦃A : Around⦄ ⦃ρ : List Addr⦄ ⦃H H' : Hp⦄ ⦃s : Shared⦄ ⦃E : Value → Shared → Prop⦄ ⦃env : Env⦄ ⦃L L' : Loc⦄ ⦃k : Nat⦄ ⦃t : PySem.Expr⦄ ⦃m : MT⦄ ⦃v : PV⦄ ⦃val : Value⦄ ⦃Q : Unit → Shared → Prop⦄,
  cT k env.scope t = some m → vA P n m v L H = some (L',H') → Rel prog w B ρ H s.heap → EnvOk B env ρ s.heap → VarsOk env ρ s.heap L → VR s.heap ρ v val → Room A n → PostU prog w B ρ env s L' H' Q → wpN (model prog w) A (assign t env val) Q E s
noncomputable def AsgsOk (prog : Program) (w : World) (B : Heap) (P : Prg) (n : Nat) : Prop :=
 ∀ ⦃A : Around⦄ ⦃ρ : List Addr⦄ ⦃H H' : Hp⦄ ⦃s : Shared⦄ ⦃E : Value → Shared → Prop⦄ ⦃env : Env⦄ ⦃L L' : Loc⦄ ⦃k : Nat⦄ ⦃t : List PySem.Expr⦄ ⦃m : List MT⦄ ⦃v : List PV⦄ ⦃val : List Value⦄ ⦃Q : Unit → Shared → Prop⦄,
  cTs k env.scope t = some m → jV P n m v L H = some (L',H') → Rel prog w B ρ H s.heap → EnvOk B env ρ s.heap → VarsOk env ρ s.heap L → VRs s.heap ρ v val → Room A n → PostU prog w B ρ env s L' H' Q → wpN (model prog w) A (assignInOrder ((assignEach t env).map (·.2)) val) Q E s
noncomputable def StOk (prog : Program) (w : World) (B : Heap) (P : Prg) (n : Nat) : Prop :=
 ∀ ⦃A : Around⦄ ⦃ρ : List Addr⦄ ⦃H H' : Hp⦄ ⦃s : Shared⦄ ⦃E : Value → Shared → Prop⦄ ⦃env : Env⦄ ⦃L L' : Loc⦄ ⦃k : Nat⦄ ⦃st : Stmt⦄ ⦃fl : Fl⦄ ⦃Q : Flow → Shared → Prop⦄,
  exec P n (cS k env.scope st) L H = some (fl,L',H') → Rel prog w B ρ H s.heap → EnvOk B env ρ s.heap → VarsOk env ρ s.heap L → Room A n → PostF prog w B ρ env s L' H' fl Q → wpN (model prog w) A (PySem.exec st env) Q E s
noncomputable def StsOk (prog : Program) (w : World) (B : Heap) (P : Prg) (n : Nat) : Prop :=
 ∀ ⦃A : Around⦄ ⦃ρ : List Addr⦄ ⦃H H' : Hp⦄ ⦃s : Shared⦄ ⦃E : Value → Shared → Prop⦄ ⦃env : Env⦄ ⦃L L' : Loc⦄ ⦃k : Nat⦄ ⦃st : List Stmt⦄ ⦃fl : Fl⦄ ⦃Q : Flow → Shared → Prop⦄,
  execs P n (cSs k env.scope st) L H = some (fl,L',H') → Rel prog w B ρ H s.heap → EnvOk B env ρ s.heap → VarsOk env ρ s.heap L → Room A n → PostF prog w B ρ env s L' H' fl Q → wpN (model prog w) A (PySem.execs st env) Q E s
section
variable {prog : Program} {A : Around} {w : World} {B : Heap} {ρ δ : List Addr} {H H' : Hp} {s s₁ : Shared} {E : Value → Shared → Prop} {P : Prg} {K : Frag} {env : Env} {L L' : Loc} {n : Nat}
theorem Ext.foot {X : List Addr} (x : Ext ρ [] s s₁ δ) : Ext ρ X s s₁ δ:=x.more fun uu h=>nomatch h
theorem PostU.after {Q : Unit → Shared → Prop} (h : PostU prog w B ρ env s L H Q) (x : Ext ρ (ym env) s s₁ δ) : PostU prog w B (ρ ++ δ) env s₁ L H Q :=
 fun s' δ' e R V W=>h s' (δ ++ δ') (x.seq e) (by rw [← List.append_assoc];exact R) (by rw [← List.append_assoc];exact V) (by rw [← List.append_assoc];exact W)
theorem PostF.after {fl : Fl} {Q : Flow → Shared → Prop} (h : PostF prog w B ρ env s L H fl Q) (x : Ext ρ (ym env) s s₁ δ) : PostF prog w B (ρ ++ δ) env s₁ L H fl Q :=
 fun s' δ' f e R V W r=>h s' (δ ++ δ') f (x.seq e) (by rw [← List.append_assoc];exact R) (by rw [← List.append_assoc];exact V) (by rw [← List.append_assoc];exact W) (by rw [← List.append_assoc];exact r)
theorem PostU.same {Q : Unit → Shared → Prop} (h : PostU prog w B ρ env s L H Q) (R : Rel prog w B ρ H s.heap) (V : EnvOk B env ρ s.heap) (W : VarsOk env ρ s.heap L) : Q () s :=
 h s [] (Ext.refl ..) (by rw [List.append_nil];exact R) (by rw [List.append_nil];exact V) (by rw [List.append_nil];exact W)
theorem PostF.same {fl : Fl} {f : Flow} {Q : Flow → Shared → Prop} (h : PostF prog w B ρ env s L H fl Q) (R : Rel prog w B ρ H s.heap) (V : EnvOk B env ρ s.heap) (W : VarsOk env ρ s.heap L) (r : FlR s.heap ρ fl f) : Q f s :=
 h s [] f (Ext.refl ..) (by rw [List.append_nil];exact R) (by rw [List.append_nil];exact V) (by rw [List.append_nil];exact W) (by rw [List.append_nil];exact r)
theorem PostU.exprEnd {Q : Unit → Shared → Prop} (h : PostU prog w B ρ env s L H Q) (x : Ext ρ [] s s₁ δ) (R : Rel prog w B (ρ ++ δ) H s₁.heap) (V : EnvOk B env ρ s.heap) (W : VarsOk env ρ s.heap L) : Q () s₁ :=
 h s₁ δ x.foot R (V.step x) (W.step V x)
theorem PostU.noNew {Q : Unit → Shared → Prop} (h : PostU prog w B ρ env s L H Q) : ∀ s',Ext ρ (ym env) s s' [] → Rel prog w B ρ H s'.heap → EnvOk B env ρ s'.heap → VarsOk env ρ s'.heap L → Q () s':=fun s' x R V W =>
 h s' [] x (by rw [List.append_nil];exact R) (by rw [List.append_nil];exact V) (by rw [List.append_nil];exact W)
theorem kU {k : Nat} {sc : Scope} {t : PySem.Expr} {m : MT} {r : List PySem.Expr} (h : cT k sc t = some m) : assignEach (t :: r) env = (false,assign t env) :: assignEach r env:=by
 cases k with
 | zero=>exact zd h
 | succ k=>cases t <;> first | rfl | exact zd h
theorem zfp {k : Nat} {sc : Scope} {e : PySem.Expr} {r : List PySem.Expr} {m : List MT} (h : cTs k sc (e :: r) = some m) : ∃ a b,cT k sc e = some a ∧ cTs k sc r = some b ∧ m = a :: b :=
 zq h fun a h1 h=>zq h fun b h2 h=>⟨a,b,h1,h2,(Option.some.inj h).symm⟩
theorem zbg {k : Nat} {sc : Scope} : ∀ {t : List PySem.Expr} {m : List MT},cTs k sc t = some m → (assignEach t env).length = m.length ∧ (assignEach t env).findIdx? (·.1) = none
 | [],m,h=>Option.some.inj h ▸ ⟨rfl,rfl⟩
 | e :: r,m,h=>by
  obtain ⟨a,b,h1,h2,rfl⟩:=zfp h
  rw [kU h1]
  obtain ⟨g1,g2⟩:=zbg h2
  refine ⟨congrArg Nat.succ g1,?_⟩
  rw [List.findIdx?_cons,g2]
  rfl
theorem qs : ∀ {n : Nat} {m : List MT} {v : List PV} {L L' : Loc} {H H' : Hp},jV P n m v L H = some (L',H') → m.length = v.length
 | 0,m,v,L,L',H,H',h=>zd h
 | n + 1,[],[],L,L',H,H',h=>rfl
 | n + 1,[],_ :: _,L,L',H,H',h=>zd h
 | n + 1,_ :: _,[],L,L',H,H',h=>zd h
 | n + 1,_ :: _,_ :: _,L,L',H,H',h=>vx h fun uu uu uu h=>congrArg Nat.succ (qs h)
theorem zsw (h1 : AsgOk prog w B P n) (h2 : AsgsOk prog w B P n) : AsgsOk prog w B P (n + 1):=by
 intro A ρ H H' s E env L L' k t m v val Q hc he R V W hv Rm hQ
 cases t with
 | nil =>
  obtain rfl:=Option.some.inj hc
  cases v with
  | nil=>replace hQ:=hQ.eq2 he;exact zg (hQ.same R V W)
  | cons=>exact zd he
 | cons e r =>
  obtain ⟨a,b,p2,p3,rfl⟩:=zfp hc
  cases v with
  | nil=>exact zd he
  | cons v0 q0 =>
   revert he;refine zC fun L1 H1 e1 he=>?_
   obtain ⟨val1,vals,rfl,r1,r2⟩:=hv
   rw [kU p2]
   refine zb (m:=holding vals (assign e env val1)) (f:=fun uu=>assignInOrder ((assignEach r env).map (·.2)) vals) (zp (h1 p2 e1 R V W r1 Rm.down fun s1 δ1 x1 R1 V1 W1=>?_))
   exact h2 p3 he R1 V1 W1 (VRs.keep x1.k _ _ r2) Rm.down (hQ.after x1)
theorem zvm (T : TopK prog w K B P) (h1 : EOk prog w B P n) (h2 : AsgsOk prog w B P n) : AsgOk prog w B P (n + 1):=by
 intro A ρ H H' s E env L L' k t m v val Q hc he R V W hv Rm hQ
 cases k with
 | zero=>exact zd hc
 | succ k =>
  cases t with
  | Name id p =>
   revert hc;refine zk fun x hx hc=>?_
   obtain rfl:=Option.some.inj hc
   replace hQ:=hQ.eq2 he
   exact wpN.of (wO hx R V W hv hQ.noNew)
  | Attribute o a pos =>
   revert hc;refine zk fun m' ho=>zk fun x' ha hc=>?_
   obtain rfl:=Option.some.inj hc
   revert he;refine zC fun ov H1 e1=>zk fun H2 e2 he=>?_
   replace hQ:=hQ.eq2 he
   refine zb (m:=holding [val] (eval o env)) (f:=fun ov=>standAt pos.atName >>= fun uu=>holding [val,ov] (setAttr ov a val) >>= fun uu=>release [val,ov] []) (zp (h1 ho e1 R V W Rm.down fun s1 δ1 v1 x1 R1 r1=>?_))
   refine zb (zl (zm (wpAny_holding (zqu (fun a cd h=>(T.cls a cd h).1) (T.kin' R1) R1 r1 (x1.vr hv) ha e2 fun s2 x2 R2=>wpN.of (wpAny_release ?_)))))
   have x3:=x1.seq x2
   rw [List.append_nil] at x3
   exact hQ.exprEnd x3 R2 V W
  | Subscript o sl pos =>
   revert hc;refine zk fun m1 ho=>kN (fun q hq=>zR fun hst=>zk fun m2 hlo=>zk fun m3 hhi hc=>?_) fun hns=>zR fun hp=>zk fun m2 hi hc=>?_
   ·obtain rfl:=Option.some.inj hc
    obtain rfl:=wR hq
    obtain ⟨lo,hi,st,pos'⟩:=q
    cases st with
    | some _=>cases hst
    | none =>
     revert he;refine zC fun ov H1 e1=>zC fun av H2 e2=>zC fun bv H3 e3=>zk fun H4 e4 he=>?_
     replace hQ:=hQ.eq2 he
     refine zb (m:=holding [val] (eval o env)) (f:=fun ov=>holding [val,ov] (valueOrNone (evalOpt lo env) >>= fun l=>holding [l] (valueOrNone (evalOpt hi env)) >>= fun u=>holding [l,u] (valueOrNone (evalOpt none env)) >>= fun s=>newFields "slice" [l,u,s]) >>= fun iv =>
      standAt pos >>= fun uu=>holding [val,ov,iv] (setItem ov iv val) >>= fun uu=>release [iv,val,ov] []) (zp (h1 ho e1 R V W Rm.down fun s1 δ1 v1 x1 R1 r1=>?_))
     have V1:=V.step x1
     have W1:=W.step V x1
     refine zb (zp (zb (w9 h1 hlo e2 R1 V1 W1 Rm.down fun s2 δ2 v2 x2 R2 r2=>?_)))
     refine zb (zp (w9 h1 hhi e3 R2 (V1.step x2) (W1.step V1 x2) Rm.down fun s3 δ3 v3 x3 R3 r3=>?_))
     refine zb (zp (zg (wpN.of (wpAny_newObj_type ?_ (by show (3 : Nat) ≤ _;decide)))))
     have st5 : Still [] s3 { s3 with heap:=s3.heap.push { cls:=.type "slice",data:=.fields [v2,v3,.none].toArray },toks:=s3.toks }:=Still.push _ _
     have x5:=st5.ext0 (ρ:=((ρ ++ δ1) ++ δ2) ++ δ3)
     have R5:=R3.still0 st5
     have back : ∀ {x v},VR s3.heap (((ρ ++ δ1) ++ δ2) ++ δ3) x v → VR (s3.heap.push { cls:=.type "slice",data:=.fields [v2,v3,.none].toArray }) (((ρ ++ δ1) ++ δ2) ++ δ3) x v:=fun r=>r.still0 st5
     refine zb (zl (zb (zp ?_)))
     refine zmv R5 (back (x3.vr (x2.vr r1))) (Heap.IsSliceOf.new _ _ _ _) (back (x3.vr r2)) (back r3) (back (x3.vr (x2.vr (x1.vr hv)))) e4 fun s6 x6 R6=>?_
     refine wpN.of (wpAny_release ?_)
     have x3' : Ext (ρ ++ (δ1 ++ δ2)) [] s2 s3 δ3:=by rw [← List.append_assoc];exact x3
     have y2:=(x1.seq x2).seq x3'
     have e : ((ρ ++ δ1) ++ δ2) ++ δ3 = ρ ++ ((δ1 ++ δ2) ++ δ3):=(List.append_assoc ..).trans ((List.append_assoc ..).trans (congrArg _ (List.append_assoc ..).symm))
     rw [e] at x5 x6 R6
     have y3:=(y2.seq x5)
     rw [List.append_nil] at y3
     have y4:=y3.seq x6
     rw [List.append_nil] at y4
     exact hQ.exprEnd y4 R6 V W
   ·obtain rfl:=Option.some.inj hc
    revert he;refine zC fun ov H1 e1=>zC fun iv H2 e2=>zk fun H3 e3 he=>?_
    replace hQ:=hQ.eq2 he
    have arm : assign (.Subscript o sl pos) env val = holding [val] (eval o env) >>= fun ov=>holding [val,ov] (eval sl env) >>= fun iv=>standAt pos >>= fun uu=>holding [val,ov,iv] (setItem ov iv val) >>= fun uu=>release [val,ov,iv] []:=by
     cases sl <;> first | rfl | exact absurd hp Bool.false_ne_true | cases hp
    rw [arm]
    refine zb (zp (h1 ho e1 R V W Rm.down fun s1 δ1 v1 x1 R1 r1=>?_))
    refine zb (zp (h1 hi e2 R1 (V.step x1) (W.step V x1) Rm.down fun s2 δ2 v2 x2 R2 r2=>?_))
    refine zb (zl (zm (wpAny_holding (zmw R2 (x2.vr r1) r2 (x2.vr (x1.vr hv)) e3 fun s3 x3 R3=>wpN.of (wpAny_release ?_)))))
    rw [List.append_assoc] at x3 R3
    have y2:=(x1.seq x2).seq x3
    rw [List.append_nil] at y2
    exact hQ.exprEnd y2 R3 V W
  | Tuple ts c pos =>
   revert hc;refine zk fun l hl hc=>?_
   obtain rfl:=Option.some.inj hc
   revert he;refine zk fun vs hvs he=>?_
   obtain rfl:=v8 hvs
   obtain ⟨la,ws,rfl,hn,h3,h4⟩:=hv
   obtain ⟨g1,g2⟩:=zbg (env:=env) hl
   rw [arm_assign_Tuple]
   refine zb (zl ?_)
   unfold unpack
   have hlen : (assignEach ts env).length = ws.toArray.size:=by
    rw [g1,qs he,List.size_toArray,h4.length]
   rw [hlen,g2]
   refine zb (zp (wpN.of (wpAny_unpackItems_tuple Rm.handled (h3 : s.heap.IsTuple la ws.toArray) fun h' hx'=>?_)))
   have st : Still [] s { s with heap:=h',toks:=s.toks }:=Still.kept _ fun b o e=>hx' b o (Nat.ne_of_lt (Heap.lt_size e)) e
   have x0:=st.ext0 (ρ:=ρ)
   have V0:=V.step x0
   have W0:=W.step V x0
   have hQ0:=hQ.after x0.foot
   have h4':=VRs.keep x0.k _ _ h4
   rw [List.append_nil] at V0 W0 hQ0 h4'
   exact h2 hl he (R.still0 st) V0 W0 h4' Rm.down hQ0
  | _=>exact zd hc
end
end Mine
namespace Mine
open PySem PySem.W PyProof.Rows PySem.Spec
open Sem (wp)
section
variable {M : Model} {A : Around} {E : Value → Shared → Prop} {s : Shared}
theorem zck {t : Value → Sem Unit} {x : Value} {Q : Unit → Shared → Prop} {ts : List (Value → Sem Unit)} {xs : List Value} {s : Shared} (hl : ts.length = xs.length)
  (h : wpN M A (assignInOrder ts xs) (fun uu s1=>wpN M A (t x) Q E s1) E s) : wpN M A (assignInOrder (ts ++ [t]) (xs ++ [x])) Q E s:=fun Γ p hΓ hC=>inOrder_wp hl Γ p hΓ hC (h Γ p hΓ hC)
where
 inOrder_wp {t : Value → Sem Unit} {x : Value} {Q : Unit → Shared → Prop} : ∀ {ts : List (Value → Sem Unit)} {xs : List Value} {s : Shared},ts.length = xs.length → ∀ Γ p,Γ.In A → Clean Γ →
   wp M Γ (assignInOrder ts xs) (fun uu uu s1=>wpN M A (t x) Q E s1) (fun e uu s=>E e s) p s → wp M Γ (assignInOrder (ts ++ [t]) (xs ++ [x])) (fun a uu s=>Q a s) (fun e uu s=>E e s) p s
  | [],[],s,_,Γ,p,hΓ,hC,h=>by
   show wp M Γ (holding [] (t x) >>= fun uu=>assignInOrder [] []) _ _ p s
   rw [Sem.wp_bind',Sem.wp_holding]
   have h' : wpN M A (t x) Q E s:=h
   exact Sem.wp_mono M Γ _ (fun a p s q=>by cases a;exact q) (fun uu uu uu q=>q) p s (h' Γ p hΓ hC)
  | a :: ts,y :: xs,s,hl,Γ,p,hΓ,hC,h=>by
   have hl' : ts.length = xs.length:=by simpa using hl
   show wp M Γ (holding (xs ++ [x]) (a y) >>= fun uu=>assignInOrder (ts ++ [t]) (xs ++ [x])) _ _ p s
   have h' : wp M Γ (holding xs (a y) >>= fun uu=>assignInOrder ts xs) (fun uu uu s1=>wpN M A (t x) Q E s1) (fun e uu s=>E e s) p s:=h
   rw [Sem.wp_bind',Sem.wp_holding] at h' ⊢
   exact Sem.wp_mono M Γ _ (fun uu p' s' q=>inOrder_wp hl' Γ p' hΓ hC q) (fun uu uu uu q=>q) p s h'
  | [],_ :: _,s,hl,_,_,_,_,h=>nomatch hl
  | _ :: _,[],s,hl,_,_,_,_,h=>nomatch hl
end
section
variable {prog : Program} {A : Around} {w : World} {B : Heap} {ρ δ : List Addr} {H H' : Hp} {s s₁ : Shared} {E : Value → Shared → Prop} {P : Prg} {K : Frag} {env : Env} {L L' : Loc} {n : Nat}
theorem qJ : ∀ {ns : List Str} {xs : List Nat},ns.mapM nid = some xs → ns.length = xs.length:=by
 intro ns
 induction ns with
 | nil =>
  intro xs h
  have : xs = []:=by simpa using h.symm
  rw [this];rfl
 | cons a r ih =>
  intro xs h
  rw [List.mapM_cons] at h
  obtain ⟨x,hx,h⟩:=Option.bind_eq_some_iff.mp h
  obtain ⟨xr,hr,h⟩:=Option.bind_eq_some_iff.mp h
  cases h
  rw [List.length_cons,List.length_cons,ih hr]
theorem yN : ∀ {xs : List Nat} {vs : List PV} {L L' : Loc},vy xs vs L = some L' → xs.length = vs.length
 | [],[],L,L',h=>rfl
 | [],_ :: _,L,L',h=>zd h
 | _ :: _,[],L,L',h=>zd h
 | _ :: _,_ :: _,L,L',h=>zq h fun uu h uu=>congrArg Nat.succ (yN h)
theorem zdy : ∀ {names : List Str} {xs : List Nat} {vs : List PV} {vals : List Value} {L L' : Loc} {Q : Unit → Shared → Prop},names.mapM nid = some xs → (∀ a ∈ names,env.kindOf a = some .local) → vy xs vs L = some L' →
  Rel prog w B ρ H s.heap → EnvOk B env ρ s.heap → VarsOk env ρ s.heap L → VRs s.heap ρ vs vals → PostU prog w B ρ env s L' H Q →
  wpN (model prog w) A (assignInOrder (names.reverse.map fun n=>bindName env n) vals.reverse) Q E s:=by
 intro names
 induction names with
 | nil =>
  intro xs vs vals L L' Q hm hk hb R V W hv hQ
  obtain rfl : [] = xs:=Option.some.inj hm
  cases vs with
  | nil=>obtain rfl:=hv;obtain rfl:=Option.some.inj hb;exact zg (hQ.same R V W)
  | cons=>exact zd hb
 | cons a r ih =>
  intro xs vs vals L L' Q hm hk hb R V W hv hQ
  rw [List.mapM_cons] at hm
  obtain ⟨x,hx,hm⟩:=Option.bind_eq_some_iff.mp hm
  obtain ⟨xr,hr,hm⟩:=Option.bind_eq_some_iff.mp hm
  obtain rfl : x :: xr = xs:=Option.some.inj hm
  cases vs with
  | nil=>exact zd hb
  | cons v t =>
   revert hb;refine zk fun L1 h1 hb=>?_
   obtain rfl:=Option.some.inj hb
   obtain ⟨val,vt,rfl,r1,r2⟩:=hv
   rw [List.reverse_cons,List.reverse_cons,List.map_append]
   refine zck ?_ (ih hr (fun b hb=>hk b (List.mem_cons_of_mem _ hb)) h1 R V W r2 fun s1 δ1 x1 R1 V1 W1=>?_)
   ·rw [List.length_map,List.length_reverse,List.length_reverse,r2.length,← yN h1]
    exact qJ hr
   ·exact wpN.of (wpAny_bindName (zd1 R1 V1 W1 hx (.inl (hk a (List.mem_cons_self ..))) (VR.keep x1.k _ _ r1) (hQ.after x1).noNew))
theorem zkf {e : PySem.Expr} {pos : Pos} {v : Value} {Q : Flow → Shared → Prop} (h : Q .next s) : wpN (model prog w) A (dropValue e pos v) Q E s:=by
 have p : wpN (model prog w) A (pure Flow.next) Q E s:=zg h
 cases v with
 | ref a =>
  have q : wpN (model prog w) A (standAt pos >>= fun uu=>runValue (.builtin "proto.let_go" {}) >>= fun uu=>pure Flow.next) Q E s :=
   zb (zl (zm (wpAny_runValue (codeAny_builtin entry_let_go (show wpAny _ _ (ret .none) _ _ s from wpAny_pure p)))))
  cases e with
  | Name=>exact p
  | _=>exact q
 | _=>cases e <;> exact p
theorem znn {e : PySem.Expr} {t : Option PySem.Expr} {l : Nat} (h : jo e = false) : swapsWith e t l env = pure false:=by
 cases e <;> first | rfl | exact absurd h Bool.false_ne_true | cases h
theorem xg (V : env.scope.kind = .function) : interactive env = false:=by
 unfold interactive;rw [V];rfl
theorem PostF.noNew {fl : Fl} {f : Flow} {Q : Flow → Shared → Prop} (h : PostF prog w B ρ env s L H fl Q) (r : ∀ h ρ,FlR h ρ fl f) : ∀ s',Ext ρ (ym env) s s' [] → Rel prog w B ρ H s'.heap → EnvOk B env ρ s'.heap → VarsOk env ρ s'.heap L → Q f s':=fun s' x R V W =>
 h s' [] f x (by rw [List.append_nil];exact R) (by rw [List.append_nil];exact V) (by rw [List.append_nil];exact W) (r _ _)
theorem zrw (h1 : EOk prog w B P n) {e : PySem.Expr} {pos : Pos} {a : ME} {k : Nat} {fl : Fl} {Q : Flow → Shared → Prop} (hc : jo e = false) (ha : cE k env.scope e = some a) (he : exec P (n + 1) (.expr a) L H = some (fl,L',H'))
  (R : Rel prog w B ρ H s.heap) (V : EnvOk B env ρ s.heap) (W : VarsOk env ρ s.heap L) (Rm : Room A (n + 1)) (hQ : PostF prog w B ρ env s L' H' fl Q) : wpN (model prog w) A (PySem.exec (.Expr e pos) env) Q E s:=by
 revert he;refine zC fun v H1 e1 he=>?_
 replace hQ:=hQ.eq3 he
 rw [exec_Expr env e pos (xg V.kind) (znn hc)]
 exact zb (zl (zb (h1 ha e1 R V W Rm.down fun s1 δ1 v1 x1 R1 r1=>zkf (hQ s1 δ1 .next x1.foot R1 (V.step x1) (W.step V x1) rfl))))
theorem zt9 (h1 : EOk prog w B P n) {e : PySem.Expr} {pos : Pos} {a : ME} {k : Nat} {fl : Fl} {Q : Flow → Shared → Prop} (ha : cE k env.scope e = some a) (he : exec P (n + 1) (.ret a) L H = some (fl,L',H'))
  (R : Rel prog w B ρ H s.heap) (V : EnvOk B env ρ s.heap) (W : VarsOk env ρ s.heap L) (Rm : Room A (n + 1)) (hQ : PostF prog w B ρ env s L' H' fl Q) : wpN (model prog w) A (PySem.exec (.Return (some e) pos) env) Q E s:=by
 revert he;refine zC fun v H1 e1 he=>?_
 replace hQ:=hQ.eq3 he
 rw [exec_Return_some]
 exact zb (zl (zb (h1 ha e1 R V W Rm.down fun s1 δ1 v1 x1 R1 r1=>zg (hQ s1 δ1 _ x1.foot R1 (V.step x1) (W.step V x1) ⟨v1,rfl,r1⟩))))
theorem vg (t e : PySem.Expr) (pos : Pos) (env : Env) : PySem.exec (.Assign [t] e pos) env = (standAt pos >>= fun uu=>swapsWith e (some t) pos.line env >>= fun b=>if b = true then (evalThenUse e env fun v=>assignAll v ((assignEach [t] env).map (·.2))) >>= fun uu=>pure Flow.next else
   eval e env >>= fun v=>swappedStores [t] e env >>= fun sw=>assignStores env v sw ((assignEach [t] env).map (·.2))):=rfl
theorem xQ (h1 : EOk prog w B P n) {t e : PySem.Expr} {pos : Pos} {a : ME} {v : PV} {H1 : Hp} {k : Nat} {sw : Option (List Str)} {Q : Flow → Shared → Prop} (hc : jo e = false) (hs : zaj t e env.scope = some sw) (ha : cE k env.scope e = some a) (e1 : evE P n a L H = some (v,H1))
  (R : Rel prog w B ρ H s.heap) (V : EnvOk B env ρ s.heap) (W : VarsOk env ρ s.heap L) (Rm : Room A (n + 1))
  (hX : ∀ s1 δ1 v1,Ext ρ [] s s1 δ1 → Rel prog w B (ρ ++ δ1) H1 s1.heap → EnvOk B env (ρ ++ δ1) s1.heap → VarsOk env (ρ ++ δ1) s1.heap L → VR s1.heap (ρ ++ δ1) v v1 → wpN (model prog w) A (assignStores env v1 sw ((assignEach [t] env).map (·.2))) Q E s1) :
  wpN (model prog w) A (PySem.exec (.Assign [t] e pos) env) Q E s:=by
 rw [vg]
 refine zb (zl (zb (zT (znn hc) (zF rfl ?_))))
 exact zb (h1 ha e1 R V W Rm.down fun s1 δ1 v1 x1 R1 r1=>zb (zT (zi4 V.kind hs) (hX s1 δ1 v1 x1 R1 (V.step x1) (W.step V x1) r1)))
theorem zl9 (T : TopK prog w K B P) (h1 : EOk prog w B P n) (h2 : AsgOk prog w B P n) {t e : PySem.Expr} {pos : Pos} {mt : MT} {a : ME} {k k' : Nat} {fl : Fl} {Q : Flow → Shared → Prop} (hc : jo e = false) (hs : zaj t e env.scope = some none)
  (ht : cT k env.scope t = some mt) (ha : cE k' env.scope e = some a) (he : exec P (n + 1) (.assign mt a) L H = some (fl,L',H')) (R : Rel prog w B ρ H s.heap) (V : EnvOk B env ρ s.heap) (W : VarsOk env ρ s.heap L) (Rm : Room A (n + 1))
  (hQ : PostF prog w B ρ env s L' H' fl Q) : wpN (model prog w) A (PySem.exec (.Assign [t] e pos) env) Q E s:=by
 revert he;refine zC fun v H1 e1=>zC fun L1 H2 e2 he=>?_
 replace hQ:=hQ.eq3 he
 refine xQ h1 hc hs ha e1 R V W Rm fun s1 δ1 v1 x1 R1 V1 W1 r1=>?_
 exact (kU ht) ▸ zb (m:=assign t env v1) (f:=fun uu=>pure Flow.next) (h2 ht e2 R1 V1 W1 r1 Rm.down fun s2 δ2 x2 R2 V2 W2=>zg ((hQ.after x1.foot) s2 δ2 .next x2 R2 V2 W2 rfl))
theorem zeq {sc : Scope} {line : Nat} {ts : List PySem.Expr} : ∀ a ∈ ts.filterMap (znw sc line),sc.names.lookup a = some .local:=by
 intro a ha
 obtain ⟨t,_,ht⟩:=List.mem_filterMap.mp ha
 cases t with
 | Name id p =>
  by_cases q : (sc.names.lookup id == some .local && p.line == line) = true
  ·obtain rfl : id = a:=Option.some.inj ((if_pos q).symm.trans ht)
   exact eq_of_beq (Bool.and_eq_true_iff.mp q).1
  ·exact zd ((if_neg q).symm.trans ht)
 | _=>exact zd ht
theorem qL {c : Prop} [Decidable c] {α : Type} {x y : Option α} {r : α} {C : Prop} (h : (if c then x else y) = some r) (k1 : x = some r → C) (k2 : y = some r → C) : C:=by
 by_cases q : c
 ·rw [if_pos q] at h;exact k1 h
 ·rw [if_neg q] at h;exact k2 h
theorem zdz {t e : PySem.Expr} {sc : Scope} {names : List Str} (h : zaj t e sc = some (some names)) : ∀ a ∈ names,sc.names.lookup a = some .local:=by
 cases t with
 | Tuple ts c p =>
  cases e with
  | Tuple vs c' p' =>
   refine qL h (fun h=>nomatch h) fun h=>qL h (fun h=>nomatch h) fun h=>qL h (fun h=>nomatch h) fun h=>qL h (fun h=>nomatch h) fun h=>qL h zd fun h=>?_
   obtain rfl:=Option.some.inj (Option.some.inj h)
   exact zeq
  | _=>exact nomatch Option.some.inj h
 | List=>exact zd h
 | _=>exact nomatch Option.some.inj h
theorem zqq (h1 : EOk prog w B P n) {t e : PySem.Expr} {pos : Pos} {a : ME} {k : Nat} {names : List Str} {xs : List Nat} {fl : Fl} {Q : Flow → Shared → Prop} (hc : jo e = false) (hs : zaj t e env.scope = some (some names)) (hx : names.mapM nid = some xs)
  (ha : cE k env.scope e = some a) (he : exec P (n + 1) (.swap xs a) L H = some (fl,L',H')) (R : Rel prog w B ρ H s.heap) (V : EnvOk B env ρ s.heap) (W : VarsOk env ρ s.heap L) (Rm : Room A (n + 1))
  (hQ : PostF prog w B ρ env s L' H' fl Q) : wpN (model prog w) A (PySem.exec (.Assign [t] e pos) env) Q E s:=by
 revert he;refine bnT_k fun vs H1 e1=>zk fun L1 e2 he=>?_
 replace hQ:=hQ.eq3 he
 refine xQ h1 hc hs ha e1 R V W Rm fun s1 δ1 v1 x1 R1 V1 W1 r1=>?_
 obtain ⟨la,ws,rfl,hn,h3,h4⟩:=r1
 show wpN _ _ (rule "assign.swapped-stores" >>= fun uu=>unpackItems (.ref la) names.length none >>= fun items=>assignInOrder (names.reverse.map fun n=>bindName env n) items.reverse >>= fun uu=>pure Flow.next) _ _ _
 refine zb (qx ?_)
 have hlen : names.length = ws.toArray.size:=by
  rw [qJ hx,yN e2,List.size_toArray,h4.length]
 rw [hlen]
 refine zb (wpN.of (wpAny_unpackItems_tuple Rm.handled (h3 : s1.heap.IsTuple la ws.toArray) fun h' hx'=>?_))
 have st : Still [] s1 { s1 with heap:=h',toks:=s1.toks }:=Still.kept _ fun b o e=>hx' b o (Nat.ne_of_lt (Heap.lt_size e)) e
 have x0:=st.ext0 (ρ:=ρ ++ δ1)
 have V0:=V1.step x0
 have W0:=W1.step V1 x0
 have hQ0:=(hQ.after x1.foot).after x0.foot
 have h4':=VRs.keep x0.k _ _ h4
 rw [List.append_nil] at V0 W0 hQ0 h4'
 exact zb (zdy hx (zdz hs) e2 (R1.still0 st) V0 W0 h4' fun s2 δ2 x2 R2 V2 W2=>zg (hQ0 s2 δ2 .next x2 R2 V2 W2 rfl))
end
end Mine
namespace Mine
open PySem PySem.W PyProof.Rows PySem.Spec
open Sem (wp)
section
variable {prog : Program} {A : Around} {w : World} {B : Heap} {ρ δ : List Addr} {H H' : Hp} {s s₁ : Shared} {E : Value → Shared → Prop} {P : Prg} {K : Frag} {env : Env} {L L' : Loc} {n : Nat}
theorem zvk (h1 : EOk prog w B P n) {id : Str} {npos pos : Pos} {e : PySem.Expr} {x : Nat} {a : ME} {k : Nat} {fl : Fl} {Q : Flow → Shared → Prop} (hi : yK false env.scope id = some x) (ha : cE k env.scope e = some a)
  (he : exec P (n + 1) (.aug x a) L H = some (fl,L',H')) (R : Rel prog w B ρ H s.heap) (V : EnvOk B env ρ s.heap) (W : VarsOk env ρ s.heap L) (Rm : Room A (n + 1))
  (hQ : PostF prog w B ρ env s L' H' fl Q) (hcd : (id == ("__classdict__" : Str)) = false) : wpN (model prog w) A (PySem.exec (.AugAssign (.Name id npos) .Add e pos) env) Q E s:=by
 revert he;refine zk fun o ho=>zC fun v H1 e1=>zk fun i hi'=>zk fun j hj he=>?_
 obtain rfl:=zH hi'
 obtain rfl:=zH hj
 replace hQ:=hQ.eq3 he
 obtain ⟨hx,hk⟩:=jn hi
 rw [exec_AugAssign_Name]
 refine zb (zl (zb (wpN.of (zrl V W hx (hk.imp (fun q=>q) fun q=>.inl q.1) ho hcd fun old r0=>?_))))
 refine zb (zp (h1 ha e1 R V W Rm.down fun s1 δ1 v1 x1 R1 r1=>?_))
 obtain ⟨t0,rfl⟩:=r0
 obtain ⟨t1,rfl⟩:=r1
 refine zb (zl (zb (wpN.of (wpAny_operateT (iadd_int ?_)))))
 have st : Still [] s1 { s1 with toks:=s1.toks + 1 }:=Still.toks _
 have x0:=st.ext0 (ρ:=ρ ++ δ1)
 have hQ0:=(hQ.after x1.foot).after x0.foot
 rw [List.append_nil] at hQ0
 have V1:=V.step x1
 have W1:=W.step V x1
 exact zb (zl (zb (wpN.of (wpAny_bindName (zd1 (s:={ s1 with toks:=s1.toks + 1 }) (v:=.int (i + j)) (R1.still0 st) V1 W1 hx (hk.imp (fun q=>q) fun q=>q.1) ⟨_,rfl⟩ fun s2 x2 R2 V2 W2=>zg (hQ0.noNew (f:=.next) (fun uu uu=>rfl) s2 x2 R2 V2 W2))))))
theorem EnvOk.ext2 {X : List Addr} (V : EnvOk B env ρ s.heap) (e : Ext ρ X s s₁ δ) (hX : env.locals ∉ X ∧ ∀ n c,env.cells.lookup n = some c → c ∉ X) : EnvOk B env (ρ ++ δ) s₁.heap:=by
 have kn : ∀ {m},s.heap.Ns env.locals m → s₁.heap.Ns env.locals m:=fun ⟨o,es,ep,ho,r⟩=>⟨o,es,ep,e.keep _ _ ho (Free.of V.lnew.1) hX.1,r⟩
 refine ⟨V.kind,V.glob,V.bi,V.ns.imp fun uu h=>kn h,⟨?_,V.lnew.2⟩,fun n c h=>?_,fun n c h=>⟨?_,(V.cnew n c h).2⟩,V.cinj,V.has⟩
 ·obtain ⟨m,o,es,ep,ho,_⟩:=V.ns
  exact e.k.not ho V.lnew.1
 ·obtain ⟨v,o,ho,hd⟩:=V.cell n c h
  exact ⟨v,o,e.keep _ _ ho (Free.of (V.cnew n c h).1) (hX.2 n c h),hd⟩
 ·obtain ⟨v,o,ho,hd⟩:=V.cell n c h
  exact e.k.not ho (V.cnew n c h).1
theorem VarsOk.ext2 {X : List Addr} (V : EnvOk B env ρ s.heap) (W : VarsOk env ρ s.heap L) (e : Ext ρ X s s₁ δ) (hX : env.locals ∉ X ∧ ∀ n c,env.cells.lookup n = some c → c ∉ X) : VarsOk env (ρ ++ δ) s₁.heap L:=by
 intro n x v hn hL
 obtain ⟨h1,h2⟩:=W n x v hn hL
 refine ⟨fun k=>?_,fun k=>?_⟩
 ·obtain ⟨m,val,⟨o,es,ep,ho,r⟩,hm,hv⟩:=h1 k
  exact ⟨m,val,⟨o,es,ep,e.keep _ _ ho (Free.of V.lnew.1) hX.1,r⟩,hm,hv.keep e.k _ _⟩
 ·obtain ⟨c,val,hc,⟨o,ho,hd⟩,hv⟩:=h2 k
  exact ⟨c,val,hc,⟨o,e.keep _ _ ho (Free.of (V.cnew n c hc).1) (hX.2 n c hc),hd⟩,hv.keep e.k _ _⟩
theorem EnvOk.off (V : EnvOk B env ρ s.heap) {C : Addr} (hC : s.heap.get? C = none) : env.locals ∉ [C] ∧ ∀ n c,env.cells.lookup n = some c → c ∉ [C]:=by
 refine ⟨fun q=>?_,fun n c h q=>?_⟩
 ·have q:=List.mem_singleton.mp q
  obtain ⟨m,o,_,_,ho,_⟩:=V.ns
  rw [q,hC] at ho;cases ho
 ·have q:=List.mem_singleton.mp q
  obtain ⟨v,o,ho,_⟩:=V.cell n c h
  rw [q,hC] at ho;cases ho
theorem zsk {k : Nat} {sc : Scope} {t : PySem.Expr} {m : MT} {x : Nat} (ht : cT k sc t = some m) (hm : znv m = some x) : m = .name x ∧ ∃ id tp,t = .Name id tp ∧ yK false sc id = some x:=by
 obtain rfl : m = .name x:=by cases m <;> first | exact Option.some.inj hm ▸ rfl | exact zd hm
 refine ⟨rfl,?_⟩
 cases k with
 | zero=>exact zd ht
 | succ k =>
  cases t with
  | Name id p=>exact zq ht fun y hy h=>⟨id,p,rfl,hy.trans (congrArg some (zri (Option.some.inj h)))⟩
  | Attribute=>exact zq ht fun uu uu h=>zq h fun uu uu h=>MT.noConfusion (Option.some.inj h)
  | Subscript=>exact zq ht fun uu uu h=>vM h (fun uu uu h=>yp h fun uu h=>zq h fun uu uu h=>zq h fun uu uu h=>MT.noConfusion (Option.some.inj h)) fun uu h=>yp h fun uu h=>zq h fun uu uu h=>MT.noConfusion (Option.some.inj h)
  | Tuple=>exact zq ht fun uu uu h=>MT.noConfusion (Option.some.inj h)
  | _=>exact zd ht
theorem zh8 {k : Nat} {sc : Scope} {e : PySem.Expr} {a : ME} (hc : jo e = true) (ha : cE k sc e = some a) : ∃ elt target iter ifs scope pos e1 t its e2 k',e = .ListComp elt [⟨target,iter,ifs,0⟩] scope pos ∧ CompOk k' sc a elt target iter ifs scope e1 t its e2:=by
 refine vX ha fun k uu ha=>?_
 cases e with
 | ListComp elt gs scope pos =>
  obtain ⟨target,iter,ifs,e1,t,its,e2,rfl,c⟩:=zfj ha
  exact ⟨elt,target,iter,ifs,scope,pos,e1,t,its,e2,k,rfl,c⟩
 | SetComp=>exact zd ha
 | DictComp=>exact zd ha
 | _=>exact absurd hc Bool.false_ne_true
theorem xA (elt target iter : PySem.Expr) (ifs : List PySem.Expr) (scope : Scope) (pos : Pos) (env : Env) (use : Value → Sem Unit) : evalThenUse (.ListComp elt [⟨target,iter,ifs,0⟩] scope pos) env use =
  (comprehension (.ListComp elt [⟨target,iter,ifs,0⟩] scope pos) scope env iter.pos (newList []) false (eval iter env) (some use) >>= fun uu=>pure ()):=rfl
theorem zkk (elt : PySem.Expr) (gens : List Comprehension) (scope : Scope) (pos tp : Pos) (id : Str) (l : Nat) (env : Env) : ∃ b,swapsWith (.ListComp elt gens scope pos) (some (.Name id tp)) l env = pure b:=⟨_,rfl⟩
theorem zsd (T : TopK prog w K B P) (hE : ∀ m ≤ n,EOk prog w B P m) (hEs : ∀ m ≤ n,EsOk prog w B P m) (hC : ∀ m ≤ n,COk prog w B P m) {t e : PySem.Expr} {pos : Pos} {x : Nat} {a : ME} {k' : Nat} {fl : Fl} {Q : Flow → Shared → Prop} (hc : jo e = true)
  (ht : ∃ id tp,t = .Name id tp ∧ yK false env.scope id = some x) (ha : cE k' env.scope e = some a) (he : exec P (n + 1) (.assign (.name x) a) L H = some (fl,L',H')) (R : Rel prog w B ρ H s.heap) (V : EnvOk B env ρ s.heap) (W : VarsOk env ρ s.heap L) (Rm : Room A (n + 1))
  (hQ : PostF prog w B ρ env s L' H' fl Q) : wpN (model prog w) A (PySem.exec (.Assign [t] e pos) env) Q E s:=by
 obtain ⟨id,tp,rfl,hi⟩:=ht
 obtain ⟨hx,hk⟩:=jn hi
 revert he;refine zC fun v H1 e1=>zC fun L1 H2 e2 he=>?_
 replace hQ:=hQ.eq3 he
 cases n with
 | zero=>exact zd e1
 | succ n =>
 obtain ⟨rfl,rfl⟩:=z6 e2
 rw [vg]
 obtain ⟨elt,target,iter,ifs,scope,cpos,e1',t,its,e2',k2,rfl,c⟩:=zh8 hc ha
 obtain rfl:=c.me
 obtain ⟨b,hsw⟩:=zkk elt [⟨target,iter,ifs,0⟩] scope cpos tp id pos.line env
 have hE' : EOk prog w B P (n + 1):=hE _ (Nat.le_refl _)
 refine zb (zl (zb (zT hsw ?_)))
 cases b with
 | false =>
  refine zF rfl ?_
  refine zb (hE' ha e1 R V W Rm.down fun s1 δ1 v1 x1 R1 r1=>?_)
  refine zb (zT (zi4 V.kind (t:=.Name id tp) rfl) ?_)
  show wpN _ _ (assign (.Name id tp) env v1 >>= fun uu=>pure Flow.next) _ _ _
  refine zb (wpN.of (wO hi R1 (V.step x1) (W.step V x1) r1 fun s2 x2 R2 V2 W2=>zg ?_))
  exact (hQ.after x1.foot).noNew (f:=.next) (fun uu uu=>rfl) s2 x2 R2 V2 W2
 | true =>
  refine yk rfl ?_
  rw [xA]
  refine zb (zb (zj1 (Q:=fun uu s'=>wpN (model prog w) A (pure ()) (fun uu s''=>wpN (model prog w) A (pure Flow.next) Q E s'') E s') T (fun m h=>hE m (Nat.le_succ_of_le h)) (fun m h=>hEs m (Nat.le_succ_of_le h)) (hC n (Nat.le_succ n)) c.plain c.kind c.ct c.ci c.ce c.cc c.names c.tgt e1 R V W Rm.down (fun q=>nomatch q) fun u hu s1 δ1 val C x1 R1 r1 hC0 hCn hCB hCs=>?_))
  cases hu
  show wpN _ _ (assign (.Name id tp) env val) _ _ _
  have V1:=V.step x1
  have W1:=W.step V x1
  have nC:=V.off hC0
  obtain ⟨mC,oC,esC,epC,hoC,rC⟩:=hCs
  have hXf : ∀ a ∈ env.locals :: (env.cells.lookup id).toList,a ∈ ym env:=fun a ha=>by
   rcases List.mem_cons.mp ha with rfl | ha
   ·exact List.mem_cons_self ..
   ·exact jr (Option.mem_toList.mp ha)
  have hCf : C ∉ env.locals :: (env.cells.lookup id).toList:=fun q=>by
   rcases List.mem_cons.mp q with q | q
   ·exact nC.1 (List.mem_singleton.mpr q.symm)
   ·exact nC.2 id C (Option.mem_toList.mp q) (List.mem_singleton.mpr rfl)
  refine wpN.of (wpAny_assign_Name (vG (X:=env.locals :: (env.cells.lookup id).toList) ⟨fun uu=>List.mem_cons_self ..,fun c uu h=>List.mem_cons_of_mem _ (Option.mem_toList.mpr h)⟩ R1 V1 W1 hx (hk.imp (fun q=>q) And.left) r1 fun s2 x2 R2 V2 W2=>?_))
  have hC2 : s2.heap.Ns C mC:=⟨oC,esC,epC,x2.keep _ _ hoC (Free.of hCn) hCf,rC⟩
  refine ⟨⟨mC,hC2⟩,fun h' hm' hs'=>zg (zg ?_)⟩
  obtain ⟨m',hm'⟩:=hm'
  have st : Still [C] s2 { s2 with heap:=h',toks:=s2.toks }:=Still.sameBut _ hs' (List.mem_singleton.mpr rfl) (by obtain ⟨o,_,_,ho,_⟩:=hm';rw [ho];exact fun q=>nomatch q)
  have nv : ∀ a ∈ [C],∀ o,s2.heap.get? a = some o → zM o = false:=fun a ha o e=>by rw [List.mem_singleton.mp ha] at e;exact zhf hC2 e
  have x3:=st.ext (ρ:=ρ ++ δ1) nv
  have V3:=V2.ext2 x3 nC
  have W3:=W2.ext2 V2 x3 nC
  rw [List.append_nil] at V3 W3
  have R3:=R2.still st nv fun a ha=>by rw [List.mem_singleton.mp ha];exact ⟨hCn,hCB⟩
  have z1 : Ext ρ (ym env) s s2 δ1:=by
   have:=(x1.foot (X:=ym env)).seq (x2.more hXf)
   rwa [List.append_nil] at this
  have z2 : Ext ρ (ym env) s { s2 with heap:=h',toks:=s2.toks } δ1:=by
   have:=z1.trans x3 (fun a ha=>.inr (by rw [List.mem_singleton.mp ha];exact hC0))
   rwa [List.append_nil] at this
  exact hQ _ δ1 .next z2 R3 V3 W3 rfl
end
end Mine
namespace Mine
open PySem PySem.W PyProof.Rows PySem.Spec
open Sem (wp)
section
variable {prog : Program} {A : Around} {w : World} {B : Heap} {ρ δ : List Addr} {H H' : Hp} {s s₁ : Shared} {E : Value → Shared → Prop} {P : Prg} {K : Frag} {env : Env} {L L' : Loc} {n : Nat}
theorem qh : PySem.execs [] env = pure Flow.next:=rfl
theorem zgd (hC : COk prog w B P n) (hS : StsOk prog w B P n) {test : PySem.Expr} {body : List Stmt} {m : ME} {kb k1 : Nat} (hc : cE k1 env.scope test = some m) (Rm : Room A n) {fl : Fl} {ρ₀ : List Addr} {s₀ : Shared} {R : Result → Shared → Prop}
  (fin : PostF prog w B ρ₀ env s₀ L' H' fl (fun f s'=>R (.ok f) s')) :
  ∀ (j : Nat) (L : Loc) (H : Hp) (δ : List Addr) (s : Shared),xV (evC P n m) (execs P n (cSs kb env.scope body)) j L H = some (fl,L',H') →
   Ext ρ₀ (ym env) s₀ s δ → Rel prog w B (ρ₀ ++ δ) H s.heap → EnvOk B env (ρ₀ ++ δ) s.heap → VarsOk env (ρ₀ ++ δ) s.heap L → z4 (model prog w) A (.whileLoop test body [] env) R s:=by
 intro j
 induction j with
 | zero=>intro L H δ s h;exact zd h
 | succ j ih =>
  intro L H δ s h x R0 V W
  refine zB ?_
  rw [Around.under_of_weight (by rfl) (by rfl)]
  show wpN _ _ ((whileTurn test body [] env).onRaise _) _ _ _
  refine zJ ?_
  unfold whileTurn
  revert h;refine zC fun t1 H1 hc1 h=>?_
  refine zb (hC hc hc1 R0 V W Rm fun s1 δ1 x1 R1=>?_)
  have V1:=V.step x1
  have W1:=W.step V x1
  revert h;refine jh (fun ht=>zfs fun fl2 L2 H2 hb h=>yk ht ?_) fun ht h=>zF ht ?_
  ·refine zb (hS hb R1 V1 W1 Rm fun s2 δ2 f x2 R2 V2 W2 r2=>?_)
   have go : xV (evC P n m) (execs P n (cSs kb env.scope body)) j L2 H2 = some (fl,L',H') → z4 (model prog w) A (.whileLoop test body [] env) R s2:=fun h=>by
    have x2' : Ext (ρ₀ ++ (δ ++ δ1)) (ym env) s1 s2 δ2:=by rw [← List.append_assoc];exact x2
    have y2:=(x.seq x1.foot).seq x2'
    rw [List.append_assoc,List.append_assoc,← List.append_assoc δ] at R2 V2 W2
    exact ih L2 H2 _ s2 h y2 R2 V2 W2
   cases fl2 with
   | next=>obtain rfl:=r2;exact zg ⟨rfl,rfl,go h⟩
   | cont=>obtain rfl:=r2;exact zg ⟨rfl,rfl,go h⟩
   | ret v =>
    obtain ⟨rfl,rfl,rfl⟩:=wP h
    obtain ⟨val,rfl,r2⟩:=r2
    exact zg (((fin.after x).after x1.foot) s2 δ2 _ x2 R2 V2 W2 ⟨val,rfl,r2⟩)
  ·obtain ⟨rfl,rfl,rfl⟩:=wP h
   exact qh ▸ zb (zg (zg (((fin.after x).after x1.foot).same R1 V1 W1 rfl)))
theorem wt {R : Result → Shared → Prop} (h : R (.ok .next) s) : z4 (model prog w) A (.block [] env) R s:=by
 refine zB ?_
 rw [Around.under_of_weight (by rfl) (by rfl)]
 show wpN _ _ (do return Fin.done (← (PySem.execs [] env).onRaise (fun x=>do noteFrame x env;theTreesLotGoes x))) _ _ s
 exact qh ▸ zb (zJ (zg (zg h)))
theorem zmh (hC : COk prog w B P n) (hS : StsOk prog w B P n) {test : PySem.Expr} {body : List Stmt} {pos : Pos} {m : ME} {kb k1 : Nat} (hc : cE k1 env.scope test = some m) {fl : Fl} {Q : Flow → Shared → Prop}
  (he : exec P (n + 1) (.whl m (cSs kb env.scope body)) L H = some (fl,L',H')) (R : Rel prog w B ρ H s.heap) (V : EnvOk B env ρ s.heap) (W : VarsOk env ρ s.heap L) (Rm : Room A (n + 1))
  (hQ : PostF prog w B ρ env s L' H' fl Q) : wpN (model prog w) A (PySem.exec (.While test body [] pos) env) Q E s:=by
 rw [exec_While]
 refine zb (zl ?_)
 unfold runOwn
 refine zJ (zbp rfl ?_ fun x=>nomatch x)
 rw [zaw]
 refine zgd hC hS hc Rm.down (ρ₀:=ρ) (s₀:=s) (R:=fun r s'=>match r with | .ok f=>Q f s' | .error e=>False) (fun s' δ f x R V W r=>hQ s' δ f x R V W r) qK L H [] s he (Ext.refl ..) ?_ ?_ ?_
 ·rw [List.append_nil];exact R
 ·rw [List.append_nil];exact V
 ·rw [List.append_nil];exact W
end
end Mine
namespace Mine
open PySem PySem.W PyProof.Rows PySem.Spec
open Sem (wp)
section
variable {prog : Program} {A : Around} {w : World} {B : Heap} {ρ δ : List Addr} {H H' : Hp} {s s₁ : Shared} {E : Value → Shared → Prop} {P : Prg} {K : Frag} {env : Env} {L L' : Loc} {n : Nat}
theorem EnvOk.foot_some (V : EnvOk B env ρ s.heap) {a : Addr} (h : a ∈ ym env) : s.heap.get? a ≠ none:=by
 rcases xy h with rfl | ⟨n,hn⟩
 ·obtain ⟨m,o,_,_,ho,_⟩:=V.ns
  rw [ho];exact fun q=>nomatch q
 ·obtain ⟨v,o,ho,_⟩:=V.cell n a hn
  rw [ho];exact fun q=>nomatch q
theorem Quiet.rel {Y : List Addr} (q : Quiet Y s s₁) (R : Rel prog w B ρ H s.heap) (hY : ∀ a ∈ Y,B.get? a = none ∧ a ∉ ρ ∧ ∀ o,s.heap.get? a = some o → zM o = false) : Rel prog w B ρ H s₁.heap ∧ Map ρ ρ s.heap s₁.heap:=by
 have z:=R.shrink (h0:=ρ.length) (fun i a la=>(List.getElem?_eq_some_iff.mp la.1).1) q (fun a ha=>⟨(hY a ha).1,.inl (hY a ha).2⟩) (Nat.le_refl _)
 rw [List.take_length,R.len,List.take_length] at z
 exact z
theorem Quiet.toEnv {Y : List Addr} (q : Quiet Y s s₁) (k : Map ρ ρ s.heap s₁.heap) (V : EnvOk B env ρ s.heap) (W : VarsOk env ρ s.heap L) (hX : ∀ a ∈ ym env,a ∉ Y) : EnvOk B env ρ s₁.heap ∧ VarsOk env ρ s₁.heap L:=by
 have kn : ∀ {m},s.heap.Ns env.locals m → s₁.heap.Ns env.locals m:=fun ⟨o,es,ep,ho,r⟩=>⟨o,es,ep,q.keep _ _ ho (hX _ (List.mem_cons_self ..)),r⟩
 have kc : ∀ {nm c v},env.cells.lookup nm = some c → s.heap.IsCell c v → s₁.heap.IsCell c v:=fun h ⟨o,ho,hd⟩=>⟨o,q.keep _ _ ho (hX _ (jr h)),hd⟩
 refine ⟨⟨V.kind,V.glob,V.bi,V.ns.imp fun uu h=>kn h,V.lnew,fun n c h=>(V.cell n c h).imp fun uu z=>kc h z,V.cnew,V.cinj,V.has⟩,fun n x v hn hL=>?_⟩
 obtain ⟨h1,h2⟩:=W n x v hn hL
 refine ⟨fun kk=>?_,fun kk=>?_⟩
 ·obtain ⟨m,val,hm,hv,hr⟩:=h1 kk
  exact ⟨m,val,kn hm,hv,VR.map k _ _ hr⟩
 ·obtain ⟨c,val,hc,hv,hr⟩:=h2 kk
  exact ⟨c,val,hc,kc hc hv,VR.map k _ _ hr⟩
theorem zo0 (hS : StsOk prog w B P n) {target : PySem.Expr} {it : Value} {body : List Stmt} {t : List Nat} {kb kk : Nat} (ct : xE false env.scope target = some t) (tg : zkj kk target = true) (hh : A.handled = none) (Rm : Room A n)
  {PR : List Addr} {St : List PV → List Addr → Heap → Prop} (I : Iter prog w A (zkj kk) it PR [] St) {fl : Fl} {ρ₀ : List Addr} {s₀ : Shared} {R : Result → Shared → Prop}
  (hPR : ∀ a ∈ PR,s₀.heap.get? a = none ∧ B.get? a = none) (hPF : ∀ a ∈ PR,a ∉ ym env) (fin : PostF prog w B ρ₀ env s₀ L' H' fl (fun f s'=>R (.ok f) s')) :
  ∀ (l : List PV) (L : Loc) (H : Hp) (δ : List Addr) (s : Shared),kQ (execs P n (cSs kb env.scope body)) t l L H = some (fl,L',H') →
   Ext ρ₀ (ym env) s₀ s δ → Rel prog w B (ρ₀ ++ δ) H s.heap → St l (ρ₀ ++ δ) s.heap → EnvOk B env (ρ₀ ++ δ) s.heap → VarsOk env (ρ₀ ++ δ) s.heap L → z4 (model prog w) A (.forLoop target it body [] env) R s:=by
 have fPR : ∀ a ∈ ym env,a ∉ PR:=fun a ha hp=>hPF a hp ha
 intro l
 induction l with
 | nil =>
  intro L H δ s h x R1 st V W
  refine zB ?_
  rw [Around.under_of_weight (by rfl) (by rfl)]
  show wpN _ _ ((forTurn target it body [] env).onRaise _) _ _ _
  refine zJ ?_
  unfold forTurn
  obtain ⟨rfl,rfl,rfl⟩:=wP h
  refine zb (zl (zb (zJ (wpN.of (I.stop st fun s' q=>zg ⟨rfl,rfl,wt ?_⟩)))))
  have hp : ∀ a ∈ PR,B.get? a = none ∧ a ∉ ρ₀ ++ δ ∧ ∀ o,s.heap.get? a = some o → zM o = false:=fun a ha=>by
   rcases I.priv st a ha with z | z
   ·cases z
   ·exact ⟨(hPR a ha).2,z⟩
  obtain ⟨R2,k2⟩:=q.rel R1 hp
  obtain ⟨V2,W2⟩:=q.toEnv k2 V W fPR
  exact fin s' δ .next (x.quiet q fun a ha=>(hPR a ha).1) R2 V2 W2 rfl
 | cons v r ih =>
  intro L H δ s h x R1 st V W
  refine zB ?_
  rw [Around.under_of_weight (by rfl) (by rfl)]
  show wpN _ _ ((forTurn target it body [] env).onRaise _) _ _ _
  refine zJ ?_
  unfold forTurn
  revert h;refine zk fun L1 hb=>zfs fun fl2 L2 H2 hb2 h=>?_
  have Pv : Priv (ρ₀ ++ δ) H B s.heap PR:=fun a ha=>⟨(hPR a ha).2,.inl (by
   rcases I.priv st a ha with z | z
   ·cases z
   ·exact z)⟩
  refine zb (zl (zb (zJ (wpN.of (I.next st (fun a q=>R1.off' q) fun s1 val S1 uu own=>?_)))))
  refine zm (own target _ _ tg fun s2 S2 rv st2=>?_)
  have S12 : Still PR s s2:=S1.trans S2 fun a h=>.inl h
  have R2:=Pv.rel S12 R1
  obtain ⟨V2,W2⟩:=Pv.env S12 V W fPR
  have x2 : Ext ρ₀ (ym env) s₀ s2 δ:=x.quiet S12.quiet fun a ha=>(hPR a ha).1
  refine zm (zgh hh ct hb R2 V2 W2 rv fun s3 e3 R3 V3 W3=>?_)
  have st3 : St r (ρ₀ ++ δ) s3.heap:=by
   have z:=I.ext st2 e3 hPF
   rwa [List.append_nil] at z
  have x3 : Ext ρ₀ (ym env) s₀ s3 δ:=by
   have z:=x2.seq e3
   rwa [List.append_nil] at z
  refine zb (hS hb2 R3 V3 W3 Rm fun s4 δ4 f x4 R4 V4 W4 r4=>?_)
  have go : kQ (execs P n (cSs kb env.scope body)) t r L2 H2 = some (fl,L',H') → z4 (model prog w) A (.forLoop target it body [] env) R s4:=fun h=>by
   have y2:=x3.seq x4
   have st4:=I.ext st3 x4 hPF
   rw [List.append_assoc] at R4 V4 W4 st4
   exact ih L2 H2 _ s4 h y2 R4 st4 V4 W4
  cases fl2 with
  | next=>obtain rfl:=r4;exact zg ⟨rfl,rfl,go h⟩
  | cont=>obtain rfl:=r4;exact zg ⟨rfl,rfl,go h⟩
  | ret v =>
   obtain ⟨rfl,rfl,rfl⟩:=wP h
   obtain ⟨val',rfl,r4⟩:=r4
   exact zg ((fin.after x3) s4 δ4 _ x4 R4 V4 W4 ⟨val',rfl,r4⟩)
theorem zmm (hS : StsOk prog w B P n) {target : PySem.Expr} {I li : Addr} {body : List Stmt} {t : List Nat} {kb l : Nat} (ct : xE false env.scope target = some t) (hh : A.handled = none) (Rm : Room A n)
  {fl : Fl} {ρ₀ : List Addr} {s₀ : Shared} {R : Result → Shared → Prop}
  (hI : s₀.heap.get? I = none) (hIB : B.get? I = none) (hIF : I ∉ ym env) (fin : PostF prog w B ρ₀ env s₀ L' H' fl (fun f s'=>R (.ok f) s')) :
  ∀ (j i : Nat) (L : Loc) (H : Hp) (δ : List Addr) (s : Shared),zco (execs P n (cSs kb env.scope body)) t l j i L H = some (fl,L',H') →
   Ext ρ₀ (ym env) s₀ s δ → Rel prog w B (ρ₀ ++ δ) H s.heap → s.heap.IsListIter I li i → I ∉ ρ₀ ++ δ → LocA s.heap (ρ₀ ++ δ) l li → EnvOk B env (ρ₀ ++ δ) s.heap → VarsOk env (ρ₀ ++ δ) s.heap L → z4 (model prog w) A (.forLoop target (.ref I) body [] env) R s:=by
 have fPR : ∀ a ∈ ym env,a ∉ [I]:=fun a ha hp=>hIF ((List.mem_singleton.mp hp) ▸ ha)
 intro j
 induction j with
 | zero=>intro i L H δ s h;exact zd h
 | succ j ih =>
  intro i L H δ s h x R1 st hIn la V W
  refine zB ?_
  rw [Around.under_of_weight (by rfl) (by rfl)]
  show wpN _ _ ((forTurn target (.ref I) body [] env).onRaise _) _ _ _
  refine zJ ?_
  unfold forTurn
  have notV : ∀ {hp : Heap} {i : Nat},hp.IsListIter I li i → ∀ o,hp.get? I = some o → zM o = false:=fun {hp i} z o ho=>by
   obtain ⟨o',ho',_,hd⟩:=z
   rw [ho] at ho';cases ho'
   unfold zM;rw [hd]
  revert h;refine zk fun xs hxs h=>?_
  obtain ⟨vs,k,ho',rv⟩ : ∃ vs k,s.heap.get? li = some { cls:=.type "list",data:=.seq vs k } ∧ VRs s.heap (ρ₀ ++ δ) xs vs.toList:=by
   obtain ⟨o,ho,vs,k,e,rv⟩:=R1.obj l _ li (yV hxs) la.1
   exact ⟨vs,k,by rw [ho,e],rv⟩
  have hl : s.heap.IsList li vs:=⟨_,ho',rfl,k,rfl⟩
  cases hv : xs[i]? with
  | some v =>
   rw [hv] at h
   obtain ⟨val,hval,rval⟩:=rv.get hv
   revert h;refine zk fun L1 hb=>zfs fun fl2 L2 H2 hb2 h=>?_
   refine zb (zl (zb (zJ (wpN.of (wpAny_pyNext_list_item st hl (x:=val) (Array.getElem?_toList ▸ hval) fun h1 hi1 hs1=>?_)))))
   have S1 : Still [I] s { s with heap:=h1,toks:=s.toks }:=Still.sameBut _ hs1 (List.mem_singleton.mpr rfl) (by obtain ⟨o,ho,_⟩:=hi1;rw [ho];exact fun q=>nomatch q)
   have nv : ∀ a ∈ [I],∀ o,s.heap.get? a = some o → zM o = false:=fun a ha o e=>by rw [List.mem_singleton.mp ha] at e;exact notV st o e
   have e1:=S1.ext (ρ:=ρ₀ ++ δ) nv
   have R2 : Rel prog w B (ρ₀ ++ δ) H h1:=R1.still S1 nv fun a ha=>by rw [List.mem_singleton.mp ha];exact ⟨hIn,hIB⟩
   have V2:=V.ext e1 fPR
   have W2:=W.ext V e1 fPR
   have la2:=la.keep e1.k
   rw [List.append_nil] at V2 W2 la2
   obtain ⟨oI,hoI,hcI,hdI⟩:=id hi1
   refine zm (jQ hoI (by rw [hcI];decide) ?_)
   have x2 : Ext ρ₀ (ym env) s₀ { s with heap:=h1,toks:=s.toks } δ:=x.quiet S1.quiet fun a ha=>by rw [List.mem_singleton.mp ha];exact hI
   refine zm (zgh (s:={ s with heap:=h1 }) hh ct hb R2 V2 W2 (rval.still S1 nv) fun s3 e3 R3 V3 W3=>?_)
   have keepI : ∀ {sa sb : Shared} {ρ' δ' : List Addr} {i : Nat},sa.heap.IsListIter I li i → I ∉ ρ' → Ext ρ' (ym env) sa sb δ' → sb.heap.IsListIter I li i ∧ I ∉ ρ' ++ δ':=fun {sa sb ρ' δ' i} z hn e=>by
    obtain ⟨o,ho,r⟩:=z
    refine ⟨⟨o,e.keep _ _ ho (Free.of hn) hIF,r⟩,fun m=>?_⟩
    rcases List.mem_append.mp m with m | m
    ·exact hn m
    ·rw [e.new I m] at ho;cases ho
   obtain ⟨st3,_⟩:=keepI (sa:={ s with heap:=h1 }) hi1 hIn e3
   have la3:=LocA.keep e3.k la2
   rw [List.append_nil] at la3
   have x3 : Ext ρ₀ (ym env) s₀ s3 δ:=by
    have z:=x2.seq e3
    rwa [List.append_nil] at z
   refine zb (hS hb2 R3 V3 W3 Rm fun s4 δ4 f x4 R4 V4 W4 r4=>?_)
   have go : zco (execs P n (cSs kb env.scope body)) t l j (i + 1) L2 H2 = some (fl,L',H') → z4 (model prog w) A (.forLoop target (.ref I) body [] env) R s4:=fun h=>by
    have y2:=x3.seq x4
    obtain ⟨st4,hIn4⟩:=keepI st3 hIn x4
    have la4:=LocA.keep x4.k la3
    rw [List.append_assoc] at R4 V4 W4 hIn4 la4
    exact ih (i + 1) L2 H2 _ s4 h y2 R4 st4 hIn4 la4 V4 W4
   cases fl2 with
   | next=>obtain rfl:=r4;exact zg ⟨rfl,rfl,go h⟩
   | cont=>obtain rfl:=r4;exact zg ⟨rfl,rfl,go h⟩
   | ret v =>
    obtain ⟨rfl,rfl,rfl⟩:=wP h
    obtain ⟨val',rfl,r4⟩:=r4
    exact zg ((fin.after x3) s4 δ4 _ x4 R4 V4 W4 ⟨val',rfl,r4⟩)
  | none =>
   replace h:=hv ▸ h
   obtain ⟨rfl,rfl,rfl⟩:=wP h
   have hnone : vs[i]? = none:=by
    have h1:=List.getElem?_eq_none_iff.mp hv
    rw [← rv.length] at h1
    rw [← Array.getElem?_toList]
    exact List.getElem?_eq_none_iff.mpr h1
   refine zb (zl (zb (zJ (wpN.of (wpAny_pyNext_list_end hh st hl hnone fun h1 hs1=>zg ⟨rfl,rfl,wt ?_⟩)))))
   have q : Quiet [I] s { s with heap:=h1 }:=⟨fun a o e n=>hs1 a o (fun z=>n (List.mem_singleton.mpr z)) e,rfl,rfl,rfl⟩
   obtain ⟨R2,k2⟩:=q.rel R1 (fun a ha=>by rw [List.mem_singleton.mp ha];exact ⟨hIB,hIn,fun o e=>notV st o e⟩)
   obtain ⟨V2,W2⟩:=q.toEnv k2 V W fPR
   exact fin _ δ .next (x.quiet q fun a ha=>by rw [List.mem_singleton.mp ha];exact hI) R2 V2 W2 rfl
end
end Mine
namespace Mine
open PySem PySem.W PyProof.Rows PySem.Spec
open Sem (wp)
theorem zuh : nid ("__classdict__" : Str) = none:=by decide +kernel
theorem zug {id : Str} {x : Nat} (h : nid id = some x) : (id == ("__classdict__" : Str)) = false:=by
 cases q : (id == ("__classdict__" : Str)) with
 | false=>rfl
 | true=>rw [eq_of_beq q,zuh] at h;cases h
section
variable {prog : Program} {A : Around} {w : World} {B : Heap} {ρ δ : List Addr} {H H' : Hp} {s s₁ : Shared} {E : Value → Shared → Prop} {P : Prg} {K : Frag} {env : Env} {L L' : Loc} {n : Nat}
theorem zuq (T : TopK prog w K B P) (hE : ∀ m ≤ n,EOk prog w B P m) (hEs : ∀ m ≤ n,EsOk prog w B P m) (hS : StsOk prog w B P n) {target iter : PySem.Expr} {body : List Stmt} {pos : Pos} {t : List Nat} {its : List ME} {kb k1 : Nat} (h1 : zO iter = true) (hk3 : zL iter ≠ 3) (htg : kL (zL iter) t = true)
  (ct : xE false env.scope target = some t) (ci : cIt k1 env.scope iter = some its) {fl : Fl} {Q : Flow → Shared → Prop}
  (he : exec P (n + 1) (.for t (zL iter) its (cSs kb env.scope body)) L H = some (fl,L',H')) (R : Rel prog w B ρ H s.heap) (V : EnvOk B env ρ s.heap) (W : VarsOk env ρ s.heap L) (Rm : Room A (n + 1))
  (hQ : PostF prog w B ρ env s L' H' fl Q) : wpN (model prog w) A (PySem.exec (.For target iter body [] pos) env) Q E s:=by
 have hh:=Rm.handled
 have Rm':=Rm.down
 revert he;refine zC fun vs Hs es=>zk fun sr hsrc he=>?_
 rw [exec_For]
 refine zb (zl ?_)
 have finish : ∀ {it : Value} {s2 : Shared},z4 (model prog w) A (.forLoop target it body [] env) (fun r s'=>match r with | .ok f=>Q f s' | .error e=>False) s2 → wpN (model prog w) A (runOwn (.forLoop target it body [] env) env) Q E s2:=by
  intro it s2 h
  unfold runOwn
  refine zJ (zbp rfl ?_ fun x=>nomatch x)
  rw [zaw]
  exact zic h fun r s' q=>by cases r <;> exact q
 cases sr with
 | vals l =>
  refine zb (zW (zms T hE hEs ci es hsrc R V W Rm' (Q:=fun it s1=>∃ δ1,Start prog w B (zL iter) ρ s Hs l it s1 δ1) (E:=E) fun it s1 δ1 S=>⟨δ1,S⟩) (fun xv s1 hx=>?_) fun uu uu e=>e)
  refine zb (zT (kR h1 xv) (zb (zl (zb (zp (zW hx (fun it s2 hS2=>?_) fun uu uu e=>e))))))
  obtain ⟨δ1,S⟩:=hS2
  obtain ⟨PR,HD,St,SI,Sst,SP,SHD⟩:=S.go
  have hHD : HD = []:=by
   rcases SHD with ⟨_,q⟩ | ⟨q,_⟩
   ·exact q
   ·exact absurd q hk3
  have hS0 : qf (zL iter) = []:=by
   unfold qf
   split
   ·rename_i q;exact absurd q hk3
   ·rfl
  subst hHD
  refine finish ?_
  have R2 : Rel prog w B (ρ ++ δ1) Hs s2.heap:=by
   have:=S.rel
   rw [hS0,List.append_nil] at this
   exact this
  have V2:=V.step S.ext
  have W2:=W.step V S.ext
  refine zo0 hS ct ((zai ct).2 _ htg) hh Rm' (SI A hh) (fun a ha=>⟨(SP a ha).1,(SP a ha).2.1⟩) (fun a ha hf=>V.foot_some hf (SP a ha).1) (fin:=?_) l L Hs δ1 s2 he S.ext.foot R2 Sst V2 W2
  exact fun s' δ f x R V W r=>hQ s' δ f x R V W r
 | trk i =>
  have hvals : ∀ {o : Option (List PV)},(bn o fun l=>some (Src.vals l)) = some (.trk i) → False:=fun h=>zq h fun uu uu h=>Src.noConfusion (Option.some.inj h)
  have hk : zL iter = 0:=by
   generalize zL iter = kk at hsrc
   rcases kk with _ | _ | _ | _ | kk
   ·rfl
   ·exact (zq hsrc fun uu uu h=>hvals h).elim
   ·exact zq hsrc fun uu uu h=>zq h fun uu uu h=>zq h fun uu uu h=>Src.noConfusion (Option.some.inj h)
   ·exact zq hsrc fun uu uu h=>zq h fun uu uu h=>zq h fun uu uu h=>zq h fun uu uu h=>Src.noConfusion (Option.some.inj h)
   ·exact zd hsrc
  rw [hk] at hsrc
  revert ci;refine jh (fun uu=>zk fun a ha ci=>?_) fun h uu=>absurd hk (Nat.ne_of_beq_eq_false h)
  obtain rfl:=Option.some.inj ci
  obtain ⟨n',v,rfl,rfl,e1⟩:=zfd es
  have hsrc' : ∃ xs,v = .loc i ∧ Hs[i]? = some (.list xs):=by
   cases v with
   | loc j=>exact zq hsrc fun xs hx h=>⟨xs,congrArg PV.loc (wa (Option.some.inj h)),wa (Option.some.inj h) ▸ yV hx⟩
   | lst=>exact Src.noConfusion (Option.some.inj hsrc)
   | tup=>exact Src.noConfusion (Option.some.inj hsrc)
   | bytes=>exact Src.noConfusion (Option.some.inj hsrc)
   | _=>exact zd hsrc
  obtain ⟨xs,rfl,hxs⟩:=hsrc'
  refine zb (hE n' (Nat.le_succ _) ha e1 R V W Rm'.down fun s1 δ1 v1 x1 R1 r1=>?_)
  refine zb (zT (kR h1 v1) (zb (zl ?_)))
  obtain ⟨la,rfl,hla⟩:=r1
  obtain ⟨vs2,k2,ho',rv⟩ : ∃ vs k,s1.heap.get? la = some { cls:=.type "list",data:=.seq vs k } ∧ VRs s1.heap (ρ ++ δ1) xs vs.toList:=by
   obtain ⟨o,ho,vs,k,e,rv⟩:=R1.obj i _ la hxs hla.1
   exact ⟨vs,k,by rw [ho,e],rv⟩
  refine zm (wpAny_holding (wpAny_pyIter_list (⟨_,ho',rfl,k2,rfl⟩ : s1.heap.IsList la vs2) ?_))
  refine finish ?_
  have st : Still [] s1 { s1 with heap:=s1.heap.push { cls:=.type "list_iterator",data:=.fields #[.ref la,.int 0 0] },toks:=s1.toks }:=Still.push _ _
  have x2:=st.ext0 (ρ:=ρ ++ δ1)
  have V1:=V.step x1
  have W1:=W.step V x1
  have V2:=V1.step x2
  have W2:=W1.step V1 x2
  have la2:=hla.keep x2.k
  rw [List.append_nil] at V2 W2 la2
  have hI0 : s.heap.get? s1.heap.objs.size = none:=x1.gone _ (zU _)
  have x3 : Ext ρ [] s { s1 with heap:=s1.heap.push { cls:=.type "list_iterator",data:=.fields #[.ref la,.int 0 0] },toks:=s1.toks } δ1:=by
   have z:=x1.seq x2
   rwa [List.append_nil] at z
  refine zmm hS ct hh Rm' hI0 (R.bnone hI0) (fun hf=>V.foot_some hf hI0) (fin:=?_) qK 0 L Hs δ1 _ he x3.foot (R1.still0 st) ⟨_,Heap.get?_push_size _ rfl,rfl,rfl⟩ (R1.off (Nat.le_refl _)) la2 V2 W2
  exact fun s' δ f x R V W r=>hQ s' δ f x R V W r
theorem ztt (h1 : StOk prog w B P n) (h2 : StsOk prog w B P n) : StsOk prog w B P (n + 1):=by
 intro A ρ H H' s E env L L' k st fl Q he R V W Rm hQ
 cases st with
 | nil =>
  replace hQ:=hQ.eq3 he
  exact qh ▸ zg (hQ.same R V W rfl)
 | cons st r =>
  revert he;refine zfs fun f1 L1 H1 e1 he=>?_
  rw [execs_cons]
  refine zb (h1 e1 R V W Rm.down fun s1 δ1 f x1 R1 V1 W1 r1=>?_)
  cases f1 with
  | next =>
   obtain rfl:=r1
   exact h2 he R1 V1 W1 Rm.down (hQ.after x1)
  | cont =>
   replace hQ:=hQ.eq3 he
   obtain rfl:=r1
   exact zg (hQ s1 δ1 _ x1 R1 V1 W1 rfl)
  | ret v =>
   replace hQ:=hQ.eq3 he
   obtain ⟨val,rfl,r1⟩:=r1
   exact zg (hQ s1 δ1 _ x1 R1 V1 W1 ⟨val,rfl,r1⟩)
theorem zhw (test : PySem.Expr) (body orelse : List Stmt) (pos : Pos) : PySem.exec (.If test body orelse pos) env = (standAt pos >>= fun uu=>isTrue test env (eval test env) >>= fun b=>if b = true then PySem.execs body env else PySem.execs orelse env):=rfl
theorem zvc {k : Nat} {st : Stmt} {r : Fl × Loc × Hp} {C : Prop} (he : exec P (n + 1) (cS k env.scope st) L H = some r) (g : ∀ k' m,stS k' (cS k' env.scope) env.scope st = some m → exec P (n + 1) m L H = some r → C) : C:=by
 cases k with
 | zero=>exact zd he
 | succ k =>
  have e : cS (k + 1) env.scope st = kv (stS k (cS k env.scope) env.scope st) id .stuck:=rfl
  replace he:=e ▸ he
  cases q : stS k (cS k env.scope) env.scope st with
  | none=>rw [q] at he;exact zd he
  | some m=>rw [q] at he;exact g k m q he
theorem st_ok (T : TopK prog w K B P) (hE : ∀ m ≤ n,EOk prog w B P m) (hEs : ∀ m ≤ n,EsOk prog w B P m) (hC : ∀ m ≤ n,COk prog w B P m) (hA : AsgOk prog w B P n) (hS : StsOk prog w B P n) : StOk prog w B P (n + 1):=by
 intro A ρ H H' s E env L L' k st fl Q he0 R V W Rm hQ
 have h1 : EOk prog w B P n:=hE n (Nat.le_refl _)
 have h3 : COk prog w B P n:=hC n (Nat.le_refl _)
 have Rm':=Rm.down
 refine zvc he0 fun k m hc he=>?_
 clear he0
 cases st with
 | Expr e pos =>
  revert hc;refine zR fun hi=>zk fun a ha hc=>?_
  obtain rfl:=Option.some.inj hc
  exact zrw h1 (Bool.not_eq_true' _ ▸ hi) ha he R V W Rm hQ
 | Pass pos =>
  obtain rfl:=Option.some.inj hc
  replace hQ:=hQ.eq3 he
  exact wpN.of (wpAny_Pass (hQ.same R V W rfl))
 | Continue pos =>
  obtain rfl:=Option.some.inj hc
  replace hQ:=hQ.eq3 he
  exact zb (zl (zg (hQ.same R V W rfl)))
 | Return o pos =>
  revert hc;refine zk fun a ha hc=>?_
  obtain rfl:=Option.some.inj hc
  cases o with
  | none =>
   obtain rfl:=Option.some.inj ha
   revert he;refine zC fun v H1 e1 he=>?_
   replace hQ:=hQ.eq3 he
   cases n with
   | zero=>exact zd e1
   | succ n =>
    obtain ⟨rfl,rfl⟩:=z6 e1
    exact zb (zl (zg (hQ.same R V W ⟨.none,rfl,rfl⟩)))
  | some e=>exact zt9 h1 ha he R V W Rm hQ
 | Assign ts e pos =>
  revert hc;refine zk fun t h0=>zk fun mt ht=>zk fun a ha=>jh (fun hi=>zk fun x hx hc=>?_) fun hi=>zk fun o ho=>kN (fun names hn=>zk fun xs hx hc=>?_) fun hn hc=>?_
  ·obtain rfl:=yE h0
   obtain rfl:=Option.some.inj hc
   exact zsd T hE hEs hC hi (zsk ht hx).2 ha he R V W Rm hQ
  ·obtain rfl:=yE h0
   obtain rfl:=Option.some.inj hc
   exact zqq h1 hi (ho.trans (congrArg some hn)) hx ha he R V W Rm hQ
  ·obtain rfl:=yE h0
   obtain rfl:=Option.some.inj hc
   exact zl9 T h1 hA hi (ho.trans (congrArg some hn)) ht ha he R V W Rm hQ
 | AugAssign t op e pos =>
  revert hc;refine zk fun q hq=>zR fun ho=>zk fun x hi=>zk fun a ha hc=>?_
  obtain rfl:=jq hq
  obtain rfl:=jT ho
  obtain rfl:=Option.some.inj hc
  exact zvk h1 hi ha he R V W Rm hQ (zug (jn hi).1)
 | If c a b pos =>
  revert hc;refine zk fun m hm hc=>?_
  obtain rfl:=Option.some.inj hc
  revert he;refine zC fun t H1 e1 he=>?_
  rw [zhw]
  refine zb (zl (zb (h3 hm e1 R V W Rm' fun s1 δ1 x1 R1=>?_)))
  revert he;refine jh (fun q he=>yk q ?_) fun q he=>zF q ?_
  ·exact hS he R1 (V.step x1) (W.step V x1) Rm' (hQ.after x1.foot)
  ·exact hS he R1 (V.step x1) (W.step V x1) Rm' (hQ.after x1.foot)
 | While c a els pos =>
  revert hc;refine zR fun hl=>zk fun m hm hc=>?_
  obtain rfl:=jS hl
  obtain rfl:=Option.some.inj hc
  exact zmh h3 hS hm he R V W Rm hQ
 | For t it b els pos =>
  revert hc;refine zR fun hl=>zR fun hp=>zk fun xs ht=>zk fun its ci=>zR fun hq hc=>?_
  obtain rfl:=jS hl
  obtain rfl:=Option.some.inj hc
  obtain ⟨hp1,hp2⟩:=Bool.and_eq_true_iff.mp hp
  exact zuq T hE hEs hS hp1 (fun z=>by rw [z] at hp2;cases hp2) (Bool.and_eq_true_iff.mp hq).2 ht ci he R V W Rm hQ
 | _=>exact zd hc
end
end Mine
namespace Mine
open PySem PySem.W PyProof.Rows PySem.Spec
open Sem (wp)
noncomputable def wC (slots : List (Str × Value)) (x : Str × Value) : List (Str × Value):=if (slots.lookup x.1).isNone then slots ++ [x] else slots
theorem zbb : ∀ {l : List (Str × Value)} {slots : List (Str × Value)},(∀ x ∈ l,(slots.lookup x.1).isSome = true) → l.foldl wC slots = slots
 | [],_,_=>rfl
 | x :: r,slots,h=>by
  have h1:=h x (List.mem_cons_self ..)
  have : wC slots x = slots:=by
   unfold wC
   rw [if_neg (by cases q : slots.lookup x.1 <;> simp_all)]
  rw [List.foldl_cons,this]
  exact zbb fun y hy=>h y (List.mem_cons_of_mem _ hy)
theorem zew {l : List (Str × Value)} {n : Str} (h : n ∉ l.map (·.1)) : l.lookup n = none:=by
 induction l with
 | nil=>rfl
 | cons x r ih =>
  replace h:=List.map_cons ▸ h
  have h1 : n ≠ x.1:=fun q=>h (by rw [q];exact List.mem_cons_self ..)
  have h2 : n ∉ r.map (·.1):=fun q=>h (List.mem_cons_of_mem _ q)
  rw [List.lookup_cons,beq_eq_false_iff_ne.mpr h1]
  exact ih h2
theorem wk {l : List (Str × Value)} {n : Str} (h : n ∈ l.map (·.1)) : (l.lookup n).isSome = true:=by
 induction l with
 | nil=>cases h
 | cons x r ih =>
  rw [List.lookup_cons]
  cases q : (n == x.1) with
  | true=>rfl
  | false =>
   rw [List.map_cons] at h
   rcases List.mem_cons.mp h with h | h
   ·rw [h,beq_self_eq_true] at q;cases q
   ·exact ih h
theorem ze9 : ∀ {l : List (Str × Value)} {slots : List (Str × Value)},(l.map (·.1)).Nodup → (∀ x ∈ l,x.1 ∉ slots.map (·.1)) → l.foldl wC slots = slots ++ l
 | [],slots,_,_=>by rw [List.foldl_nil,List.append_nil]
 | x :: r,slots,hn,h=>by
  have : wC slots x = slots ++ [x]:=by
   unfold wC
   rw [if_pos (by rw [zew (h x (List.mem_cons_self ..))];rfl)]
  rw [List.map_cons,List.nodup_cons] at hn
  rw [List.foldl_cons,this,ze9 hn.2 fun y hy=>?_,List.append_assoc,List.singleton_append]
  rw [List.map_append]
  intro q
  rcases List.mem_append.mp q with q | q
  ·exact h y (List.mem_cons_of_mem _ hy) q
  ·rw [List.map_cons,List.map_nil,List.mem_singleton] at q
   exact hn.1 (q ▸ List.mem_map_of_mem (f:=(·.1)) hy)
theorem zev {l : List (Str × Value)} (hn : (l.map (·.1)).Nodup) {x : Str × Value} (h : x ∈ l) : l.lookup x.1 = some x.2:=by
 induction l with
 | nil=>cases h
 | cons y r ih =>
  rw [List.map_cons,List.nodup_cons] at hn
  rw [List.lookup_cons]
  rcases List.mem_cons.mp h with rfl | h
  ·rw [beq_self_eq_true]
  ·have : x.1 ≠ y.1:=fun q=>hn.1 (q ▸ List.mem_map_of_mem (f:=(·.1)) h)
   exact (beq_eq_false_iff_ne.mpr this) ▸ ih hn.2 h
theorem zgw {l : List (Str × Value)} (hn : (l.map (·.1)).Nodup) : (l.map (·.1)).filterMap (fun n=>(l.lookup n).map (n,·)) = l:=by
 have : ∀ (r : List (Str × Value)),(∀ x ∈ r,x ∈ l) → (r.map (·.1)).filterMap (fun n=>(l.lookup n).map (n,·)) = r:=by
  intro r
  induction r with
  | nil=>intro _;rfl
  | cons x r ih =>
   intro h
   rw [List.map_cons,List.filterMap_cons,zev hn (h x (List.mem_cons_self ..))]
   show x :: _ = _
   rw [ih fun y hy=>h y (List.mem_cons_of_mem _ hy)]
 exact this l fun uu h=>h
theorem qw {ns : List Str} {vs : List Value} (h : ns.length ≤ vs.length) : (ns.zip vs).map (·.1) = ns:=List.map_fst_zip h
theorem zif {names : List Str} {vals ds : List Value} (hn : names.Nodup) (h1 : vals.length ≤ names.length) (h2 : names.length ≤ vals.length + ds.length) (h3 : ds.length ≤ names.length) :
  names.filterMap (fun n=>((((names.drop (names.length - ds.length)).zip ds).foldl wC (names.zip vals)).lookup n).map (n,·)) = names.zip (vals ++ ds.drop (ds.length + vals.length - names.length)):=by
 obtain ⟨p,hp⟩:=Nat.exists_eq_add_of_le' h3
 obtain ⟨j,hv⟩:=Nat.exists_eq_add_of_le (Nat.le_of_add_le_add_right (hp ▸ h2 : p + ds.length ≤ vals.length + ds.length))
 have hj : j ≤ ds.length:=Nat.le_of_add_le_add_left (hp ▸ hv ▸ h1 : p + j ≤ p + ds.length)
 have a1 : names.length - ds.length = p:=by rw [hp,Nat.add_sub_cancel]
 have a2 : ds.length + vals.length - names.length = j:=by rw [hp,hv,Nat.add_comm p ds.length,← Nat.add_assoc,Nat.add_sub_cancel_left]
 rw [a1,a2]
 have lt:=List.length_take_of_le h1
 have lp : (names.drop vals.length).length = (ds.drop j).length:=by rw [List.length_drop,List.length_drop,hp,hv,Nat.add_sub_add_left]
 have e1 : names.zip vals = (names.take vals.length).zip vals:=by
  have:=List.zip_append (l₁:=names.take vals.length) (r₁:=names.drop vals.length) (l₂:=vals) (r₂:=[]) lt
  rw [List.take_append_drop,List.append_nil,List.zip_nil_right,List.append_nil] at this
  exact this
 have e2 : (names.drop p).zip ds = ((names.drop p).take j).zip (ds.take j) ++ (names.drop vals.length).zip (ds.drop j):=by
  have:=List.zip_append (l₁:=(names.drop p).take j) (r₁:=(names.drop p).drop j) (l₂:=ds.take j) (r₂:=ds.drop j) ((List.length_take_of_le (by rw [List.length_drop,hp,Nat.add_sub_cancel_left];exact hj)).trans (List.length_take_of_le hj).symm)
  rw [List.take_append_drop,List.take_append_drop,List.drop_drop,← hv] at this
  exact this
 have k1 : (names.zip vals).map (·.1) = names.take vals.length:=by
  rw [e1];exact qw (Nat.le_of_eq lt)
 have k2 : ((names.drop vals.length).zip (ds.drop j)).map (·.1) = names.drop vals.length:=qw (Nat.le_of_eq lp)
 have all : ((names.drop p).zip ds).foldl wC (names.zip vals) = names.zip (vals ++ ds.drop j):=by
  have c1 : ∀ x ∈ ((names.drop p).take j).zip (ds.take j),((names.zip vals).lookup x.1).isSome = true:=by
   intro x hx
   refine wk ?_
   rw [k1]
   have hx':=(List.of_mem_zip (a:=x.1) (b:=x.2) hx).1
   rw [List.take_drop,← hv] at hx'
   exact List.mem_of_mem_drop hx'
  have c2 : ∀ x ∈ (names.drop vals.length).zip (ds.drop j),x.1 ∉ (names.zip vals).map (·.1):=by
   intro x hx
   rw [k1]
   have hx' : x.1 ∈ names.drop vals.length:=by rw [← k2];exact List.mem_map_of_mem (f:=(·.1)) hx
   have dis:=(List.nodup_append.mp (show (names.take vals.length ++ names.drop vals.length).Nodup by rw [List.take_append_drop];exact hn)).2.2
   exact fun q=>dis _ q _ hx' rfl
  have c3 : (((names.drop vals.length).zip (ds.drop j)).map (·.1)).Nodup:=by rw [k2];exact hn.sublist (List.drop_sublist _ _)
  rw [e2,List.foldl_append,zbb c1,ze9 c3 c2,e1]
  have:=List.zip_append (l₁:=names.take vals.length) (r₁:=names.drop vals.length) (l₂:=vals) (r₂:=ds.drop j) lt
  rw [List.take_append_drop] at this
  exact this.symm
 rw [all]
 have kz:=qw (ns:=names) (vs:=vals ++ ds.drop j) (by rw [List.length_append,← lp,List.length_drop,Nat.add_sub_cancel' h1];exact Nat.le_refl _)
 have:=zgw (l:=names.zip (vals ++ ds.drop j)) (by rw [kz];exact hn)
 rw [kz] at this
 exact this
end Mine
namespace Mine
open PySem PySem.W PyProof.Rows PySem.Spec
open Sem (wp)
noncomputable def w6 (p : Arguments) : Bool:=p.posonlyargs.isEmpty && p.vararg.isNone && p.kwonlyargs.isEmpty && p.kwarg.isNone
theorem zjv {M : Model} {A : Around} {E : Value → Shared → Prop} (f : Str × Value → List (Str × Value) → Sem (ForInStep (List (Str × Value))))
  (hf : ∀ x sl,f x sl = pure (.yield (wC sl x))) : ∀ (l : List (Str × Value)) (sl : List (Str × Value)) (s : Shared) (Q : List (Str × Value) → Shared → Prop),Q (l.foldl wC sl) s → wpAny M A (forIn l sl f) Q E s
 | [],sl,s,Q,h=>by rw [List.forIn_nil];exact wpAny_pure h
 | x :: r,sl,s,Q,h=>by
  rw [List.forIn_cons,hf]
  exact wpAny_bind (wpAny_pure (zjv f hf r _ s Q h))
theorem zp4 {s : Shared} {fd : FuncData} {vals ds : List Value} (hp : w6 fd.params = true) (hn : (fd.params.args.map (·.arg)).Nodup)
  (hds : ∀ (M : Model) (A : Around) (E : Value → Shared → Prop) (Q : Option (Array Value) → Shared → Prop),(∀ x,(x.getD #[]).toList = ds → Q x s) → wpAny M A (seqItems? fd.defaults) Q E s)
  (h1 : vals.length ≤ fd.params.args.length) (h2 : fd.params.args.length ≤ vals.length + ds.length) (h3 : ds.length ≤ fd.params.args.length) :
  BindsTo s fd ⟨vals,[]⟩ ((fd.params.args.map (·.arg)).zip (vals ++ ds.drop (ds.length + vals.length - fd.params.args.length))):=by
 intro M A E Q hQ
 obtain ⟨hp,p4⟩:=Bool.and_eq_true_iff.mp hp
 obtain ⟨hp,p3⟩:=Bool.and_eq_true_iff.mp hp
 obtain ⟨p1,p2⟩:=Bool.and_eq_true_iff.mp hp
 have e1:=List.isEmpty_iff.mp p1
 have e2:=Option.isNone_iff_eq_none.mp p2
 have e3:=List.isEmpty_iff.mp p3
 have e4:=Option.isNone_iff_eq_none.mp p4
 clear p1 p2 p3 p4 hp
 obtain ⟨f1,f2,⟨po,as,va,ko,kd,ka,dd⟩,f3,f4,f5,f6,f7,f8,f9,f10,f11,f12,f13,f14⟩:=fd
 dsimp only at e1 e2 e3 e4 hn hds h1 h2 h3 hQ
 subst e1 e2 e3 e4
 have hlen : (as.map (·.arg)).length = as.length:=List.length_map ..
 rw [← hlen] at h1 h2 h3 hQ
 generalize hN : as.map (·.arg) = names at hn hQ h1 h2 h3
 delta bindArgs
 dsimp only [List.map_nil,List.nil_append,List.append_nil]
 rw [hN]
 refine wpAny_bind (wpAny_of_eq List.forIn_nil ?_)
 refine wpAny_bind (hds _ _ _ _ fun x hx=>?_)
 rw [hx]
 have g1 : (decide (vals.length > names.length)) = false:=decide_eq_false (Nat.not_lt.mpr h1)
 refine bm_if_false (show (decide (vals.length > names.length) && true) = false by rw [g1];rfl) ?_
 have g2 : ds.drop (ds.length - names.length) = ds:=by rw [Nat.sub_eq_zero_of_le h3];rfl
 have g3 : (names.take (names.length - ds.length)).filter (fun n=>((names.zip vals).lookup n).isNone) = []:=by
  rw [List.filter_eq_nil_iff]
  intro a ha
  have e : names.zip vals = (names.take vals.length).zip vals:=by
   have:=List.zip_append (l₁:=names.take vals.length) (r₁:=names.drop vals.length) (l₂:=vals) (r₂:=[]) (by rw [List.length_take];lia)
   rw [List.take_append_drop,List.append_nil,List.zip_nil_right,List.append_nil] at this
   exact this
  have k1 : (names.zip vals).map (·.1) = names.take vals.length:=by
   rw [e];exact qw (by rw [List.length_take];lia)
  have : ((names.zip vals).lookup a).isSome = true:=wk (by
   exact k1 ▸ (List.take_subset_take_left _ (by exact Nat.sub_le_of_le_add h2)) ha)
  cases q : (names.zip vals).lookup a with
  | none=>rw [q] at this;cases this
  | some v=>exact fun z=>nomatch z
 refine bm_if_false (show (!((names.take (names.length - (ds.drop (ds.length - names.length)).length)).filter (fun n=>((names.zip vals).lookup n).isNone)).isEmpty) = false by rw [g2,g3];rfl) ?_
 refine wpAny_bind (zjv _ (fun x sl=>?_) _ _ _ _ ?_)
 ·unfold wC
  split <;> rfl
 have z : Q ((names ++ []).filterMap (fun n=>((((names.drop (names.length - (ds.drop (ds.length - names.length)).length)).zip (ds.drop (ds.length - names.length))).foldl wC (names.zip vals)).lookup n).map (n,·))) s:=by
  rw [List.append_nil,g2,zif hn h1 h2 h3];exact hQ
 refine wpAny_bind (wpAny_of_eq List.forIn_nil ?_)
 refine bm_if_false rfl ?_
 exact wpAny_pure z
end Mine
namespace Mine
open PySem PySem.W PyProof.Rows PySem.Spec
open Sem (wp)
noncomputable def cdV (v : Value) : Option PV:=match v with
 | .none=>some .none
 | .bool b=>some (.bool b)
 | .int i _=>some (.int i)
 | .str s _=>bn (nid s) fun n=>some (.str n)
 | _=>none
noncomputable def zs0 : Data → Option (Array Value)
 | .seq l _=>some l
 | _=>none
theorem zkr {d : Data} {l : Array Value} (h : zs0 d = some l) : ∃ n,d = .seq l n:=by
 cases d with
 | seq l n=>exact ⟨n,Option.some.inj h ▸ rfl⟩
 | _=>exact zd h
noncomputable def zpf (K : Frag) (v : Value) : Option (List Value):=match v with
 | .none=>some []
 | .ref T=>bn (K.lookup T) fun o=>bn (zs0 o.data) fun l=>some l.toList
 | _=>none
noncomputable def zcd : List Str → Bool
 | []=>true
 | x :: r=>!(r.contains x) && zcd r
noncomputable def wH (names : List (Str × NameKind)) (n : Str) : Bool:=names.lookup n == some .local || names.lookup n == some .cell
noncomputable def zhg (names : List (Str × NameKind)) : Bool:=names.all fun x=>x.2 != .free
structure FnC (K : Frag) (a : Addr) (fd : FnD) (o : Obj) (f : FuncData) (body : List Stmt) (ds : List Value) (kb : Nat) : Prop where
 here : K.lookup a = some o
 data : o.data = .func f
 stm : f.body = .stmts body
 clo : f.closure = []
 co : f.scope.isCoroutine = false
 gen : f.scope.isGenerator = false
 kind : f.scope.kind = .function
 glob : f.globals = mainGlobals
 bi : f.builtins = builtinsNs
 code : codeIn K f.code f.qualname = true
 par : w6 f.params = true
 nd : zcd (f.params.args.map (·.arg)) = true
 pk : (f.params.args.map (·.arg)).all (wH f.scope.names) = true
 nf : zhg f.scope.names = true
 pn : (f.params.args.map (·.arg)).mapM nid = some fd.params
 dv : zpf K f.defaults = some ds
 dc : ds.mapM cdV = some fd.dflts
 dl : ds.length ≤ f.params.args.length
 bd : fd.body = cSs kb f.scope body
structure FnK (K : Frag) (a : Addr) (fd : FnD) : Prop where
 has : ∃ o f body ds kb,FnC K a fd o f body ds kb
structure TopF (prog : Program) (w : World) (K : Frag) (B : Heap) (P : Prg) : Prop extends TopK prog w K B P where
 fns : ∀ a fd,P.fn a = some fd → FnK K a fd
theorem zav {l : List Str} (h : zcd l = true) : l.Nodup:=by
 induction l with
 | nil=>exact List.nodup_nil
 | cons x r ih =>
  obtain ⟨h1,h2⟩:=Bool.and_eq_true_iff.mp h
  rw [List.nodup_cons]
  refine ⟨fun m=>?_,ih h2⟩
  replace h1:=(List.contains_iff_mem.mpr m) ▸ h1
  cases h1
theorem zva {v : Value} {x : PV} (e : cdV v = some x) (h : Heap) (ρ : List Addr) : VR h ρ x v:=by
 cases v with
 | none=>exact Option.some.inj e ▸ rfl
 | bool b=>exact Option.some.inj e ▸ rfl
 | int i t=>exact Option.some.inj e ▸ ⟨_,rfl⟩
 | str st t=>revert e;exact zk fun n hn e=>Option.some.inj e ▸ ⟨_,_,rfl,hn⟩
 | _=>exact zd e
theorem zj5 : ∀ {l : List Value} {xs : List PV},l.mapM cdV = some xs → ∀ (h : Heap) (ρ : List Addr),VRs h ρ xs l
 | [],xs,e,h,ρ=>by
  have : xs = []:=by simpa using e.symm
  subst this;exact rfl
 | v :: r,xs,e,h,ρ=>by
  rw [List.mapM_cons] at e
  obtain ⟨x,hx,e⟩:=Option.bind_eq_some_iff.mp e
  obtain ⟨xr,hr,e⟩:=Option.bind_eq_some_iff.mp e
  cases e
  exact VRs.cons (zva hx h ρ) (zj5 hr h ρ)
theorem kq : ∀ {names : List (Str × NameKind)} {k : Nat} {acc : List (Str × Addr)} {n : Str},((n,NameKind.cell) ∈ names ∨ (acc.lookup n).isSome = true) → ((cellsFrom k names acc).lookup n).isSome = true
 | [],k,acc,n,h=>by
  rcases h with h | h
  ·cases h
  ·exact h
 | (m,kd) :: r,k,acc,n,h=>by
  unfold cellsFrom
  split
  ·rename_i hk
   refine kq ?_
   rcases h with h | h
   ·rcases List.mem_cons.mp h with h | h
    ·cases h
     right;rw [List.lookup_cons,beq_self_eq_true];rfl
    ·exact .inl h
   ·right
    rw [List.lookup_cons]
    split
    ·rfl
    ·exact h
  ·rename_i hk
   refine kq ?_
   rcases h with h | h
   ·rcases List.mem_cons.mp h with h | h
    ·cases h;exact absurd rfl hk
    ·exact .inl h
   ·exact .inr h
theorem wv {ko : Str → Option NameKind} {n : Str} : ∀ {l : List (Str × Value)} {m : Str → Option Value},n ∉ l.map (·.1) → bindL ko l m n = m n
 | [],m,_=>rfl
 | (k,v) :: r,m,h=>by
  have h1 : n ≠ k:=fun q=>h (by rw [q];exact List.mem_cons_self ..)
  have h2 : n ∉ r.map (·.1):=fun q=>h (List.mem_cons_of_mem _ q)
  unfold bindL
  rw [wv h2]
  split
  ·exact if_neg h1
  ·rfl
theorem zbi {ko : Str → Option NameKind} {n : Str} {val : Value} (hk : ko n = some .local) : ∀ {l : List (Str × Value)} {m : Str → Option Value},(l.map (·.1)).Nodup → (n,val) ∈ l → bindL ko l m n = some val
 | [],m,_,h=>nomatch h
 | (k,v) :: r,m,hn,h=>by
  rw [List.map_cons,List.nodup_cons] at hn
  unfold bindL
  rcases List.mem_cons.mp h with h | h
  ·cases h
   rw [wv hn.1,if_pos hk]
   exact if_pos rfl
  ·exact zbi hk hn.2 h
theorem ww {ko : Str → Option NameKind} {n : Str} : ∀ {l : List (Str × Value)} {m : Str → Option Value},n ∉ l.map (·.1) → bindC ko l m n = m n
 | [],m,_=>rfl
 | (k,v) :: r,m,h=>by
  have h1 : n ≠ k:=fun q=>h (by rw [q];exact List.mem_cons_self ..)
  have h2 : n ∉ r.map (·.1):=fun q=>h (List.mem_cons_of_mem _ q)
  unfold bindC
  rw [ww h2]
  split
  ·rfl
  ·exact if_neg h1
theorem zbj {ko : Str → Option NameKind} {n : Str} {val : Value} (hk : ¬ ko n = some .local) : ∀ {l : List (Str × Value)} {m : Str → Option Value},(l.map (·.1)).Nodup → (n,val) ∈ l → bindC ko l m n = some val
 | [],m,_,h=>nomatch h
 | (k,v) :: r,m,hn,h=>by
  rw [List.map_cons,List.nodup_cons] at hn
  unfold bindC
  rcases List.mem_cons.mp h with h | h
  ·cases h
   rw [ww hn.1,if_neg hk]
   exact if_pos rfl
  ·exact zbj hk hn.2 h
theorem zl0 {h : Heap} {ρ : List Addr} {n : Str} {x : Nat} {v : PV} (hn : nid n = some x) : ∀ {names : List Str} {xs : List Nat} {vs : List PV} {vals : List Value} {L : Loc},names.mapM nid = some xs → vy xs vs (fun uu=>none) = some L → VRs h ρ vs vals → L x = some v →
  ∃ val,(n,val) ∈ names.zip vals ∧ VR h ρ v val:=by
 intro names
 induction names with
 | nil =>
  intro xs vs vals L hm hb hv hL
  obtain rfl : [] = xs:=Option.some.inj hm
  cases vs with
  | nil=>obtain rfl:=Option.some.inj hb;cases hL
  | cons=>exact zd hb
 | cons a r ih =>
  intro xs vs vals L hm hb hv hL
  rw [List.mapM_cons] at hm
  obtain ⟨y,hy,hm⟩:=Option.bind_eq_some_iff.mp hm
  obtain ⟨xr,hr,hm⟩:=Option.bind_eq_some_iff.mp hm
  obtain rfl : y :: xr = xs:=Option.some.inj hm
  cases vs with
  | nil=>exact zd hb
  | cons v0 t =>
   revert hb;refine zk fun L1 h1 hb=>?_
   obtain rfl:=Option.some.inj hb
   obtain ⟨val0,vt,rfl,r1,r2⟩:=hv
   rw [List.zip_cons_cons]
   unfold z5 at hL
   by_cases q : x = y
   ·rw [if_pos q] at hL
    obtain rfl:=Option.some.inj hL
    obtain rfl : n = a:=jB (q ▸ hn) hy
    exact ⟨val0,List.mem_cons_self ..,r1⟩
   ·rw [if_neg q] at hL
    obtain ⟨val,q1,q2⟩:=ih hr h1 r2 hL
    exact ⟨val,List.mem_cons_of_mem _ q1,q2⟩
section
variable {prog : Program} {A : Around} {w : World} {B : Heap} {ρ δ : List Addr} {H H' : Hp} {s s₁ : Shared} {E : Value → Shared → Prop} {P : Prg} {K : Frag} {n : Nat}
theorem zib {env : Env} {body : List Stmt} {R : Result → Shared → Prop} (h : wpN (model prog w) (A.deeper env) (PySem.execs body env) (fun f s'=>R (.ok (.ret (match f with | .ret v=>v | _=>.none))) s') (fun uu uu=>False) s) : z4 (model prog w) A (.func body env) R s:=by
 refine zB ?_
 show wpN _ (A.deeper env) (do point;match ← (PySem.execs body env).onRaise (leaving env) with | .ret v=>ret v | _=>ret .none) _ _ s
 refine zb (zah (zb (zJ (zW h (fun f s' h'=>?_) fun uu uu h'=>h'))))
 cases f <;> exact zg h'
theorem zfo {M : Model} {a : Addr} {o : Obj} {f : FuncData} {args : Args} {Q : Fin → Shared → Prop} (ho : s.heap.get? a = some o) (hod : o.data = .func f) (h : wpN M A (callFunction a f args) Q E s) : wpN M A (callAny (.ref a) args) Q E s:=by
 refine zm (m:=load a) (wpAny_load ho ?_)
 obtain ⟨c,d,dt,sl⟩:=o
 cases hod
 exact h
theorem zru {a : Addr} {fd : FnD} {o : Obj} {f : FuncData} {body : List Stmt} {ds : List Value} {kb : Nat} {vs : List PV} {vals : List Value} {L : Loc} (F : FnC K a fd o f body ds kb) (X : K.In s.heap) (hb : zft fd vs = some L) (hv : VRs s.heap ρ vs vals) :
  ∃ vals' vs',BindsTo s f ⟨vals,[]⟩ ((f.params.args.map (·.arg)).zip vals') ∧ VRs s.heap ρ vs' vals' ∧ vy fd.params vs' (fun uu=>none) = some L ∧ ((f.params.args.map (·.arg)).zip vals').map (·.1) = f.params.args.map (·.arg):=by
 have hlenN : (f.params.args.map (·.arg)).length = f.params.args.length:=List.length_map ..
 have hpl:=hlenN.symm.trans (qJ F.pn)
 have dvr:=zj5 F.dc s.heap ρ
 have hdl':=dvr.length
 have hvl:=hv.length
 unfold zft at hb
 have hbl:=yN hb
 rw [List.length_append,List.length_drop] at hbl
 have edrop : ds.length + vals.length - f.params.args.length = fd.dflts.length + vs.length - fd.params.length:=by rw [hdl',hvl,hpl]
 have dl:=F.dl
 have hB : BindsTo s f ⟨vals,[]⟩ ((f.params.args.map (·.arg)).zip (vals ++ ds.drop (ds.length + vals.length - f.params.args.length))):=by
  refine zp4 F.par (zav F.nd) (fun M A E Q hq=>?_) (by lia) (by lia) dl
  have hdv:=F.dv
  cases q : f.defaults with
  | none=>rw [q] at hdv;exact wpAny_pure (hq _ (Option.some.inj hdv))
  | ref T =>
   rw [q] at hdv
   revert hdv;refine zk fun o ho=>zk fun l hl e=>?_
   obtain ⟨n,hn⟩:=zkr hl
   exact wpAny_seqItems (X _ _ ho) hn (hq _ (Option.some.inj e))
  | _=>rw [q] at hdv;exact zd hdv
 rw [edrop] at hB
 have hvr:=hv.append (dvr.drop (fd.dflts.length + vs.length - fd.params.length))
 exact ⟨_,_,hB,hvr,hb,qw (by rw [hvr.length,← yN hb,hlenN,hpl];exact Nat.le_refl _)⟩
theorem zo2 {f : FuncData} {fd : FnD} {env : Env} {s1 : Shared} {L : Loc} {vs' : List PV} {vals' : List Value} (hloc : env.locals = s.heap.objs.size) (hsc : env.scope = f.scope) (hcells : env.cells = cellsFrom (s.heap.objs.size + 1) f.scope.names []) (hg : env.globals = mainGlobals) (hbi : env.builtins = builtinsNs)
  (hkind : f.scope.kind = .function) (hnf : zhg f.scope.names = true) (hpn : (f.params.args.map (·.arg)).mapM nid = some fd.params) (hvr : VRs s.heap ρ vs' vals') (hb : vy fd.params vs' (fun uu=>none) = some L) (hzn : (((f.params.args.map (·.arg)).zip vals').map (·.1)).Nodup) (R : Rel prog w B ρ H s.heap)
  (xc : InCallC s env.locals (bindL env.kindOf ((f.params.args.map (·.arg)).zip vals') fun uu=>none) env.cells (bindC env.kindOf ((f.params.args.map (·.arg)).zip vals') fun uu=>none) s1) :
  Ext ρ [] s s1 [] ∧ Rel prog w B ρ H s1.heap ∧ EnvOk B env ρ s1.heap ∧ VarsOk env ρ s1.heap L ∧ ∀ a ∈ ym env,s.heap.get? a = none:=by
 have st : Still [] s s1:=by
  obtain ⟨h1,tk,rfl,hk1⟩:=xc.done
  exact Still.kept tk hk1
 have x1:=st.ext0 (ρ:=ρ)
 have fresh : ∀ {k : Nat},s.heap.objs.size ≤ k → s.heap.get? k = none:=fun {k} hk=>by
  cases q : s.heap.get? k with
  | none=>rfl
  | some o=>exact absurd (Heap.lt_size q) (Nat.not_lt.mpr hk)
 have hcel : ∀ n c,env.cells.lookup n = some c → s.heap.objs.size ≤ c:=fun n c h=>Nat.le_of_lt (hloc ▸ xc.above n c (mem_of_lookup h))
 have V1 : EnvOk B env ρ s1.heap:=by
  refine ⟨hsc ▸ hkind,hg,hbi,⟨_,xc.toInCall.ns⟩,hloc ▸ ⟨R.off (Nat.le_refl _),R.bsize (Nat.le_refl _)⟩,fun n c h=>⟨_,xc.cell n c h⟩,fun n c h=>⟨R.off (hcel n c h),R.bsize (hcel n c h)⟩,fun n n' c h h'=>name_of_addr xc.apart (mem_of_lookup h) (mem_of_lookup h'),fun n h=>?_⟩
  unfold Env.kindOf at h
  rw [hsc] at h
  rcases h with h | h
  ·rw [hcells]
   exact Option.isSome_iff_exists.mp (kq (.inl (mem_of_lookup h)))
  ·exact absurd (List.all_eq_true.mp hnf _ (mem_of_lookup h)) Bool.false_ne_true
 refine ⟨x1,R.still0 st,V1,fun nm x v hn hL=>?_,fun a ha=>?_⟩
 ·obtain ⟨val,m1,m2⟩:=zl0 hn hpn hb hvr hL
  have m2':=(List.append_nil ρ) ▸ x1.vr m2
  refine ⟨fun k=>⟨_,val,xc.toInCall.ns,zbi k hzn m1,m2'⟩,fun k=>?_⟩
  have nk : ¬ env.kindOf nm = some .local:=fun q=>by rw [q] at k;rcases k with k | k <;> cases k
  obtain ⟨c',hc'⟩:=V1.has nm k
  exact ⟨c',val,hc',zbj nk hzn m1 ▸ xc.cell nm c' hc',m2'⟩
 ·rcases xy ha with q | ⟨nm,q⟩
  ·rw [q,hloc];exact fresh (Nat.le_refl _)
  ·exact fresh (hcel nm a q)
theorem zk5 {f : FuncData} {s : Shared} {vals' : List Value} (hpk : (f.params.args.map (·.arg)).all (wH f.scope.names) = true) (x : Str × Value) (hx : x ∈ (f.params.args.map (·.arg)).zip vals') :
  f.scope.names.lookup x.1 = some .local ∨ (f.scope.names.lookup x.1 = some .cell ∧ ((cellsFrom (s.heap.objs.size + 1) f.scope.names []).lookup x.1).isSome = true):=by
 have z:=List.all_eq_true.mp hpk x.1 (List.of_mem_zip (a:=x.1) (b:=x.2) hx).1
 unfold wH at z
 exact (Bool.or_eq_true_iff.mp z).imp eq_of_beq fun z=>⟨eq_of_beq z,kq (.inl (mem_of_lookup (eq_of_beq z)))⟩
theorem zjw (T : TopF prog w K B P) (hS : StsOk prog w B P n) {a : Addr} {fd : FnD} {vs : List PV} {vals : List Value} {L L' : Loc} {fl : Fl} {r : PV} {Q : Value → Shared → Prop} (hf : P.fn a = some fd) (hb : zft fd vs = some L) (he : execs P n fd.body L H = some (fl,L',H'))
  (hr : (fl = .ret r) ∨ (fl = .next ∧ r = .none)) (R : Rel prog w B ρ H s.heap) (hv : VRs s.heap ρ vs vals) (Rm : Room A (n + 3)) (hQ : Post prog w B ρ s H' r Q) : wpN (model prog w) A (call (.ref a) vals) Q E s:=by
 refine cp fun no=>?_
 obtain ⟨o,f,body,ds,kb,F⟩:=(T.fns a fd hf).has
 have X:=T.kin' R
 have hlim:=T.lim.keeps R.base
 obtain ⟨c,oc,cvs,tq,hc,hoc,hdc',hq⟩:=codeRec_of X F.code
 obtain ⟨vals',vs',hB,hvr,hbp,hzk⟩:=zru F X hb hv
 refine no (kX (zB ?_))
 show wpN _ A.in1 (callAny (.ref a) ⟨vals,[]⟩) _ _ s
 refine zfo (X a o F.here) F.data ?_
 simp -iota only [callFunction,F.co,F.gen,F.stm,hc]
 refine zm (m:=field (.ref c) 1) (wpAny_field hoc hdc' hq (zb (zg ?_)))
 refine zm (hB _ _ _ _ ?_)
 rw [F.clo]
 refine zm (wpAny_newFunctionEnv_cells F.kind (zk5 F.pk) fun env henv s1 xc=>?_)
 refine zm (wpAny_enterFrame (hlim.keeps xc.toInCall.keep) (by have:=Rm.depth;lia) (zg ⟨rfl,rfl,zib (cp fun no=>?_)⟩))
 have hsc : env.scope = f.scope:=henv ▸ rfl
 obtain ⟨x1,R1,V1,W1,hfeet⟩:=zo2 (henv ▸ rfl) hsc (henv ▸ rfl) (henv ▸ F.glob) (henv ▸ F.bi) F.kind F.nf F.pn hvr hbp (by rw [hzk];exact zav F.nd) R xc
 have Rm1 : Room (A.deeper env) n:=by
  refine ⟨?_,?_,Rm.handled⟩
  ·have:=Rm.depth
   show 3 * (A.depth + 1) + n + 30 < _
   lia
  ·have:=Rm.units
   show A.units + 3 + 4 * n + 100 < _
   lia
 rw [F.bd,← hsc] at he
 refine no (hS he R1 V1 W1 Rm1 fun s2 δ f2 x2 R2 V2 W2 r2=>?_)
 have xx : Ext ρ [] s s2 δ:=x1.trans ((List.append_nil ρ).symm ▸ x2) fun a ha=>.inr (hfeet a ha)
 rcases hr with rfl | ⟨rfl,rfl⟩
 ·obtain ⟨val,rfl,r2⟩:=r2
  exact hQ s2 δ val xx R2 r2
 ·cases r2
  exact hQ s2 δ .none xx R2 rfl
end
end Mine
namespace Mine
open PySem PySem.W PyProof.Rows PySem.Spec PySem.Calls
open Sem (wp)
section
variable {prog : Program} {A : Around} {w : World} {B : Heap} {ρ δ : List Addr} {H H' : Hp} {s s₁ : Shared} {E : Value → Shared → Prop} {P : Prg} {K : Frag} {n : Nat} {C : Addr} {R : Result → Shared → Prop}
theorem zhk {rest : List Value} {f : Addr} (Y : Makes (model prog w) s.heap C) (hi : Looks (model prog w) s.heap (typeLookup (.ref C) "__init__") (some (.ref f)))
  (hb : ∀ self,Looks (model prog w) s.heap (bindSpecial (.ref f) self) (.ref f,[self]))
  (hq : wpN (model prog w) (A.under (.builtin "type.__call__" ⟨.ref C :: rest,[]⟩)) (call (.ref f) (.ref (s.heap.objs.size + 1) :: rest)) (fun v s'=>v = .none ∧ R (.ok (.ret (.ref (s.heap.objs.size + 1)))) s') (fun uu uu=>False) { s with heap:=(s.heap.push emptyDict).push (instObj C s.heap.objs.size) }) :
  z4 (model prog w) A (.call (.ref C) ⟨rest,[]⟩) R s:=by
 have Y':=Y
 obtain ⟨⟨oc,od,cd,sl,hC,e1,e2,e4⟩,made,base,self,top,hcall,typ⟩:=Y
 refine zB ?_
 show wpN _ _ (callAny (.ref C) _) _ _ _
 refine zm (m:=load C) (wpAny_load hC ?_)
 show wpN _ _ (callAny.viaDunder (.ref C) ⟨rest,[]⟩) _ _ _
 unfold callAny.viaDunder
 refine zm (hcall.here ?_)
 dsimp only
 rw [tc_bind]
 refine zb (zg (zb (zg ?_)))
 refine zg (a:=Fin.again (.call (.builtin "type.__call__") ⟨.ref C :: rest,[]⟩)) ⟨rfl,rfl,zB ?_⟩
 show wpN _ _ (do checkBuiltinCall "type.__call__" ⟨.ref C :: rest,[]⟩;again (.builtin "type.__call__" ⟨.ref C :: rest,[]⟩)) _ _ _
 refine zm (check_slot tc_kind tc_split typ (tc_args _ _ _) (zg ⟨Code.quiet_builtin _ (by decide +kernel),zda (by decide +kernel) _,jM entry_typeCall ?_⟩))
 unfold Builtin.«type.__call__»
 have hm : Looks (model prog w) s.heap (mroOf (.ref C)) cd.mro:=((Looks.ld (part:=none) hC).andThen .now).andThen .now
 dsimp only
 refine zF (by rfl) ?_
 refine zm (hm.here (zF e4 ?_))
 refine zm (made.here ?_)
 dsimp only
 refine zb (zg ?_)
 obtain ⟨hh,g,d,tk,os⟩:=s
 refine zm (wpAny_holding (wpAny_call (new_K Y' hi (.inl rfl) ?_)))
 dsimp only
 have k : ∀ b o,hh.get? b = some o → ((hh.push emptyDict).push (instObj C hh.objs.size)).get? b = some o:=fun b o e=>Heap.get?_push_of_some _ (Heap.get?_push_of_some _ e)
 have hx : ((hh.push emptyDict).push (instObj C hh.objs.size)).get? (hh.objs.size + 1) = some (instObj C hh.objs.size):=by heap_get
 have t1 : Looks (model prog w) ((hh.push emptyDict).push (instObj C hh.objs.size)) (typeOf (.ref (hh.objs.size + 1))) (.ref C):=(Looks.ld hx).andThen .now
 have s1:=self.keeps k
 have i1:=hi.keeps k
 have b1:=(hb (.ref (hh.objs.size + 1))).keeps k
 have is1 : Looks (model prog w) ((hh.push emptyDict).push (instObj C hh.objs.size)) (isInstance (.ref (hh.objs.size + 1)) (.ref C)) true:=t1.andThen s1
 refine zm (is1.at (zF (by rfl) ?_))
 refine zb (zp ?_)
 unfold callSpecial?
 have sp : Looks (model prog w) ((hh.push emptyDict).push (instObj C hh.objs.size)) (specialOf (.ref (hh.objs.size + 1)) "__init__") (some (.ref f)):=t1.andThen i1
 refine zm (sp.at ?_)
 dsimp only
 refine zp (zm (b1.at ?_))
 dsimp only
 refine zb (zW hq (fun v s' z=>zg ?_) fun uu uu z=>z.elim)
 obtain ⟨rfl,z⟩:=z
 exact zF (by rfl) (zg z)
end
end Mine
namespace Mine
open PySem PySem.W PyProof.Rows PySem.Spec PySem.Calls
open Sem (wp)
structure TopC (prog : Program) (w : World) (K : Frag) (B : Heap) (P : Prg) : Prop extends TopF prog w K B P where
 made : ∀ a cd,P.cls a = some cd → makesIn K a = true ∧ findIn K (.ref a) "__init__" = some (some (.ref cd.init)) ∧ typeIn K (.ref cd.init) = some (.type "function")
section
variable {prog : Program} {A : Around} {w : World} {B : Heap} {ρ δ : List Addr} {H H' : Hp} {s s₁ : Shared} {E : Value → Shared → Prop} {P : Prg} {K : Frag} {n : Nat}
theorem zet (C : Addr) (rest : List Value) : (Code.builtin "type.__call__" ⟨.ref C :: rest,[]⟩).weight = 1:=by rfl
theorem zhj (C : Addr) (rest : List Value) : (Code.builtin "type.__call__" ⟨.ref C :: rest,[]⟩).cUnits ≤ 4:=by
 show (1 : Nat) ≤ 4
 decide
theorem znr (T : TopC prog w K B P) (hC : CallOk prog w B P n) {a : Addr} {cd : ClsD} {vs : List PV} {vals : List Value} {Q : Value → Shared → Prop} (hc : P.cls a = some cd)
  (he : zs P n (.fn cd.init) (.loc (H.length + 1) :: vs) (H ++ [.ns [],.inst a H.length]) = some (.none,H')) (R : Rel prog w B ρ H s.heap) (hv : VRs s.heap ρ vs vals) (Rm : Room A (n + 3)) (hQ : Post prog w B ρ s H' (.loc (H.length + 1)) Q) :
  wpN (model prog w) A (call (.ref a) vals) Q E s:=by
 have X:=T.kin' R
 obtain ⟨m1,m2,m3⟩:=T.made a cd hc
 refine kX (zhk (f:=cd.init) (makes_of X m1) (looks_findIn X m2) (fun self=>bind_fn X self m3) ?_)
 obtain ⟨R1,x1⟩:=R.alloc (m:=.ns []) (o:=emptyDict) s.toks ⟨[],0,rfl,rfl⟩
 have la1 : LocA (s.heap.push emptyDict) (ρ ++ [s.heap.objs.size]) H.length s.heap.objs.size:=R.newAt (zU _) (by rw [Heap.get?_push_size _ rfl];exact fun q=>nomatch q)
 obtain ⟨R2,x2⟩:=Rel.alloc (s:={ s with heap:=s.heap.push emptyDict,toks:=s.toks }) R1 (m:=.inst a H.length) (o:=instObj a s.heap.objs.size) s.toks ⟨_,la1,rfl⟩
 have hsz : (s.heap.push emptyDict).objs.size = s.heap.objs.size + 1:=Heap.size_push ..
 have la2 : LocA ((s.heap.push emptyDict).push (instObj a s.heap.objs.size)) ((ρ ++ [s.heap.objs.size]) ++ [(s.heap.push emptyDict).objs.size]) (H ++ [MObj.ns []]).length (s.heap.push emptyDict).objs.size :=
  R1.newAt (zU _) (by rw [Heap.get?_push_size _ rfl];exact fun q=>nomatch q)
 have x3 : Ext ρ [] s { s with heap:=(s.heap.push emptyDict).push (instObj a s.heap.objs.size),toks:=s.toks } ([s.heap.objs.size] ++ [(s.heap.push emptyDict).objs.size]):=x1.seq x2
 have eH : (H ++ [MObj.ns []]) ++ [MObj.inst a H.length] = H ++ [.ns [],.inst a H.length]:=by rw [List.append_assoc];rfl
 have eR : (ρ ++ [s.heap.objs.size]) ++ [(s.heap.push emptyDict).objs.size] = ρ ++ ([s.heap.objs.size] ++ [(s.heap.push emptyDict).objs.size]):=List.append_assoc ..
 have eL : (H ++ [MObj.ns []]).length = H.length + 1:=by rw [List.length_append];rfl
 rw [eH,eR] at R2
 rw [eR,eL,hsz] at la2
 rw [hsz] at x3 R2
 have hv2:=x3.vrs hv
 have Rm1 : Room (A.under (.builtin "type.__call__" ⟨.ref a :: vals,[]⟩)) n:=by
  refine ⟨?_,?_,Rm.handled⟩
  ·have:=Rm.depth
   show 3 * (A.depth + (Code.builtin "type.__call__" ⟨.ref a :: vals,[]⟩).weight) + n + 30 < _
   rw [zet]
   lia
  ·have:=Rm.units
   have u:=zhj a vals
   show A.units + (Code.builtin "type.__call__" ⟨.ref a :: vals,[]⟩).cUnits + 4 * n + 100 < _
   lia
 refine hC he R2 rfl (VRs.cons ⟨_,rfl,la2⟩ hv2) Rm1 fun s' δ val x R' r=>?_
 cases r
 refine ⟨rfl,?_⟩
 have la3:=la2.keep x.k
 exact hQ.after x3 s' δ _ x R' ⟨_,rfl,la3⟩
theorem zps (T : TopC prog w K B P) (hS : StsOk prog w B P n) (hC : CallOk prog w B P n) : CallOk prog w B P (n + 3):=by
 intro A ρ H H' s E f v vs fv vals Q he R hf hv Rm hQ
 cases f with
 | fn a =>
  obtain rfl:=hf
  revert he;refine kN (fun fd hfd=>zk fun L hL=>zfs fun f1 L1 H1 e1 he=>?_) fun uu=>zk fun cd hcd=>zC fun v0 H1 e1=>zk fun uu h0 he=>?_
  ·cases f1 with
   | ret r =>
    replace hQ:=hQ.eq2 he
    exact zjw T.toTopF hS hfd hL e1 (.inl rfl) R hv Rm hQ
   | next =>
    replace hQ:=hQ.eq2 he
    exact zjw T.toTopF hS hfd hL e1 (.inr ⟨rfl,rfl⟩) R hv Rm hQ
   | cont=>exact zd he
  ·obtain rfl:=qn h0
   replace hQ:=hQ.eq2 he
   exact znr T hC hcd e1 R hv Rm hQ
 | bi k =>
  revert he;refine zk fun v0 h0 he=>?_
  obtain rfl:=yE h0
  obtain ⟨val,t,rfl,r0,q⟩:=hv
  obtain rfl:=q
  obtain rfl:=hf
  exact zpt Rm.handled T.cat R r0 he hQ
 | _=>exact zd he
end
end Mine
namespace Mine
open PySem PySem.W PyProof.Rows PySem.Spec PySem.Calls
open Sem (wp)
structure Sound (prog : Program) (w : World) (B : Heap) (P : Prg) (n : Nat) : Prop where
 e : EOk prog w B P n
 es : EsOk prog w B P n
 all : AllOk prog w B P n
 c : COk prog w B P n
 cs : CsOk prog w B P n
 call : CallOk prog w B P n
 asg : AsgOk prog w B P n
 asgs : AsgsOk prog w B P n
 st : StOk prog w B P n
 sts : StsOk prog w B P n
section
variable {prog : Program} {w : World} {B : Heap} {P : Prg} {K : Frag}
theorem zgo : Sound prog w B P 0 :=
 ⟨fun A ρ H H' s E env L k e m v Q hc he=>zd he,
  fun A ρ H H' s E env L k l m vs pos Q hc he=>zd he,
  fun A ρ H H' s E env L k l m v op pos Q hc he=>zd he,
  fun A ρ H H' s E env L k e m b Q hc he=>zd he,
  fun A ρ H H' s E env L k l m b op Q hc he=>zd he,
  fun A ρ H H' s E f v vs fv vals Q he=>zd he,
  fun A ρ H H' s E env L L' k t m v val Q hc he=>zd he,
  fun A ρ H H' s E env L L' k t m v val Q hc he=>zd he,
  fun A ρ H H' s E env L L' k st fl Q he=>zd he,
  fun A ρ H H' s E env L L' k st fl Q he=>zd he⟩
theorem zgq (T : TopC prog w K B P) {n : Nat} (ih : ∀ m ≤ n,Sound prog w B P m) : CallOk prog w B P (n + 1):=by
 rcases n with _ | _ | n
 ·intro A ρ H H' s E f v vs fv vals Q he;exact zd he
 ·intro A ρ H H' s E f v vs fv vals Q he;exact zd he
 ·exact zps T (ih n (Nat.le_add_right n 2)).sts (ih n (Nat.le_add_right n 2)).call
theorem zgp (T : TopC prog w K B P) {n : Nat} (ih : ∀ m ≤ n,Sound prog w B P m) : Sound prog w B P (n + 1) :=
 have I:=ih n (Nat.le_refl _)
 have hE : ∀ m ≤ n,EOk prog w B P m:=fun m h=>(ih m h).e
 have hEs : ∀ m ≤ n,EsOk prog w B P m:=fun m h=>(ih m h).es
 ⟨e_ok T.toTopK hE hEs I.all I.c I.call,es_ok T.toTopK I.e I.es,Mine.all_ok T.toTopK I.e I.all,c_ok T.toTopK hE I.c I.cs,cs_ok T.toTopK I.c I.cs,zgq T ih,zvm T.toTopK I.e I.asgs,zsw I.asg I.asgs,
  st_ok T.toTopK hE hEs (fun m h=>(ih m h).c) I.asg I.sts,ztt I.st I.sts⟩
theorem zko (T : TopC prog w K B P) (n : Nat) : ∀ m ≤ n,Sound prog w B P m:=by
 induction n with
 | zero=>intro m h;obtain rfl:=Nat.le_zero.mp h;exact zgo
 | succ n ih =>
  intro m h
  rcases Nat.le_or_eq_of_le_succ h with q | q
  ·exact ih m q
  ·exact q ▸ zgp T ih
theorem sound (T : TopC prog w K B P) (n : Nat) : Sound prog w B P n:=zko T n n (Nat.le_refl _)
end
end Mine
namespace Mine
open PySem PySem.W PyProof.Rows PySem.Spec
noncomputable def zl4 : List MS:=[.ret (.bin .Sub (.bin .LShift (.cint 1) (.loc 9)) (.bin .LShift (.cint 1) (.bin .Sub (.loc 9) (.loc 8))))]
noncomputable def x8 : List MS:=[.assign (.name 13) (.bin .Add (.bin .Sub (.loc 12) (.loc 11)) (.cint 1)),.ifs (.bool false [.cmp .Lt (.loc 13) (.cint 1),.cmp .NotEq (.bin .BitAnd (.loc 13) (.bin .Sub (.loc 13) (.cint 1))) (.cint 0),.cmp .NotEq (.bin .Mod (.loc 11) (.loc 13)) (.cint 0),.cmp .NotEq (.bin .RShift (.loc 12) (.loc 9)) (.cint 0)]) [.ret .cnone] [],.assign (.name 8) (.loc 9),.whl (.cmp .Gt (.loc 13) (.cint 1)) [.assign (.name 13) (.bin .RShift (.loc 13) (.cint 1)),.assign (.name 8) (.bin .Sub (.loc 8) (.cint 1))],.ret (.loc 8)]
noncomputable def zir : List MS:=[.assign (.name 30) (.dict [31,32,33,34,35,36,37,38,39,40] [.tup [],.tup [],.tup [.tup [.cstr 41,.cint 33024]],.tup [.tup [.cstr 42,.cint 2054]],.tup [.tup [.cstr 43,.cint 2]],.tup [.tup [.cstr 43,.cint 10]],.tup [.tup [.cstr 44,.cint 6]],.tup [.tup [.cstr 44,.cint 17]],.tup [.tup [.cstr 43,.cint 2],.tup [.cstr 44,.cint 1]],.tup [.tup [.cstr 43,.cint 10],.tup [.cstr 44,.cint 58]]]),.ifs (.cmp .NotIn (.loc 29) (.loc 30)) [.stuck] [],.ret (.sub (.loc 30) (.loc 29))]
noncomputable def zis : List MS:=[.assign (.name 47) (.lst []),.for [48] 0 [.call (.glob 28) [.loc 29]] [.ifs (.bool true [.cmp .Eq (.loc 46) (.cstr 35),.cmp .Eq (.loc 48) (.tup [.cstr 43,.cint 2])]) [.cont] [],.ifs (.bool true [.cmp .Eq (.loc 46) (.cstr 36),.cmp .Eq (.loc 48) (.tup [.cstr 43,.cint 10])]) [.cont] [],.expr (.meth (.loc 47) 0 [.loc 48])],.ret (.call (.glob 49) [.loc 47])]
noncomputable def zac : List MS:=[.ifs (.cmp .NotIn (.loc 52) (.loc 51)) [.stuck] [],.ret (.sub (.loc 51) (.loc 52))]
noncomputable def zf4 : List MS:=[.ret (.cmp .In (.sub (.loc 54) (.cint 0)) (.tup [.cstr 55,.cstr 56,.cstr 57,.cstr 58,.cstr 59]))]
noncomputable def zab : List MS:=[.whl (.call (.glob 53) [.loc 54]) [.assign (.name 54) (.sub (.loc 54) (.cint 1))],.ifs (.cmp .Eq (.sub (.loc 54) (.cint 0)) (.cstr 62)) [.ret .cnone] [],.ifs (.cmp .NotEq (.sub (.loc 54) (.cint 0)) (.cstr 63)) [.stuck] [],.ret (.call (.glob 50) [.loc 51,.sub (.loc 54) (.cint 1)])]
noncomputable def zl1 : List MS:=[.assign (.name 63) (.call (.glob 60) [.loc 51,.loc 54,.cstr 13]),.ifs (.cmp .Is (.loc 63) .cnone) [.ret (.cint 4)] [],.assign (.name 65) (.ite (.cmp .Eq (.sub (.loc 63) (.cint 0)) (.cstr 66)) (.bin .Mod (.sub (.sub (.loc 63) (.cint 4)) (.cint 2)) (.cint 8)) (.cint 0)),.ret (.bin .FloorDiv (.bin .Add (.bin .Add (.loc 65) (.sub (.loc 63) (.cint 2))) (.cint 7)) (.cint 8))]
noncomputable def zf6 : List MS:=[.whl (.cmp .In (.sub (.loc 54) (.cint 0)) (.tup [.cstr 55,.cstr 59])) [.assign (.name 54) (.sub (.loc 54) (.cint 1))],.ifs (.call (.glob 53) [.loc 54]) [.ret (.bin .Mult (.cint 8) (.call (.glob 64) [.loc 51,.loc 54]))] [],.assign (.name 63) (.call (.glob 60) [.loc 51,.loc 54,.cstr 9]),.ret (.ite (.cmp .Is (.loc 63) .cnone) (.cint 32) (.sub (.loc 63) (.cint 2)))]
noncomputable def zim : List MS:=[.assign (.name 63) (.call (.glob 60) [.loc 51,.loc 54,.cstr 69]),.ret (.ite (.cmp .Is (.loc 63) .cnone) (.cstr 70) (.sub (.loc 63) (.cint 3)))]
noncomputable def zil : List MS:=[.ifs (.cmp .Eq (.sub (.loc 54) (.cint 0)) (.cstr 72)) [.ret (.sub (.loc 54) (.cint 1))] [],.ret (.tup [.loc 54])]
noncomputable def zfy : List MS:=[.assign (.name 76) (.cint 0),.for [77] 0 [.loc 75] [.assign (.name 76) (.bin .BitOr (.bin .LShift (.loc 76) (.cint 8)) (.loc 77))],.ret (.loc 76)]
noncomputable def zfx : List MS:=[.ifs (.bool false [.cmp .Lt (.loc 76) (.cint 0),.cmp .NotEq (.bin .RShift (.loc 76) (.bin .Mult (.cint 8) (.loc 13))) (.cint 0)]) [.stuck] [],.ret (.call (.glob 79) [.comp (.bin .BitAnd (.bin .RShift (.loc 76) (.bin .Mult (.cint 8) (.bin .Sub (.bin .Sub (.loc 13) (.cint 1)) (.loc 80)))) (.cint 255)) [80] 1 [.glob 81,.loc 13] []])]
noncomputable def zp6 : List MS:=[.assign (.name 83) (.bin .Sub (.call (.glob 84) [.loc 75]) (.cint 1)),.ret (.call (.glob 79) [.comp (.sub (.loc 75) (.bin .Sub (.loc 83) (.loc 80))) [80] 1 [.glob 81,.bin .Add (.loc 83) (.cint 1)] []])]
noncomputable def x9 : List MS:=[.ifs (.cmp .Eq (.loc 69) (.cstr 86)) [.ret (.call (.glob 78) [.loc 76,.loc 13])] [],.ifs (.cmp .Eq (.loc 69) (.cstr 87)) [.ret (.call (.glob 82) [.call (.glob 78) [.loc 76,.loc 13]])] [],.stuck]
noncomputable def zaa : List MS:=[.ifs (.cmp .Eq (.loc 69) (.cstr 86)) [.ret (.call (.glob 74) [.loc 75])] [],.ifs (.cmp .Eq (.loc 69) (.cstr 87)) [.ret (.call (.glob 74) [.call (.glob 82) [.loc 75]])] [],.stuck]
noncomputable def zdr : List MS:=[.ret (.ite (.cmp .Eq (.loc 69) (.cstr 70)) (.loc 70) (.loc 69))]
noncomputable def zvi : List MS:=[.ret (.bin .Add (.call (.glob 79) [.loc 75]) (.bin .Mult (.cbytes [0]) (.bin .Mod (.neg (.call (.glob 84) [.loc 75])) (.cint 4))))]
noncomputable def zih : List MS:=[.ret (.bin .FloorDiv (.bin .Add (.loc 13) (.cint 3)) (.cint 4))]
noncomputable def zss : List MS:=[.ret (.call (.glob 85) [.loc 102,.loc 13,.call (.glob 89) [.loc 69,.attr (.loc 101) 69]])]
noncomputable def zig : List MS:=[.expr (.meth (.attr (.loc 101) 94) 0 [.tup [.cstr 106,.loc 104,.loc 104,.loc 105]])]
noncomputable def zf5 : List MS:=[.assign (.tup [.name 108,.name 109,.name 9,.name 69,.name 110]) (.call (.glob 50) [.attr (.loc 101) 51,.loc 52]),.assign (.name 105) (.call (.glob 64) [.attr (.loc 101) 51,.tup [.cstr 63,.loc 52]]),.ifs (.cmp .Eq (.loc 108) (.cstr 111)) [.expr (.meth (.attr (.loc 101) 94) 0 [.tup [.cstr 111,.loc 104,.loc 110,.loc 105,.loc 69]])] [.ifs (.cmp .Eq (.loc 108) (.cstr 112)) [.expr (.meth (.attr (.loc 101) 94) 0 [.tup [.cstr 112,.loc 104,.sub (.loc 110) (.cint 0),.sub (.loc 110) (.cint 1),.loc 105,.loc 69]])] [.expr (.meth (.attr (.loc 101) 94) 0 [.tup [.cstr 66,.loc 104,.sub (.loc 110) (.cint 1),.bin .FloorDiv (.sub (.loc 110) (.cint 2)) (.cint 8),.loc 105]])]],.ret (.loc 105)]
noncomputable def zfv : List MS:=[.for [52,76] 0 [.call (.glob 45) [.attr (.loc 101) 46,.loc 29]] [.ifs (.cmp .Eq (.meth (.attr (.loc 101) 96) 3 [.loc 52]) (.loc 76)) [.cont] [],.assign (.name 105) (.call (.glob 107) [.loc 101,.loc 104,.loc 52]),.assign (.name 69) (.call (.glob 68) [.attr (.loc 101) 51,.tup [.cstr 63,.loc 52]]),.expr (.meth (.attr (.loc 101) 94) 0 [.tup [.cstr 114,.cstr 115,.loc 104,.call (.glob 100) [.loc 101,.loc 76,.loc 105,.loc 69]]]),.assign (.sub (.attr (.loc 101) 96) (.loc 52)) (.loc 76)]]
noncomputable def zl6 : List MS:=[.assign (.name 117) (.bin .Sub (.bin .Sub (.bin .Mult (.cint 8) (.loc 105)) (.loc 65)) (.loc 9)),.ifs (.bool false [.cmp .Gt (.loc 65) (.cint 0),.cmp .Gt (.loc 117) (.cint 0)]) [.assign (.name 55) (.bin .LShift (.bin .Sub (.bin .LShift (.cint 1) (.loc 9)) (.cint 1)) (.loc 117)),.expr (.meth (.attr (.loc 101) 94) 0 [.tup [.cstr 118,.loc 104,.loc 104,.call (.glob 100) [.loc 101,.loc 55,.loc 105,.cstr 86],.call (.glob 100) [.loc 101,.cint 0,.loc 105,.cstr 86]]])] [],.ifs (.cmp .Gt (.loc 117) (.cint 0)) [.expr (.meth (.attr (.loc 101) 94) 0 [.tup [.cstr 119,.loc 104,.loc 104,.loc 105,.cstr 120,.loc 117]])] []]
noncomputable def zdn : List MS:=[.assign (.tup [.name 108,.name 109,.name 9,.name 69,.name 110]) (.call (.glob 50) [.attr (.loc 101) 51,.loc 52]),.ifs (.cmp .Eq (.loc 108) (.cstr 66)) [.expr (.call (.glob 113) [.loc 101,.loc 104,.sub (.loc 110) (.cint 0)])] [],.assign (.name 105) (.call (.glob 107) [.loc 101,.loc 104,.loc 52]),.ifs (.cmp .Eq (.loc 108) (.cstr 66)) [.expr (.call (.glob 116) [.loc 101,.loc 104,.loc 105,.bin .Mod (.sub (.loc 110) (.cint 2)) (.cint 8),.loc 9])] []]
noncomputable def ziy : List MS:=[.assign (.name 13) (.call (.glob 64) [.attr (.loc 101) 51,.loc 54]),.assign (.name 69) (.call (.glob 68) [.attr (.loc 101) 51,.loc 54]),.assign (.name 124) (.bin .Sub (.bin .LShift (.cint 1) (.bin .Mult (.cint 8) (.loc 13))) (.cint 1)),.assign (.name 125) (.bin .BitAnd (.loc 102) (.loc 124)),.assign (.name 126) (.loc 124),.ifs (.cmp .Eq (.loc 123) (.cstr 55)) [.assign (.name 126) (.loc 125),.assign (.name 125) (.cint 0)] [.ifs (.cmp .Eq (.loc 123) (.cstr 56)) [.assign (.name 126) (.bin .BitXor (.loc 124) (.loc 125))] []],.expr (.meth (.attr (.loc 101) 94) 0 [.tup [.cstr 118,.loc 104,.loc 104,.call (.glob 100) [.loc 101,.loc 126,.loc 13,.loc 69],.call (.glob 100) [.loc 101,.loc 125,.loc 13,.loc 69]]])]
noncomputable def zdf : List MS:=[.assign (.name 105) (.call (.glob 64) [.attr (.loc 101) 51,.loc 54]),.assign (.name 128) (.ite (.cmp .Eq (.sub (.loc 54) (.cint 0)) (.cstr 58)) (.cstr 47) (.cstr 120)),.assign (.name 129) (.cmp .Eq (.call (.glob 68) [.attr (.loc 101) 51,.loc 54]) (.cstr 70)),.ifs (.loc 129) [.expr (.call (.glob 103) [.loc 101,.loc 104,.loc 105])] [],.expr (.meth (.attr (.loc 101) 94) 0 [.tup [.cstr 119,.loc 104,.loc 104,.loc 105,.loc 128,.sub (.loc 54) (.cint 2)]]),.ifs (.loc 129) [.expr (.call (.glob 103) [.loc 101,.loc 104,.loc 105])] []]
noncomputable def zvj : List MS:=[.assign (.name 123) (.sub (.loc 54) (.cint 0)),.ifs (.cmp .Eq (.loc 123) (.cstr 63)) [.expr (.call (.glob 121) [.loc 101,.loc 104,.sub (.loc 54) (.cint 1)])] [.ifs (.cmp .In (.loc 123) (.tup [.cstr 55,.cstr 56,.cstr 57])) [.expr (.call (.glob 130) [.loc 101,.loc 104,.sub (.loc 54) (.cint 1)]),.expr (.call (.glob 122) [.loc 101,.loc 104,.loc 54,.loc 123,.sub (.loc 54) (.cint 2)])] [.ifs (.cmp .In (.loc 123) (.tup [.cstr 58,.cstr 59])) [.expr (.call (.glob 130) [.loc 101,.loc 104,.sub (.loc 54) (.cint 1)]),.expr (.call (.glob 127) [.loc 101,.loc 104,.loc 54])] [.ifs (.cmp .Eq (.loc 123) (.cstr 62)) [.expr (.call (.glob 131) [.loc 101,.loc 104,.loc 54])] [.stuck]]]]]
noncomputable def zit : List MS:=[.assign (.name 134) (.lst []),.assign (.name 20) (.loc 104),.for [135] 0 [.call (.glob 71) [.loc 54]] [.assign (.name 13) (.call (.glob 64) [.attr (.loc 101) 51,.loc 135]),.assign (.name 69) (.call (.glob 68) [.attr (.loc 101) 51,.loc 135]),.ifs (.cmp .Gt (.bin .Add (.loc 20) (.call (.glob 99) [.loc 13])) (.cint 16)) [.stuck] [],.expr (.call (.glob 130) [.loc 101,.loc 20,.loc 135]),.ifs (.bool true [.loc 133,.cmp .Eq (.loc 69) (.cstr 70)]) [.expr (.call (.glob 103) [.loc 101,.loc 20,.loc 13]),.assign (.name 69) (.cstr 86)] [],.expr (.meth (.loc 134) 0 [.tup [.loc 13,.loc 69]]),.aug 20 (.call (.glob 99) [.loc 13])],.ret (.call (.glob 49) [.loc 134])]
noncomputable def zij : List MS:=[.expr (.meth (.attr (.loc 101) 94) 0 [.loc 138])]
noncomputable def xN : List MS:=[.assign (.name 13) (.call (.glob 64) [.attr (.loc 101) 51,.loc 54]),.assign (.name 69) (.call (.glob 68) [.attr (.loc 101) 51,.loc 54]),.ifs (.cmp .In (.loc 141) (.tup [.cstr 115,.cstr 142])) [.expr (.meth (.attr (.loc 101) 94) 0 [.tup [.cstr 114,.loc 141,.cint 0,.call (.glob 100) [.loc 101,.loc 102,.loc 13,.loc 69]]]),.ifs (.bool true [.cmp .Eq (.loc 141) (.cstr 115),.cmp .Eq (.sub (.loc 54) (.cint 0)) (.cstr 63)]) [.assign (.sub (.attr (.loc 101) 96) (.sub (.loc 54) (.cint 1))) (.loc 102)] []] [.ifs (.cmp .In (.loc 141) (.tup [.cstr 143,.cstr 144])) [.expr (.call (.glob 122) [.loc 101,.cint 0,.loc 54,.cstr 55,.loc 102]),.expr (.meth (.attr (.loc 101) 94) 0 [.tup [.cstr 114,.ite (.cmp .Eq (.loc 141) (.cstr 143)) (.cstr 142) (.cstr 115),.cint 0,.call (.glob 100) [.loc 101,.cint 0,.loc 13,.loc 69]]])] [.ifs (.cmp .Eq (.loc 69) (.cstr 70)) [.expr (.call (.glob 103) [.loc 101,.cint 0,.loc 13])] [],.expr (.meth (.attr (.loc 101) 94) 0 [.tup [.cstr 114,.loc 141,.cint 0,.call (.glob 100) [.loc 101,.loc 102,.loc 13,.cstr 86]]])]]]
noncomputable def zdl : List MS:=[.assign (.name 13) (.call (.glob 64) [.attr (.loc 101) 51,.loc 54]),.assign (.name 69) (.call (.glob 68) [.attr (.loc 101) 51,.loc 54]),.assign (.name 9) (.call (.glob 67) [.attr (.loc 101) 51,.loc 54]),.assign (.name 8) (.call (.glob 10) [.loc 11,.loc 12,.loc 9]),.ifs (.bool true [.cmp .IsNot (.loc 8) .cnone,.cmp .Gt (.loc 8) (.cint 0),.cmp .Lt (.loc 8) (.loc 9)]) [.expr (.call (.glob 122) [.loc 101,.cint 0,.loc 54,.cstr 55,.call (.glob 7) [.loc 8,.loc 9]]),.expr (.meth (.attr (.loc 101) 94) 0 [.tup [.cstr 114,.loc 141,.cint 0,.call (.glob 100) [.loc 101,.loc 11,.loc 13,.loc 69]]]),.ret .cnone] [],.ifs (.cmp .Eq (.loc 69) (.cstr 70)) [.expr (.call (.glob 103) [.loc 101,.cint 0,.loc 13])] [],.expr (.meth (.attr (.loc 101) 94) 0 [.tup [.cstr 81,.loc 141,.cint 0,.call (.glob 100) [.loc 101,.loc 11,.loc 13,.cstr 86],.call (.glob 100) [.loc 101,.loc 12,.loc 13,.cstr 86]]])]
noncomputable def zdm : List MS:=[.assign (.tup [.name 123,.name 54,.name 141,.name 120]) (.loc 138),.ifs (.cmp .In (.sub (.loc 120) (.cint 0)) (.tup [.cstr 147,.cstr 148])) [.assign (.name 149) (.call (.glob 139) [.loc 101,.cstr 150]),.expr (.call (.loc 149) [.loc 101,.loc 138,.loc 80]),.ret .cnone] [],.expr (.call (.glob 130) [.loc 101,.cint 0,.loc 54]),.ifs (.cmp .Eq (.sub (.loc 120) (.cint 0)) (.cstr 151)) [.expr (.call (.glob 145) [.loc 101,.loc 54,.loc 141,.sub (.loc 120) (.cint 1),.sub (.loc 120) (.cint 2)])] [.expr (.call (.glob 140) [.loc 101,.loc 54,.loc 141,.sub (.loc 120) (.cint 1)])]]
noncomputable def ziq : List MS:=[.assign (.name 154) (.dict [] []),.for [52] 0 [.tup [.cstr 155,.cstr 156,.cstr 157,.cstr 158,.cstr 159,.cstr 160,.cstr 161]] [.assign (.sub (.loc 154) (.loc 52)) (.cint 0)],.assign (.sub (.loc 154) (.cstr 162)) (.cint 1),.assign (.sub (.loc 154) (.cstr 163)) (.cint 1),.ret (.loc 154)]
noncomputable def zl7 : List MS:=[.ifs (.cmp .Eq (.loc 173) (.cstr 174)) [.ret (.tup [.attr (.loc 171) 165,.cint 0])] [],.ifs (.cmp .Eq (.loc 173) (.cstr 175)) [.ifs (.cmp .Lt (.attr (.loc 171) 169) (.cint 0)) [.ret .cnone] [],.ret (.tup [.attr (.loc 171) 165,.attr (.loc 171) 169])] [],.ifs (.cmp .NotEq (.loc 173) (.cstr 166)) [.stuck] [],.ifs (.cmp .Eq (.call (.glob 84) [.attr (.loc 171) 166]) (.cint 0)) [.ret .cnone] [],.ret (.tup [.attr (.loc 171) 166,.cint 0])]
noncomputable def zvh : List MS:=[.assign (.name 177) (.call (.glob 172) [.loc 171,.loc 173]),.ifs (.bool false [.cmp .Is (.loc 177) .cnone,.cmp .Lt (.loc 20) (.cint 0)]) [.ret .cnone] [],.assign (.name 178) (.bin .Add (.sub (.loc 177) (.cint 1)) (.loc 20)),.ifs (.cmp .Gt (.bin .Add (.loc 178) (.loc 105)) (.call (.glob 84) [.sub (.loc 177) (.cint 0)])) [.ret .cnone] [],.ret (.call (.glob 79) [.slice (.sub (.loc 177) (.cint 0)) (.loc 178) (.bin .Add (.loc 178) (.loc 105)) .cnone])]
noncomputable def zfz : List MS:=[.assign (.name 239) (.meth (.attr (.loc 206) 95) 3 [.loc 52]),.ifs (.cmp .Is (.loc 239) .cnone) [.stuck] [],.ret (.loc 239)]
noncomputable def zix : List MS:=[.ifs (.cmp .In (.loc 141) (.tup [.cstr 115,.cstr 142])) [.ret (.cmp .Eq (.cmp .Eq (.loc 199) (.loc 200)) (.cmp .Eq (.loc 141) (.cstr 115)))] [],.ifs (.cmp .In (.loc 141) (.tup [.cstr 201,.cstr 202])) [.ret (.cmp .Eq (.cmp .Lt (.loc 199) (.loc 200)) (.cmp .Eq (.loc 141) (.cstr 201)))] [],.ifs (.cmp .In (.loc 141) (.tup [.cstr 203,.cstr 204])) [.ret (.cmp .Eq (.cmp .Gt (.loc 199) (.loc 200)) (.cmp .Eq (.loc 141) (.cstr 203)))] [],.ifs (.cmp .In (.loc 141) (.tup [.cstr 143,.cstr 144])) [.ret (.cmp .Eq (.cmp .NotEq (.bin .BitAnd (.loc 199) (.loc 200)) (.cint 0)) (.cmp .Eq (.loc 141) (.cstr 143)))] [],.stuck]
noncomputable def zdk : List MS:=[.assign (.name 171) (.attr (.loc 206) 171),.ifs (.cmp .Eq (.loc 207) (.cstr 208)) [.ret (.ite (.cmp .Lt (.attr (.loc 171) 168) (.cint 0)) .cnone (.attr (.loc 171) 168))] [],.ifs (.cmp .Eq (.loc 207) (.cstr 209)) [.ret (.call (.glob 170) [.loc 171])] [],.ifs (.cmp .In (.loc 207) (.tup [.cstr 8,.cstr 210])) [.ret (.ite (.cmp .Eq (.loc 207) (.cstr 8)) (.call (.glob 84) [.attr (.loc 171) 165]) (.attr (.loc 171) 108))] [],.ret (.meth (.attr (.loc 171) 111) 3 [.loc 207])]
noncomputable def zii : List MS:=[.ifs (.cmp .Is (.attr (.loc 216) 94) .cnone) [.stuck] [],.assign (.name 217) (.call (.glob 212) []),.for [218] 0 [.attr (.loc 216) 94] [.assign (.name 141) (.meth (.attr (.loc 206) 191) 3 [.sub (.loc 218) (.cint 0)]),.ifs (.cmp .Is (.loc 141) .cnone) [.stuck] [],.assign (.name 219) (.call (.loc 141) [.loc 206,.loc 217,.loc 218,.loc 216]),.ifs (.bool true [.cmp .IsNot (.loc 219) .cnone,.cmp .NotEq (.sub (.loc 219) (.cint 0)) (.cstr 220)]) [.ret (.loc 219)] []],.ret .cnone]
noncomputable def wA : List MS:=[.assign (.name 222) (.lst []),.for [13,69] 0 [.loc 134] [.expr (.meth (.loc 222) 0 [.call (.glob 88) [.meth (.loc 217) 3 [.loc 104,.loc 13],.call (.glob 89) [.loc 69,.attr (.loc 206) 69]]]),.aug 104 (.call (.glob 99) [.loc 13])],.ret (.call (.glob 49) [.loc 222])]
noncomputable def zsr : List MS:=[.ret (.ite (.loc 224) .cnone (.tup [.cstr 225,.cstr 226]))]
noncomputable def zdh : List MS:=[.ret (.sub (.loc 218) (.cint 1))]
noncomputable def zp7 : List MS:=[.assign (.name 229) (.call (.glob 74) [.meth (.loc 217) 3 [.sub (.loc 218) (.cint 2),.call (.glob 84) [.sub (.loc 218) (.cint 3)]]]),.ret (.call (.glob 223) [.call (.glob 198) [.sub (.loc 218) (.cint 1),.loc 229,.call (.glob 74) [.sub (.loc 218) (.cint 3)]]])]
noncomputable def zio : List MS:=[.assign (.name 229) (.call (.glob 74) [.meth (.loc 217) 3 [.sub (.loc 218) (.cint 2),.call (.glob 84) [.sub (.loc 218) (.cint 3)]]]),.assign (.name 231) (.bool true [.cmp .LtE (.call (.glob 74) [.sub (.loc 218) (.cint 3)]) (.loc 229),.cmp .LtE (.loc 229) (.call (.glob 74) [.sub (.loc 218) (.cint 4)])]),.ret (.call (.glob 223) [.cmp .Eq (.loc 231) (.cmp .Eq (.sub (.loc 218) (.cint 1)) (.cstr 115))])]
noncomputable def zdj : List MS:=[.assign (.name 13) (.call (.glob 84) [.sub (.loc 218) (.cint 3)]),.assign (.name 229) (.bin .BitAnd (.call (.glob 74) [.meth (.loc 217) 3 [.sub (.loc 218) (.cint 2),.loc 13]]) (.call (.glob 74) [.sub (.loc 218) (.cint 3)])),.expr (.meth (.loc 217) 213 [.sub (.loc 218) (.cint 1),.call (.glob 78) [.bin .BitXor (.loc 229) (.call (.glob 74) [.sub (.loc 218) (.cint 4)]),.loc 13]]),.ret .cnone]
noncomputable def zin : List MS:=[.assign (.name 229) (.call (.glob 74) [.meth (.loc 217) 3 [.sub (.loc 218) (.cint 2),.sub (.loc 218) (.cint 3)]]),.ifs (.cmp .GtE (.sub (.loc 218) (.cint 5)) (.bin .Mult (.cint 8) (.sub (.loc 218) (.cint 3)))) [.assign (.name 229) (.cint 0)] [.ifs (.cmp .Eq (.sub (.loc 218) (.cint 4)) (.cstr 47)) [.assign (.name 229) (.bin .BitAnd (.bin .LShift (.loc 229) (.sub (.loc 218) (.cint 5))) (.bin .Sub (.bin .LShift (.cint 1) (.bin .Mult (.cint 8) (.sub (.loc 218) (.cint 3)))) (.cint 1)))] [.assign (.name 229) (.bin .RShift (.loc 229) (.sub (.loc 218) (.cint 5)))]],.expr (.meth (.loc 217) 213 [.sub (.loc 218) (.cint 1),.call (.glob 78) [.loc 229,.sub (.loc 218) (.cint 3)]]),.ret .cnone]
noncomputable def xM : List MS:=[.assign (.name 229) (.call (.glob 74) [.meth (.loc 217) 3 [.sub (.loc 218) (.cint 2),.sub (.loc 218) (.cint 3)]]),.expr (.meth (.loc 217) 213 [.sub (.loc 218) (.cint 1),.call (.glob 85) [.loc 229,.sub (.loc 218) (.cint 3),.attr (.loc 206) 69]]),.ret .cnone]
noncomputable def zdg : List MS:=[.ifs (.cmp .Is (.loc 102) .cnone) [.ret (.tup [.cstr 225,.cstr 226])] [],.expr (.meth (.loc 217) 213 [.loc 104,.call (.glob 85) [.loc 102,.loc 13,.call (.glob 89) [.loc 69,.attr (.loc 206) 69]]]),.ret .cnone]
noncomputable def zdi : List MS:=[.assign (.name 75) (.call (.glob 176) [.attr (.loc 206) 171,.sub (.loc 218) (.cint 2),.sub (.loc 218) (.cint 3),.sub (.loc 218) (.cint 4)]),.ifs (.cmp .Is (.loc 75) .cnone) [.ret (.tup [.cstr 225,.cstr 226])] [],.expr (.meth (.loc 217) 213 [.sub (.loc 218) (.cint 1),.loc 75]),.ret .cnone]
noncomputable def zl3 : List MS:=[.ret (.call (.glob 235) [.loc 206,.loc 217,.sub (.loc 218) (.cint 1),.call (.glob 205) [.loc 206,.sub (.loc 218) (.cint 2)],.sub (.loc 218) (.cint 3),.sub (.loc 218) (.cint 4)])]
noncomputable def zds : List MS:=[.assign (.name 239) (.meth (.attr (.loc 216) 95) 3 [.loc 52]),.ifs (.cmp .Is (.loc 239) .cnone) [.assign (.name 239) (.call (.glob 197) [.loc 206,.loc 52])] [],.ret (.meth (.loc 239) 240 [.call (.glob 221) [.loc 206,.loc 217,.loc 104,.loc 134],.attr (.loc 206) 181])]
noncomputable def zfw : List MS:=[.assign (.name 242) (.call (.glob 238) [.loc 206,.loc 217,.loc 216,.sub (.loc 218) (.cint 1),.sub (.loc 218) (.cint 2),.sub (.loc 218) (.cint 3)]),.ifs (.sub (.loc 218) (.cint 4)) [.ret (.call (.glob 223) [.cmp .Is (.loc 242) .cnone])] [],.ret (.call (.glob 223) [.cmp .IsNot (.loc 242) .cnone])]
noncomputable def zl2 : List MS:=[.assign (.name 242) (.call (.glob 238) [.loc 206,.loc 217,.loc 216,.sub (.loc 218) (.cint 1),.sub (.loc 218) (.cint 2),.sub (.loc 218) (.cint 3)]),.ifs (.cmp .Is (.loc 242) .cnone) [.ret (.tup [.cstr 225,.cstr 226])] [],.ret (.attr (.loc 242) 165)]
noncomputable def zl5 : List MS:=[.ret (.bool false [.cmp .Eq (.attr (.loc 242) 247) (.cint 0),.cmp .Lt (.loc 181) (.attr (.loc 242) 247)])]
noncomputable def zik : List MS:=[.assign (.name 11) (.cint 0),.assign (.name 12) (.call (.glob 84) [.loc 253]),.whl (.cmp .Lt (.loc 11) (.loc 12)) [.assign (.name 254) (.bin .FloorDiv (.bin .Add (.loc 11) (.loc 12)) (.cint 2)),.ifs (.cmp .Lt (.sub (.sub (.attr (.sub (.loc 253) (.loc 254)) 246) (.cint 0)) (.cint 1)) (.loc 102)) [.assign (.name 11) (.bin .Add (.loc 254) (.cint 1))] [.assign (.name 12) (.loc 254)]],.ret (.loc 11)]
noncomputable def ziw : List MS:=[.assign (.name 264) (.ite (.cmp .Gt (.call (.glob 84) [.loc 263]) (.cint 1)) (.meth (.loc 263) 2 [.cint 1]) (.cint 0)),.assign (.name 265) (.bin .Mod (.bin .Add (.loc 264) (.sub (.loc 263) (.cint 0))) (.loc 105)),.assign (.sub (.loc 263) (.cint 0)) (.bin .FloorDiv (.sub (.loc 263) (.cint 0)) (.loc 105)),.ret (.loc 265)]
noncomputable def ziu : List MS:=[.ret (.lst [.lst [.cint 0,.cint 0,.cint 0,.cint 0,.cint 0,.cint 2,.cint 0,.cint 1,.cint 0,.cint 3,.cint 11,.cint 0],.lst [.cint 2,.cint 13,.cint 8,.cint 3,.cint 341,.cint 3,.cint 0,.cint 2,.cint 2,.cint 77,.cint 1,.cint 5,.cint 4,.cint 0]])]
noncomputable def zdq : List MS:=[.swap [268,269,9] (.tup [.call (.glob 262) [.loc 263,.cint 3],.call (.glob 262) [.loc 263,.cint 90],.bin .Add (.cint 1) (.call (.glob 262) [.loc 263,.cint 20])]),.assign (.name 63) (.sub (.lst [.tup [.cstr 111,.cstr 155,.cint 32,.cstr 70,.cstr 155],.tup [.cstr 111,.cstr 270,.cint 16,.cstr 70,.cstr 162],.tup [.cstr 66,.cstr 270,.loc 9,.cstr 86,.tup [.cstr 32,.cstr 174,.loc 269]]]) (.loc 268)),.ret (.dict [271] [.loc 63])]
noncomputable def zf3 : List MS:=[.assign (.tup [.name 108,.name 109,.name 9,.name 69,.name 110]) (.sub (.loc 51) (.cstr 271)),.swap [13,102] (.tup [.bin .FloorDiv (.loc 9) (.cint 8),.meth (.loc 273) 3 [.loc 110]]),.ifs (.cmp .Eq (.loc 108) (.cstr 66)) [.swap [269,274] (.tup [.sub (.loc 110) (.cint 2),.bin .Mult (.cint 8) (.call (.glob 84) [.sub (.loc 273) (.cstr 75)])]),.assign (.name 13) (.bin .Sub (.bin .FloorDiv (.bin .Add (.bin .Add (.loc 269) (.loc 9)) (.cint 7)) (.cint 8)) (.bin .FloorDiv (.loc 269) (.cint 8))),.assign (.name 275) (.call (.glob 276) [.comp (.bin .Mult (.loc 77) (.bin .Pow (.cint 256) (.loc 277))) [277,77] 2 [.glob 278,.slice (.sub (.loc 273) (.cstr 75)) .cnone .cnone (.neg (.cint 1))] []]),.assign (.name 102) (.ite (.cmp .LtE (.bin .Add (.loc 269) (.loc 9)) (.loc 274)) (.bin .Mod (.bin .FloorDiv (.loc 275) (.bin .Pow (.cint 2) (.bin .Sub (.bin .Sub (.loc 274) (.loc 269)) (.loc 9)))) (.bin .Pow (.cint 2) (.loc 9))) .cnone)] [],.swap [279,280] (.tup [.call (.glob 262) [.loc 263,.cint 4],.call (.glob 262) [.loc 263,.bin .Pow (.cint 2) (.cint 40)]]),.ifs (.cmp .Eq (.loc 279) (.cint 0)) [.ret (.tup [.tup [.cstr 63,.cstr 271],.loc 9,.loc 102])] [],.ifs (.cmp .Eq (.loc 279) (.cint 1)) [.ret (.tup [.tup [.cstr 59,.tup [.cstr 63,.cstr 271],.bin .Mod (.loc 280) (.cint 40)],.loc 9,.ite (.cmp .Is (.loc 102) .cnone) .cnone (.bin .FloorDiv (.loc 102) (.bin .Pow (.cint 2) (.bin .Mod (.loc 280) (.cint 40))))])] [],.ifs (.cmp .Eq (.loc 279) (.cint 2)) [.ret (.tup [.tup [.cstr 55,.tup [.cstr 63,.cstr 271],.loc 280],.loc 9,.ite (.cmp .Is (.loc 102) .cnone) .cnone (.bin .BitAnd (.loc 102) (.loc 280))])] [],.assign (.name 280) (.bin .Mod (.loc 280) (.bin .Pow (.cint 256) (.loc 13))),.ret (.tup [.tup [.cstr 57,.tup [.cstr 63,.cstr 271],.loc 280],.bin .Mult (.cint 8) (.loc 13),.ite (.cmp .Is (.loc 102) .cnone) .cnone (.bin .BitXor (.loc 102) (.loc 280))])]
noncomputable def zf0 : List MS:=[.swap [282,283] (.tup [.bin .Sub (.bin .Pow (.cint 2) (.loc 9)) (.cint 1),.lst [.cint 0]]),.for [125] 1 [.glob 81,.call (.glob 262) [.loc 263,.cint 4]] [.swap [284,76] (.tup [.call (.glob 262) [.loc 263,.cint 3],.call (.glob 262) [.loc 263,.bin .Pow (.cint 2) (.cint 40)]]),.ifs (.cmp .Eq (.loc 284) (.cint 0)) [.assign (.name 285) (.bin .Sub (.bin .Add (.ite (.cmp .Is (.loc 102) .cnone) (.cint 0) (.loc 102)) (.bin .Mod (.loc 76) (.cint 4))) (.cint 1))] [.ifs (.cmp .Eq (.loc 284) (.cint 1)) [.assign (.name 285) (.bin .Mult (.bin .Pow (.cint 2) (.bin .Mod (.loc 76) (.loc 9))) (.bin .Add (.cint 1) (.bin .Mod (.bin .FloorDiv (.loc 76) (.loc 9)) (.cint 3))))] [.assign (.name 285) (.bin .Mod (.loc 76) (.bin .Pow (.cint 2) (.loc 9)))]],.ifs (.bool true [.cmp2 .Lt .LtE (.cint 0) (.loc 285) (.loc 282),.cmp .NotIn (.loc 285) (.loc 283)]) [.expr (.meth (.loc 283) 0 [.loc 285])] []],.assign (.name 283) (.call (.glob 286) [.loc 283]),.ret (.comp (.tup [.loc 11,.loc 12]) [11,12] 3 [.glob 287,.loc 283,.bin .Add (.comp (.bin .Sub (.loc 285) (.cint 1)) [285] 0 [.slice (.loc 283) (.cint 1) .cnone .cnone] []) (.lst [.loc 282])] [])]
noncomputable def zf2 : List MS:=[.ret (.ite (.cmp .Eq (.sub (.loc 151) (.cint 0)) (.sub (.loc 151) (.cint 1))) (.tup [.cstr 289,.sub (.loc 151) (.cint 0)]) (.tup [.cstr 151,.sub (.loc 151) (.cint 0),.sub (.loc 151) (.cint 1)]))]
noncomputable def zf1 : List MS:=[.assign (.name 171) (.call (.glob 164) [.call (.glob 79) [.sub (.loc 273) (.cstr 75)],.cint 2048,.cbytes []]),.assign (.tup [.sub (.attr (.loc 171) 111) (.cstr 155),.sub (.attr (.loc 171) 111) (.cstr 162)]) (.tup [.sub (.loc 273) (.cstr 155),.sub (.loc 273) (.cstr 162)]),.assign (.name 206) (.call (.glob 180) [.loc 171,.loc 51]),.assign (.attr (.loc 206) 69) (.loc 69),.assign (.attr (.loc 206) 191) (.dict [66,111,118,119,114,106,81,291,292,219] [.glob 236,.glob 237,.glob 232,.glob 233,.glob 228,.glob 234,.glob 230,.glob 241,.glob 243,.glob 227]),.ret (.loc 206)]
noncomputable def ziv : List MS:=[.assign (.name 101) (.call (.glob 92) [.attr (.loc 206) 51,.cstr 295,.attr (.loc 206) 69,.cstr 296]),.for [138] 0 [.loc 294] [.ifs (.cmp .Eq (.sub (.loc 138) (.cint 0)) (.cstr 297)) [.expr (.call (.glob 146) [.loc 101,.loc 138,.cint 0])] [.expr (.call (.glob 137) [.loc 101,.loc 138,.cint 0])]],.ret (.call (.glob 215) [.loc 206,.loc 101])]
noncomputable def zdp : List MS:=[.assign (.name 101) (.call (.glob 92) [.attr (.loc 206) 51,.cstr 295,.attr (.loc 206) 69,.cstr 296]),.assign (.name 134) (.call (.glob 132) [.loc 101,.loc 104,.loc 54,.cbool true]),.ifs (.cmp .Eq (.loc 52) (.cstr 300)) [.expr (.meth (.attr (.loc 101) 94) 0 [.tup [.cstr 292,.loc 104,.loc 134,.loc 52]])] [.expr (.meth (.attr (.loc 101) 94) 0 [.tup [.cstr 291,.loc 104,.loc 134,.loc 52,.loc 299]]),.expr (.meth (.attr (.loc 101) 94) 0 [.tup [.cstr 219,.tup [.cstr 301,.cstr 226]]])],.ret (.call (.glob 215) [.loc 206,.loc 101])]
noncomputable def zdo : List MS:=[.swap [275,304] (.tup [.call (.glob 256) [],.call (.glob 256) []]),.for [277] 1 [.glob 81,.bin .Sub (.call (.glob 84) [.loc 303]) (.cint 1),.neg (.cint 1),.neg (.cint 1)] [.expr (.meth (.loc 275) 213 [.call (.glob 245) [.tup [.sub (.loc 303) (.loc 277)],.tup [.cstr 305,.bin .Add (.cstr 306) (.call (.glob 307) [.loc 277])]],.cint 0]),.ifs (.cmp .Eq (.bin .Mod (.loc 277) (.cint 2)) (.cint 0)) [.expr (.meth (.loc 304) 213 [.call (.glob 245) [.tup [.sub (.loc 303) (.loc 277)],.cnone],.cint 0])] []],.ret (.dict [300,304] [.loc 275,.loc 304])]
noncomputable def xO : List MS:=[.assign (.tup [.name 264,.name 309]) (.tup [.tup [.cstr 301,.cstr 226],.tup [.cstr 225,.cstr 226]]),.assign (.name 310) (.ite (.cmp .Is (.loc 102) .cnone) (.neg (.cint 1)) (.sub (.comp (.loc 277) [277,151] 2 [.glob 278,.loc 303] [.cmp2 .LtE .LtE (.sub (.loc 151) (.cint 0)) (.loc 102) (.sub (.loc 151) (.cint 1))]) (.cint 0))),.for [277,151] 2 [.glob 278,.loc 303] [.assign (.name 311) (.comp (.tup [.cstr 297,.loc 54,.cstr 142,.call (.glob 288) [.loc 312]]) [312] 0 [.slice (.bin .Add (.loc 303) (.loc 303)) (.bin .Add (.loc 277) (.cint 1)) (.bin .Add (.loc 277) (.cint 2)) .cnone] [.cmp .NotEq (.loc 312) (.loc 151)]),.assign (.name 311) (.bin .Add (.loc 311) (.lst [.tup [.cstr 297,.loc 54,.cstr 115,.call (.glob 288) [.loc 151]],.tup [.cstr 297,.loc 54,.cstr 202,.tup [.cstr 289,.sub (.loc 151) (.cint 0)]]])),.assign (.name 311) (.bin .Add (.loc 311) (.lst [.tup [.cstr 297,.loc 54,.cstr 204,.tup [.cstr 289,.sub (.loc 151) (.cint 1)]],.tup [.cstr 219,.loc 264]])),.ifs (.cmp .NotEq (.call (.glob 293) [.loc 206,.loc 311]) (.ite (.cmp .Eq (.loc 277) (.loc 310)) (.loc 264) (.loc 309))) [.ret (.cbool false)] []],.assign (.attr (.loc 206) 95) (.call (.glob 302) [.loc 303]),.ifs (.cmp .NotEq (.call (.glob 298) [.loc 206,.loc 54,.loc 104,.cstr 300,.cbool false]) (.ite (.cmp .Is (.loc 102) .cnone) (.loc 309) (.tup [.cstr 305,.bin .Add (.cstr 306) (.call (.glob 307) [.loc 310])]))) [.ret (.cbool false)] [],.for [299] 0 [.lst [.cbool false,.cbool true]] [.assign (.name 224) (.bool true [.cmp .IsNot (.loc 102) .cnone,.cmp .Eq (.cmp .Eq (.bin .Mod (.loc 310) (.cint 2)) (.cint 1)) (.loc 299)]),.ifs (.cmp .NotEq (.call (.glob 298) [.loc 206,.loc 54,.loc 104,.cstr 304,.loc 299]) (.ite (.loc 224) (.loc 264) (.loc 309))) [.ret (.cbool false)] []],.ret (.cbool true)]
noncomputable def b_law : List MS:=[.assign (.name 314) (.slice (.loc 314) .cnone (.cint 63) .cnone),.assign (.name 274) (.bin .Mod (.call (.glob 276) [.loc 314]) (.bin .Pow (.cint 10) (.cint 60))),.assign (.name 273) (.dict [75] [.comp (.bin .Mod (.bin .Add (.bin .Add (.bin .Add (.bin .Mult (.bin .Mult (.cint 53) (.loc 277)) (.loc 277)) (.bin .Mult (.cint 90) (.loc 277))) (.cint 7)) (.bin .FloorDiv (.loc 274) (.bin .Pow (.cint 7) (.loc 277)))) (.cint 256)) [277] 1 [.glob 81,.cint 12] []]),.assign (.tup [.sub (.loc 273) (.cstr 155),.sub (.loc 273) (.cstr 162)]) (.tup [.bin .Mod (.bin .Add (.cint 291) (.loc 274)) (.bin .Pow (.cint 2) (.cint 32)),.bin .Mod (.bin .Add (.cint 280) (.loc 274)) (.bin .Pow (.cint 2) (.cint 16))]),.for [315,264] 2 [.glob 278,.call (.glob 266) []] [.assign (.name 263) (.bin .Add (.lst [.bin .Mod (.call (.glob 276) [.slice (.loc 314) (.loc 315) .cnone (.cint 2)]) (.bin .Pow (.cint 10) (.cint 60))]) (.loc 264)),.assign (.name 51) (.call (.glob 267) [.loc 263]),.assign (.tup [.name 54,.name 9,.name 102]) (.call (.glob 272) [.loc 263,.loc 51,.loc 273]),.swap [303,104,269] (.tup [.call (.glob 281) [.loc 263,.loc 9,.loc 102],.call (.glob 262) [.loc 263,.cint 13],.call (.glob 262) [.loc 263,.cint 2]]),.assign (.name 316) (.ite (.cmp .Eq (.loc 315) (.cint 0)) (.lst [.cstr 87,.cstr 86]) (.lst [.sub (.lst [.cstr 87,.cstr 86]) (.loc 269)])),.for [69] 0 [.loc 316] [.ifs (.not (.call (.glob 308) [.call (.glob 290) [.loc 51,.loc 273,.loc 69],.loc 54,.loc 303,.loc 102,.loc 104])) [.ret (.cbool false)] []]],.ret (.cbool true)]
noncomputable def zad : List MS:=[.assign (.attr (.loc 18) 51) (.loc 51),.assign (.attr (.loc 18) 46) (.loc 46),.assign (.attr (.loc 18) 69) (.loc 69),.assign (.attr (.loc 18) 93) (.loc 93),.assign (.attr (.loc 18) 94) (.lst []),.assign (.attr (.loc 18) 95) (.dict [] []),.assign (.attr (.loc 18) 96) (.dict [] []),.assign (.attr (.loc 18) 97) (.dict [] []),.assign (.attr (.loc 18) 98) (.dict [] [])]
noncomputable def zae : List MS:=[.assign (.attr (.loc 18) 165) (.call (.glob 167) [.loc 165]),.assign (.attr (.loc 18) 166) (.call (.glob 167) [.loc 166]),.assign (.attr (.loc 18) 108) (.loc 108),.assign (.attr (.loc 18) 168) (.neg (.cint 1)),.assign (.attr (.loc 18) 169) (.neg (.cint 1)),.assign (.attr (.loc 18) 80) (.cint 0),.assign (.attr (.loc 18) 111) (.call (.glob 153) [])]
noncomputable def zdt : List MS:=[.assign (.attr (.loc 18) 171) (.loc 171),.assign (.attr (.loc 18) 181) (.loc 181),.assign (.attr (.loc 18) 182) (.loc 182),.assign (.attr (.loc 18) 184) .cnone,.assign (.attr (.loc 18) 185) (.cint 1),.assign (.attr (.loc 18) 186) (.cint 0),.assign (.attr (.loc 18) 187) .cnone,.assign (.attr (.loc 18) 95) (.dict [] []),.assign (.attr (.loc 18) 188) (.dict [] []),.assign (.attr (.loc 18) 51) (.loc 51),.assign (.attr (.loc 18) 189) (.dict [] []),.assign (.attr (.loc 18) 190) (.dict [] []),.assign (.attr (.loc 18) 191) (.dict [] []),.assign (.attr (.loc 18) 192) (.dict [] []),.assign (.attr (.loc 18) 69) (.cstr 87),.assign (.attr (.loc 18) 193) (.lst []),.assign (.attr (.loc 18) 194) (.lst []),.assign (.attr (.loc 18) 195) .cnone,.assign (.attr (.loc 18) 196) (.dict [] [])]
noncomputable def zf8 : List MS:=[.assign (.attr (.loc 18) 75) (.call (.glob 167) [.cint 64])]
noncomputable def zi0 : List MS:=[.ifs (.bool false [.cmp .Lt (.loc 104) (.cint 0),.cmp .Gt (.bin .Add (.bin .Mult (.cint 4) (.loc 104)) (.loc 105)) (.cint 64)]) [.stuck] [],.ret (.call (.glob 79) [.slice (.attr (.loc 18) 75) (.bin .Mult (.cint 4) (.loc 104)) (.bin .Add (.bin .Mult (.cint 4) (.loc 104)) (.loc 105)) .cnone])]
noncomputable def ziz : List MS:=[.assign (.name 214) (.call (.glob 90) [.loc 75]),.ifs (.bool false [.cmp .Lt (.loc 104) (.cint 0),.cmp .Gt (.bin .Add (.bin .Mult (.cint 4) (.loc 104)) (.call (.glob 84) [.loc 214])) (.cint 64)]) [.stuck] [],.assign (.slice (.attr (.loc 18) 75) (.bin .Mult (.cint 4) (.loc 104)) (.bin .Add (.bin .Mult (.cint 4) (.loc 104)) (.call (.glob 84) [.loc 214]))) (.loc 214)]
noncomputable def xP : List MS:=[.assign (.attr (.loc 18) 246) (.loc 246),.assign (.attr (.loc 18) 165) (.loc 165),.assign (.attr (.loc 18) 247) (.loc 247),.assign (.attr (.loc 18) 248) (.cint 0),.assign (.attr (.loc 18) 249) (.cstr 226),.assign (.attr (.loc 18) 250) (.dict [] [])]
noncomputable def vZ : List MS:=[.assign (.attr (.loc 18) 253) (.lst [])]
noncomputable def wB : List MS:=[.assign (.tup [.name 11,.name 12]) (.sub (.attr (.loc 242) 246) (.cint 0)),.assign (.name 178) (.call (.glob 252) [.attr (.loc 18) 253,.loc 11]),.assign (.name 80) (.loc 178),.whl (.bool true [.cmp .Lt (.loc 80) (.call (.glob 84) [.attr (.loc 18) 253]),.cmp .LtE (.sub (.sub (.attr (.sub (.attr (.loc 18) 253) (.loc 80)) 246) (.cint 0)) (.cint 0)) (.loc 12)]) [.ifs (.call (.glob 251) [.sub (.attr (.loc 18) 253) (.loc 80),.loc 181]) [.aug 80 (.cint 1)] [.expr (.meth (.attr (.loc 18) 253) 2 [.loc 80])]],.ifs (.cmp .Gt (.loc 80) (.loc 178)) [.ifs (.cmp .Eq (.attr (.sub (.attr (.loc 18) 253) (.loc 178)) 246) (.attr (.loc 242) 246)) [.stuck] [],.stuck] [],.expr (.meth (.attr (.loc 18) 253) 1 [.loc 178,.loc 242])]
noncomputable def v7 : List MS:=[.assign (.name 80) (.call (.glob 252) [.attr (.loc 18) 253,.sub (.loc 207) (.cint 0)]),.ifs (.cmp .Eq (.loc 80) (.call (.glob 84) [.attr (.loc 18) 253])) [.ret .cnone] [],.assign (.name 242) (.sub (.attr (.loc 18) 253) (.loc 80)),.ifs (.bool false [.cmp .Gt (.sub (.sub (.attr (.loc 242) 246) (.cint 0)) (.cint 0)) (.sub (.loc 207) (.cint 0)),.not (.call (.glob 251) [.loc 242,.loc 181])]) [.ret .cnone] [],.ret (.loc 242)]
noncomputable def fnS : List (Nat × FnD × Nat × Nat):=[(28,⟨[8,9],[],zl4⟩,2,0),(35,⟨[11,12,9],[],x8⟩,3,0),(119,⟨[29],[],zir⟩,12,0),(126,⟨[46,29],[],zis⟩,13,0),(133,⟨[51,52],[],zac⟩,14,0),(140,⟨[54],[],zf4⟩,15,0),(147,⟨[51,54,61],[],zab⟩,16,0),(154,⟨[51,54],[],zl1⟩,17,0),(161,⟨[51,54],[],zf6⟩,18,0),(168,⟨[51,54],[],zim⟩,19,0),(175,⟨[54],[],zil⟩,20,0),(182,⟨[75],[],zfy⟩,22,0),(187,⟨[76,13],[],zfx⟩,23,0),(192,⟨[75],[],zp6⟩,24,0),(199,⟨[76,13,69],[],x9⟩,25,0),(206,⟨[75,69],[],zaa⟩,26,0),(213,⟨[69,70],[],zdr⟩,27,0),(220,⟨[75],[],zvi⟩,28,0),(248,⟨[13],[],zih⟩,31,0),(255,⟨[101,102,13,69],[],zss⟩,32,0),(262,⟨[101,104,105],[],zig⟩,33,0),(269,⟨[101,104,52],[],zf5⟩,34,0),(276,⟨[101,104,29],[],zfv⟩,35,0),(283,⟨[101,104,105,65,9],[],zl6⟩,36,0),(290,⟨[101,104,52],[],zdn⟩,37,0),(297,⟨[101,104,54,123,102],[],ziy⟩,38,0),(304,⟨[101,104,54],[],zdf⟩,39,0),(311,⟨[101,104,54],[],zvj⟩,40,0),(325,⟨[101,104,54,133],[],zit⟩,42,0),(332,⟨[101,138,80],[],zij⟩,44,0),(346,⟨[101,54,141,102],[],xN⟩,46,0),(353,⟨[101,54,141,11,12],[],zdl⟩,47,0),(360,⟨[101,138,80],[],zdm⟩,48,0),(367,⟨[],[],ziq⟩,50,0),(402,⟨[171,173],[],zl7⟩,53,0),(409,⟨[171,173,20,105],[],zvh⟩,54,0),(438,⟨[206,52],[],zfz⟩,57,0),(445,⟨[141,199,200],[],zix⟩,58,0),(452,⟨[206,207],[],zdk⟩,59,0),(494,⟨[206,216],[],zii⟩,62,0),(501,⟨[206,217,104,134],[],wA⟩,63,0),(508,⟨[224],[],zsr⟩,64,0),(515,⟨[206,217,218,216],[],zdh⟩,65,0),(522,⟨[206,217,218,216],[],zp7⟩,66,0),(529,⟨[206,217,218,216],[],zio⟩,67,0),(536,⟨[206,217,218,216],[],zdj⟩,68,0),(543,⟨[206,217,218,216],[],zin⟩,69,0),(550,⟨[206,217,218,216],[],xM⟩,70,0),(557,⟨[206,217,104,102,13,69],[],zdg⟩,71,0),(564,⟨[206,217,218,216],[],zdi⟩,72,0),(571,⟨[206,217,218,216],[],zl3⟩,73,0),(578,⟨[206,217,216,104,134,52],[],zds⟩,74,0),(585,⟨[206,217,218,216],[],zfw⟩,75,0),(592,⟨[206,217,218,216],[],zl2⟩,76,0),(621,⟨[242,181],[],zl5⟩,79,0),(628,⟨[253,102],[],zik⟩,80,0),(712,⟨[263,105],[],ziw⟩,84,0),(719,⟨[],[],ziu⟩,85,0),(726,⟨[263],[],zdq⟩,86,0),(731,⟨[263,51,273],[],zf3⟩,87,0),(736,⟨[263,9,102],[],zf0⟩,88,0),(743,⟨[151],[],zf2⟩,89,0),(750,⟨[51,273,69],[],zf1⟩,90,0),(757,⟨[206,294],[],ziv⟩,91,0),(764,⟨[206,54,104,52,299],[],zdp⟩,92,0),(771,⟨[303],[],zdo⟩,93,0),(776,⟨[206,54,303,102,104],[],xO⟩,94,0),(781,⟨[314],[],b_law⟩,95,0),(234,⟨[18,51,46,69,93],[],zad⟩,30,1),(381,⟨[18,165,108,166],[],zae⟩,51,1),(424,⟨[18,171,51,181,182],[.int 0,.str 183],zdt⟩,56,1),(466,⟨[18],[],zf8⟩,61,1),(473,⟨[18,104,105],[],zi0⟩,61,2),(480,⟨[18,104,75],[],ziz⟩,61,3),(607,⟨[18,246,165,247],[.int 0],xP⟩,78,1),(649,⟨[18],[],vZ⟩,82,1),(656,⟨[18,242,181],[],wB⟩,82,2),(670,⟨[18,207,181],[],v7⟩,82,4)]
noncomputable def clsL : List (Nat × ClsD):=[(237,⟨234,[],[51,46,69,93,94,95,96,97,98]⟩),(384,⟨381,[],[165,166,108,168,169,80,111]⟩),(427,⟨424,[],[171,181,182,184,185,186,187,95,188,51,189,190,191,192,69,193,194,195,196]⟩),(483,⟨466,[(3,473),(213,480)],[75]⟩),(610,⟨607,[],[246,165,247,248,249,250]⟩),(701,⟨649,[(213,656),(240,670)],[253]⟩)]
noncomputable def zju : List (Nat × PV):=[(7,.fn 28),(10,.fn 35),(28,.fn 119),(45,.fn 126),(50,.fn 133),(53,.fn 140),(60,.fn 147),(64,.fn 154),(67,.fn 161),(68,.fn 168),(71,.fn 175),(74,.fn 182),(78,.fn 187),(82,.fn 192),(85,.fn 199),(88,.fn 206),(89,.fn 213),(90,.fn 220),(99,.fn 248),(100,.fn 255),(103,.fn 262),(107,.fn 269),(113,.fn 276),(116,.fn 283),(121,.fn 290),(122,.fn 297),(127,.fn 304),(130,.fn 311),(132,.fn 325),(137,.fn 332),(140,.fn 346),(145,.fn 353),(146,.fn 360),(153,.fn 367),(172,.fn 402),(176,.fn 409),(197,.fn 438),(198,.fn 445),(205,.fn 452),(215,.fn 494),(221,.fn 501),(223,.fn 508),(227,.fn 515),(228,.fn 522),(230,.fn 529),(232,.fn 536),(233,.fn 543),(234,.fn 550),(235,.fn 557),(236,.fn 564),(237,.fn 571),(238,.fn 578),(241,.fn 585),(243,.fn 592),(251,.fn 621),(252,.fn 628),(262,.fn 712),(266,.fn 719),(267,.fn 726),(272,.fn 731),(281,.fn 736),(288,.fn 743),(290,.fn 750),(293,.fn 757),(298,.fn 764),(302,.fn 771),(308,.fn 776),(313,.fn 781),(92,.fn 237),(164,.fn 384),(180,.fn 427),(212,.fn 483),(245,.fn 610),(256,.fn 701),(84,.bi 1),(276,.bi 2),(286,.bi 3),(79,.bi 4),(167,.bi 5),(49,.bi 6),(307,.bi 7),(81,.bi 8),(278,.bi 9),(287,.bi 10)]
noncomputable def catF (a b : Nat) : Option Nat:=gr (Nat.beq a 306)<|gr (Nat.ble 321 b)<|gr (Nat.ble b 324)<|some (b - 4)
noncomputable def natI : Int → Option Nat
 | .ofNat n=>some n
 | _=>none
noncomputable def zng (i : Int) : Option Nat:=bn (natI i) fun n=>gr (Nat.ble n 3)<|some (n + 321)
noncomputable def PP : Prg:=⟨fun x=>kG x zju,fun a=>bn (kG a fnS) fun x=>some x.1,fun a=>kG a clsL,catF,zng⟩
end Mine
namespace Mine
open PySem PySem.W PySem.Calls PyProof.Rows PySem.Spec
noncomputable abbrev pw : Program:=PySem.Challenge.pw_pq1105_01
noncomputable def zpv : List Obj → Nat → BT → Option BT
 | [],_,t=>some t
 | o :: r,n,t=>gr ((t.ins n o).get n).isSome (zpv r (n + 1) (t.ins n o))
theorem zfr {life : Life} : ∀ {l : List Obj} {n : Nat} {t t' : BT},zpv l n t = some t' → absHeap t' (n + l.length) life = l.foldl (fun h o=>h.push o) (absHeap t n life)
 | [],n,t,t',e=>by cases e;rfl
 | o :: r,n,t,t',e=>yp (o:=zpv r (n + 1) (t.ins n o)) e fun g e=>by
  have:=zfr (life:=life) e
  rw [absHeap_ins g] at this
  rw [List.length_cons,show n + (r.length + 1) = n + 1 + r.length by exact (Nat.succ_add ..).symm]
  exact this
theorem zeh {life : Life} : ∀ (l : List Obj) (h : Heap),l.foldl (fun h o=>h.push o) h = ⟨(h.objs.toList ++ l).toArray,h.life⟩
 | [],h=>by obtain ⟨⟨l⟩,life⟩:=h;simp
 | o :: r,h=>by
  rw [List.foldl_cons,zeh (life:=life) r]
  obtain ⟨⟨l⟩,life⟩:=h
  simp [Heap.push]
theorem zlx {h : Heap} {t : BT} (e : zpv h.objs.toList 0 .nil = some t) : absHeap t h.objs.size h.life = h:=by
 have:=zfr (life:=h.life) e
 rw [zeh (life:=h.life)] at this
 rw [show 0 + h.objs.toList.length = h.objs.size by simp] at this
 rw [this]
 obtain ⟨⟨l⟩,life⟩:=h
 simp [absHeap,BT.list]
noncomputable def runT (stp : SharedT → Thread → Option (SharedT × Thread)) (ok : Thread → Bool) : Nat → SharedT → Thread → Option SharedT
 | 0,_,_=>none
 | n + 1,s,t=>cond (through t) (some s) (gr (ok t) (bn (stp s t) fun r=>runT stp ok n r.1 r.2))
theorem zaq {tb : String → Option Builtin} {p : Program} {w : World} {n₀ : Nat} {ann : Option Value} : ∀ {n : Nat} {s s' : SharedT} {t : Thread},runT (stepT (denote tb) p w) (stepOk n₀ ann) n s t = some s' → topRun tb p w n₀ ann n s.abs t = some s'.abs
 | 0,_,_,_,h=>zd h
 | n + 1,s,s',t,h=>by
  unfold topRun
  refine ki (x:=some s) (y:=gr (stepOk n₀ ann t) (bn (stepT (denote tb) p w s t) fun r=>runT (stepT (denote tb) p w) (stepOk n₀ ann) n r.1 r.2)) h (fun ht h=>?_) fun ht h=>yp h fun hk h=>zq h fun r hs h=>?_
  ·rw [ht];exact Option.some.inj h ▸ rfl
  ·rw [ht,hk,stepT_spec hs];exact zaq h
noncomputable def ztf (a : Addr) (o : Option Obj) (r : Frag) : Frag:=match o with
 | some o=>(a,o) :: r
 | none=>r
noncomputable def kP (h : Heap) : List Addr → Frag
 | []=>[]
 | a :: r=>ztf a (h.get? a) (kP h r)
theorem zlb {a b : Addr} {v x : Obj} {r : Frag} (h : List.lookup a ((b,v) :: r) = some x) : (b = a ∧ v = x) ∨ r.lookup a = some x:=by
 rw [List.lookup_cons] at h
 cases q : a == b with
 | true=>rw [q] at h;exact .inl ⟨(eq_of_beq q).symm,Option.some.inj h⟩
 | false=>rw [q] at h;exact .inr h
theorem zh6 {a b : Addr} {x : Obj} {r : Frag} : ∀ {o : Option Obj},(ztf b o r).lookup a = some x → (b = a ∧ o = some x) ∨ r.lookup a = some x
 | some v,e=>(zlb e).imp (fun q=>⟨q.1,congrArg some q.2⟩) id
 | none,e=>.inr e
theorem za9 {h : Heap} : ∀ {as : List Addr} {a : Addr} {o : Obj},(kP h as).lookup a = some o → h.get? a = some o
 | [],a,o,e=>zd e
 | b :: r,a,o,e=>(zh6 e).elim (fun q=>q.1 ▸ q.2) za9
noncomputable def zmt : Stmt → Option (Scope × List Stmt)
 | .FunctionDef _ _ body _ _ _ scope _ _ _=>some (scope,body)
 | _=>none
noncomputable def zsh : Stmt → Option (List Stmt)
 | .ClassDef _ _ _ body _ _ _ _ _ _ _=>some body
 | _=>none
noncomputable def srcIn (s : Stmt) : Nat → Option (Scope × List Stmt)
 | 0=>zmt s
 | j + 1=>bn (zsh s) fun body=>bn body[j]? zmt
noncomputable def zsy (i j : Nat) : Option (Scope × List Stmt):=bn pw.main.body[i]? fun s=>srcIn s j
noncomputable abbrev FnR:=(List Nat × List PV) × Scope × List Stmt
noncomputable def fnOf : Data → Option FuncData
 | .func f=>some f
 | _=>none
noncomputable def stOf : FuncBody → Option (List Stmt)
 | .stmts b=>some b
 | _=>none
theorem zo3 {d : Data} {f : FuncData} (h : fnOf d = some f) : d = .func f:=by
 cases d with
 | func x=>exact congrArg Data.func (Option.some.inj h)
 | _=>exact zd h
theorem zmr {d : FuncBody} {f : List Stmt} (h : stOf d = some f) : d = .stmts f:=by
 cases d with
 | stmts x=>exact congrArg FuncBody.stmts (Option.some.inj h)
 | _=>exact zd h
noncomputable def zg9 (K : Frag) (a : Addr) : Option FnR:=bn (K.lookup a) fun o=>bn (fnOf o.data) fun f=>bn (stOf f.body) fun body=>bn (zpf K f.defaults) fun ds=>bn ((f.params.args.map (·.arg)).mapM nid) fun ps=>bn (ds.mapM cdV) fun dv =>
 gr f.closure.isEmpty<|gr (!f.scope.isCoroutine)<|gr (!f.scope.isGenerator)<|gr (decide (f.scope.kind = .function))<|gr (Nat.beq f.globals mainGlobals)<|gr (Nat.beq f.builtins builtinsNs)<|gr (codeIn K f.code f.qualname)<|gr (w6 f.params) <|
  gr (zcd (f.params.args.map (·.arg)))<|gr ((f.params.args.map (·.arg)).all (wH f.scope.names))<|gr (zhg f.scope.names)<|gr (Nat.ble ds.length f.params.args.length)<|some ((ps,dv),f.scope,body)
noncomputable def zge (x : Nat × FnD × Nat × Nat) : Option FnR:=bn (zsy x.2.2.1 x.2.2.2) fun p=>some ((x.2.1.params,x.2.1.dflts),p)
noncomputable def zia (x : Nat × FnD × Nat × Nat) : Option (List MS):=bn (zsy x.2.2.1 x.2.2.2) fun p=>some (cSs 100 p.1 p.2)
theorem zro {K : Frag} {a : Addr} {o : Obj} {f : FuncData} (h : K.lookup a = some o) (e : o.data = .func f) : keepIn K (.ref a) = true:=by
 obtain ⟨c,d,dt,sl⟩:=o
 cases e
 unfold keepIn
 dsimp only
 rw [h]
theorem zo4 {K : Frag} {x : Nat × FnD × Nat × Nat} (e : zg9 K x.1 = zge x) (c : zia x = some x.2.1.body) : FnK K x.1 x.2.1 ∧ keepIn K (.ref x.1) = true:=by
 revert c;refine zk fun p hp c=>?_
 replace e:=e.trans (zr hp)
 revert e;refine zk fun o hl=>zk fun f hf=>zk fun body hb=>zk fun ds hds=>zk fun ps hps=>zk fun dv hdv=>zR fun c1=>zR fun c2=>zR fun c3=>zR fun c4=>zR fun c5=>zR fun c6=>zR fun c7=>zR fun c8=>zR fun c9 =>
  zR fun c10=>zR fun c11=>zR fun c12 e=>?_
 obtain ⟨e1,e2⟩:=Prod.mk.inj (Option.some.inj e)
 obtain ⟨rfl,rfl⟩:=Prod.mk.inj e1
 subst e2
 have hf:=zo3 hf
 exact ⟨⟨o,f,body,ds,100,⟨hl,hf,zmr hb,List.isEmpty_iff.mp c1,Bool.not_eq_true' _ ▸ c2,Bool.not_eq_true' _ ▸ c3,of_decide_eq_true c4,Nat.eq_of_beq_eq_true c5,Nat.eq_of_beq_eq_true c6,c7,c8,c9,c10,c11,hps,hds,hdv,Nat.le_of_ble_eq_true c12,(Option.some.inj c).symm⟩⟩,zro hl hf⟩
noncomputable def clsB (K : Frag) (a : Addr) (cd : ClsD) : Bool:=zj2 K a && cd.attrs.all (fun m=>zqa K a (nm m)) && cd.meths.all (fun x=>znx K a (nm x.1) x.2) && keepIn K (.ref a) && makesIn K a && findIn K (.ref a) "__init__" == some (some (.ref cd.init)) && typeIn K (.ref cd.init) == some (.type "function")
theorem zes {m : Nat} : ∀ {l : List Nat},zoa m l = true → m ∈ l
 | [],e=>absurd e Bool.false_ne_true
 | x :: r,e=>(Bool.or_eq_true_iff.mp e).elim (fun q=>Nat.eq_of_beq_eq_true q ▸ List.mem_cons_self ..) fun q=>List.mem_cons_of_mem _ (zes q)
theorem yU {α : Type} {m : Nat} {v : α} : ∀ {l : List (Nat × α)},kG m l = some v → (m,v) ∈ l
 | [],e=>zd e
 | x :: r,e=>ki (x:=some x.2) (y:=kG m r) e (fun q e=>Nat.eq_of_beq_eq_true q ▸ Option.some.inj e ▸ List.mem_cons_self ..) fun uu e=>List.mem_cons_of_mem _ (yU e)
theorem zbm {a b : Bool} {C : Prop} (k : a = true → b = true → C) (h : (a && b) = true) : C:=k (Bool.and_eq_true_iff.mp h).1 (Bool.and_eq_true_iff.mp h).2
theorem zj3 {K : Frag} {a : Addr} {cd : ClsD} (e : clsB K a cd = true) : (ClsK K a cd ∧ keepIn K (.ref a) = true) ∧ makesIn K a = true ∧ findIn K (.ref a) "__init__" = some (some (.ref cd.init)) ∧ typeIn K (.ref cd.init) = some (.type "function"):=by
 unfold clsB at e
 revert e;refine zbm fun e c7=>?_
 revert e;refine zbm fun e c6=>?_
 revert e;refine zbm fun e c5=>?_
 revert e;refine zbm fun e c4=>?_
 revert e;refine zbm fun e c3=>?_
 revert e;refine zbm fun c1 c2=>?_
 exact ⟨⟨⟨c1,fun m h=>List.all_eq_true.mp c2 m (zes h),fun m f h=>List.all_eq_true.mp c3 _ (yU h)⟩,c4⟩,c5,eq_of_beq c6,eq_of_beq c7⟩
noncomputable def biOf : Value → Option PV
 | .builtin n=>if n = "len" then some (.bi 1) else if n = "sum" then some (.bi 2) else if n = "sorted" then some (.bi 3) else none
 | .type n=>if n = "bytes" then some (.bi 4) else if n = "bytearray" then some (.bi 5) else if n = "tuple" then some (.bi 6) else if n = "str" then some (.bi 7) else if n = "range" then some (.bi 8) else if n = "enumerate" then some (.bi 9) else if n = "zip" then some (.bi 10) else none
 | _=>none
noncomputable def fnAt : Value → Option PV
 | .ref a=>some (.fn a)
 | _=>none
theorem zfa {v : Value} {p : PV} (h : fnAt v = some p) : ∃ a,v = .ref a ∧ PV.fn a = p:=by
 cases v with
 | ref a=>exact ⟨a,rfl,Option.some.inj h⟩
 | _=>exact zd h
noncomputable def zee (K : Frag) (x : Nat) : Option PV:=bn (nsIn K mainGlobals (nm x)) fun r=>kv r fnAt (bn (nsIn K builtinsNs (nm x)) fun r=>bn r biOf)
theorem jK {c : Prop} {_ : Decidable c} {k : Nat} {o : Option PV} {p : PV} {C : Prop} (h : (if c then some (.bi k) else o) = some p) (k1 : c → p = .bi k → C) (k2 : o = some p → C) : C:=by
 by_cases q : c
 ·rw [if_pos q] at h;exact k1 q (Option.some.inj h).symm
 ·rw [if_neg q] at h;exact k2 h
theorem bi_vr {h : Heap} {ρ : List Addr} {p : PV} {v : Value} {k : Nat} (q : v = qV k) (e : p = .bi k) : VR h ρ p v:=by subst q e;rfl
theorem zp5 {v : Value} {p : PV} (e : biOf v = some p) : ∃ k,v = qV k ∧ p = .bi k:=by
 cases v with
 | builtin n=>exact jK e (fun q e=>⟨1,congrArg Value.builtin q,e⟩) fun e=>jK e (fun q e=>⟨2,congrArg Value.builtin q,e⟩) fun e=>jK e (fun q e=>⟨3,congrArg Value.builtin q,e⟩) zd
 | type n=>exact jK e (fun q e=>⟨4,congrArg Value.type q,e⟩) fun e=>jK e (fun q e=>⟨5,congrArg Value.type q,e⟩) fun e=>jK e (fun q e=>⟨6,congrArg Value.type q,e⟩) fun e=>jK e (fun q e=>⟨7,congrArg Value.type q,e⟩) fun e=>jK e (fun q e=>⟨8,congrArg Value.type q,e⟩) fun e=>jK e (fun q e=>⟨9,congrArg Value.type q,e⟩) fun e=>jK e (fun q e=>⟨10,congrArg Value.type q,e⟩) zd
 | _=>exact zd e
theorem zsp {v : Value} {p : PV} (e : biOf v = some p) (h : Heap) (ρ : List Addr) : VR h ρ p v:=by
 obtain ⟨k,q,e⟩:=zp5 e
 exact bi_vr q e
theorem zpr : ∀ k < 4,nid (nm 306 ++ nm (321 + k)) = some (321 + k - 4) ∧ (nm 306).length + (nm (321 + k)).length ≤ sizeLine:=by decide +kernel
theorem zon : ∀ k < 4,(0 : Int) ≤ Int.ofNat k ∧ Int.ofNat k < 10 ∧ nid (Str.ofString (toString (Int.ofNat k))) = some (k + 321):=by decide +kernel
theorem znt {i : Int} {n : Nat} (h : natI i = some n) : i = .ofNat n:=by
 cases i with
 | ofNat k=>exact congrArg Int.ofNat (Option.some.inj h)
 | negSucc k=>exact zd h
theorem zvb {a b c : Nat} : catF a b = some c → nid (nm a ++ nm b) = some c ∧ (nm a).length + (nm b).length ≤ sizeLine:=by
 refine zR fun q=>zR fun h1=>zR fun h2 e=>?_
 obtain rfl:=(Nat.eq_of_beq_eq_true q).symm
 obtain ⟨k,rfl⟩:=Nat.exists_eq_add_of_le (Nat.le_of_ble_eq_true h1)
 exact Option.some.inj e ▸ zpr k (Nat.lt_succ_of_le (Nat.le_of_add_le_add_left (show 321 + k ≤ 321 + 3 from Nat.le_of_ble_eq_true h2)))
theorem znf {i : Int} {c : Nat} : zng i = some c → 0 ≤ i ∧ i < 10 ∧ nid (Str.ofString (toString i)) = some c :=
 zk fun n hn=>zR fun h e=>znt hn ▸ Option.some.inj e ▸ zon n (Nat.lt_succ_of_le (Nat.le_of_ble_eq_true h))
theorem catOk : CatOk PP:=⟨fun a b c=>zvb,fun i c=>znf⟩
structure Chk (K : Frag) : Prop where
 fns : ∀ x ∈ fnS,zg9 K x.1 = zge x ∧ zia x = some x.2.1.body
 cls : ∀ p ∈ clsL,clsB K p.1 p.2 = true
 glob : ∀ p ∈ zju,zee K p.1 = some p.2
 sys : (K.lookup sysModules).isSome = true
theorem zo1 {a : Nat} {fd : FnD} (e : PP.fn a = some fd) : ∃ i j,(a,fd,i,j) ∈ fnS:=by
 revert e;refine zk fun x hx e=>?_
 exact Option.some.inj e ▸ ⟨_,_,yU hx⟩
theorem zqo {prog : Program} {w : World} {K : Frag} {B : Heap} (X : K.In B) (C : Chk K) (lim : B.NoLimit) : TopC prog w K B PP where
 kin:=X
 sys:=by
  cases q : K.lookup sysModules with
  | none=>have:=C.sys;rw [q] at this;cases this
  | some o=>rw [X _ _ q];exact fun z=>nomatch z
 lim:=lim
 cat:=catOk
 cls:=fun a cd e=>(zj3 (C.cls _ (yU e))).1
 fnk:=fun a fd e=>by
  obtain ⟨i,j,m⟩:=zo1 e
  exact (zo4 (C.fns _ m).1 (C.fns _ m).2).2
 glob:=fun x v st e hn=>by
  have z:=C.glob _ (yU e)
  have hs : st = nm x:=yT hn
  subst hs
  revert z;refine zk fun r hr=>kN (fun u hu z=>?_) fun hu=>zk fun r2 hr2=>zk fun u2 hu2 z=>?_
  ·obtain ⟨a,rfl,rfl⟩:=zfa z
   exact ⟨.ref a,fun h ρ=>rfl,fun s hk=>.inl fun A' Q' E' q=>looks_nsIn X (hr.trans (congrArg some hu)) A' Q' E' s hk q⟩
  ·exact ⟨u2,fun h ρ=>zsp z h ρ,fun s hk=>.inr ⟨fun A' Q' E' q=>looks_nsIn X (hr.trans (congrArg some hu)) A' Q' E' s hk q,fun A' Q' E' q=>looks_nsIn X (hr2.trans (congrArg some hu2)) A' Q' E' s hk q⟩⟩
 fns:=fun a fd e=>by
  obtain ⟨i,j,m⟩:=zo1 e
  exact (zo4 (C.fns _ m).1 (C.fns _ m).2).1
 made:=fun a cd e=>(zj3 (C.cls _ (yU e))).2
end Mine
namespace Mine
open PySem PySem.W PySem.Calls PyProof.Rows PySem.Spec
noncomputable def zgb : List Addr:=[0,1,3,28,27,35,34,119,118,126,125,133,132,140,139,147,146,154,153,161,160,168,167,175,174,182,181,187,186,192,191,199,198,206,205,213,212,220,219,237,236,234,233,248,247,255,254,262,261,269,268,276,275,283,282,290,289,297,296,304,303,311,310,325,324,332,331,346,345,353,352,360,359,367,366,384,383,381,380,402,401,409,408,427,426,424,423,417,438,437,445,444,452,451,483,482,466,465,473,472,480,479,494,493,501,500,508,507,515,514,522,521,529,528,536,535,543,542,550,549,557,556,564,563,571,570,578,577,585,584,592,591,610,609,607,606,600,621,620,628,627,701,700,649,648,656,655,670,669,712,711,719,718,726,725,731,730,736,735,743,742,750,749,757,756,764,763,771,770,776,775,781,780]
noncomputable def qv : Program:=view pw [95]
noncomputable def zod (names : List Str) : List Str:=names.filter fun x=>!(x == ("law" : Str))
noncomputable def lse : List Str:=zod pw.boundNames
noncomputable def tabA (h : Heap) : List Bool × List (Option PV) × Bool:=(clsL.map (fun p=>clsB (kP h zgb) p.1 p.2),zju.map (fun p=>zee (kP h zgb) p.1),((kP h zgb).lookup sysModules).isSome)
noncomputable def zmo (h : Heap) : List (Option FnR):=fnS.map (fun x=>zg9 (kP h zgb) x.1)
noncomputable def ze7 : List Bool × List (Option PV) × Bool:=(clsL.map (fun uu=>true),zju.map (fun p=>some p.2),true)
noncomputable def ze6 : List (Option FnR):=fnS.map zge
noncomputable abbrev H0 (w : World) : Heap:=boot_heap w.params
noncomputable def zll (stp : SharedT → Thread → Option (SharedT × Thread)) (ok : Nat → Option Value → Thread → Bool) (nsm : Heap → Addr → Str → Option Value) (h : Heap) (gs : Array GenState) (d : Drawn) (k : Nat) (os : OsState) (N : Nat) (th : Thread) : Option SharedT :=
 bn (zpv h.objs.toList 0 .nil) fun t=>runT stp (ok h.objs.size (nsm h mainGlobals "__annotations__")) N ⟨t,h.objs.size,h.life,gs,d,k,os⟩ th
theorem zo7 {tb : String → Option Builtin} {p : Program} {w : World} {h : Heap} {gs : Array GenState} {d : Drawn} {k : Nat} {os : OsState} {N : Nat} {th : Thread} {s : SharedT} (e : zll (stepT (denote tb) p w) stepOk Heap.nsMap h gs d k os N th = some s) :
  topRun tb p w h.objs.size (h.nsMap mainGlobals "__annotations__") N ⟨h,gs,d,k,os⟩ th = some s.abs:=by
 revert e;refine zk fun t ht e=>?_
 have ea : (⟨t,h.objs.size,h.life,gs,d,k,os⟩ : SharedT).abs = ⟨h,gs,d,k,os⟩:=by
  show (⟨absHeap t h.objs.size h.life,gs,d,k,os⟩ : Shared) = _
  rw [zlx ht]
 exact ea ▸ zaq e
theorem zex {p q : Program} {loose : List Str} {Xt : Shared → Bool} {α : Type} {Yf : Shared → α} {Ya : World → α} {N : Nat} {g0 : Bool} {H : World → Heap} {gs : Array GenState} {d : Drawn} {k : Nat}
  (open_ : ∀ w,(fencedOpening treeTable p w N).map (fun s=>(s.heap,s.gens,s.drawn,s.toks)) = some (H w,gs,d,k)) (ns : ∀ w,((H w).isNs mainGlobals && gs.size == 0) = true)
  (fin : ∀ w os,∃ s,topRun treeTable p w (H w).objs.size ((H w).nsMap mainGlobals "__annotations__") N ⟨H w,gs,d,k,os⟩ (topStub p) = some s ∧ (staticsOk (importedModules p.main.body) (H w) s.heap && namesBound p s.heap && gensDone s && laidKept (H w) s.heap) = true ∧
   openSeen q loose (importedModules p.main.body) Xt g0 s = openGood q loose ∧ Yf s = Ya w) : LeftO p q loose Xt Yf Ya N g0:=fun w=>by
 obtain ⟨⟨h,gs',d',k',os⟩,e,e'⟩:=Option.map_eq_some_iff.mp (open_ w)
 obtain ⟨e1,e'⟩:=Prod.mk.inj e'
 obtain ⟨e2,e'⟩:=Prod.mk.inj e'
 obtain ⟨e3,e4⟩:=Prod.mk.inj e'
 dsimp only at e1 e2 e3 e4
 subst e1 e2 e3 e4
 obtain ⟨s,r,h5,h6,h7⟩:=fin w os
 have tf : topFrom treeTable p w N ⟨H w,gs',d',k',os⟩ = some s:=by
  unfold topFrom
  dsimp only
  rw [ns,r]
  show (match staticsOk (importedModules p.main.body) (H w) s.heap && namesBound p s.heap && gensDone s && laidKept (H w) s.heap with | true=>some s | false=>none) = _
  rw [h5]
 unfold openEnds
 rw [e]
 show (topFrom treeTable p w N _).map _ = _
 rw [tf]
 exact congrArg some (Prod.ext h6 h7)
noncomputable def zof {β : Type} (mods : List Str) (seen : Shared → β) (w : World) (s : SharedT):=((staticsOk mods (H0 w) s.abs.heap && namesBound pw s.abs.heap && gensDone s.abs && laidKept (H0 w) s.abs.heap,seen s.abs),tabA s.abs.heap)
end Mine
namespace Mine
open PySem PySem.W PySem.Calls PyProof.Rows PySem.Spec
open PySem.W.Fast (tw10156331382660048174 te10156331382660048174 tw11892475500146522536 te11892475500146522536 tw14364793385576792824 te14364793385576792824 tw6613529449190102663 te6613529449190102663 tw8920871248978507458 te8920871248978507458 tw5923862056798008813 te5923862056798008813 tw4187177175401517315 te4187177175401517315 tw18344453789297297638 te18344453789297297638)
theorem zsm (w : World) : (boot_heap w.params).isNs mainGlobals = true:=by kernel_rfl
theorem zhd : opening pw = plainProg pw.main.scope.names:=by kernel_rfl
theorem zo5 (s : Shared) : fenceModules? pw s = some s:=by kernel_rfl
theorem zpo : fnS.map zia = fnS.map fun x=>some x.2.1.body:=by kernel_rfl
theorem raw_a (w : World) (os : OsState) : (zll (tw10156331382660048174 (tw11892475500146522536 tw14364793385576792824) pw w) tw6613529449190102663 tw8920871248978507458 (H0 w) (Array.mk []) boot_drawn boot_toks os 6000 (topStub pw)).map (zof (tw5923862056798008813 pw.main.body)
  (tw4187177175401517315 qv (zod (tw18344453789297297638 pw)) (tw5923862056798008813 pw.main.body) (fun uu=>true) true) w) = some ((true,openGood qv (zod (tw18344453789297297638 pw))),ze7):=by kernel_rfl
theorem raw_b (w : World) (os : OsState) : (zll (tw10156331382660048174 (tw11892475500146522536 tw14364793385576792824) pw w) tw6613529449190102663 tw8920871248978507458 (H0 w) (Array.mk []) boot_drawn boot_toks os 6000 (topStub pw)).map (fun s=>zmo s.abs.heap) = some ze6:=by kernel_rfl
theorem zus (w : World) (os : OsState) : zll (stepT (denote treeTable) pw w) stepOk Heap.nsMap (H0 w) (Array.mk []) boot_drawn boot_toks os 6000 (topStub pw) = zll (tw10156331382660048174 (tw11892475500146522536 tw14364793385576792824) pw w) tw6613529449190102663 tw8920871248978507458 (H0 w) (Array.mk []) boot_drawn boot_toks os 6000 (topStub pw):=by
 rw [te10156331382660048174,te11892475500146522536,te14364793385576792824,te6613529449190102663,te8920871248978507458]
theorem zmn (w : World) (os : OsState) : ∃ s,zll (stepT (denote treeTable) pw w) stepOk Heap.nsMap (H0 w) (Array.mk []) boot_drawn boot_toks os 6000 (topStub pw) = some s ∧ zof (importedModules pw.main.body) (openSeen qv lse (importedModules pw.main.body) (fun uu=>true) true) w s = ((true,openGood qv lse),ze7) ∧ zmo s.abs.heap = ze6:=by
 obtain ⟨s,h1,h2⟩:=Option.map_eq_some_iff.mp (raw_a w os)
 obtain ⟨s',h3,h4⟩:=Option.map_eq_some_iff.mp (raw_b w os)
 rw [h1] at h3
 cases h3
 refine ⟨s,(zus w os).trans h1,?_,h4⟩
 unfold lse
 rw [te5923862056798008813,te4187177175401517315,te18344453789297297638]
 exact h2
end Mine
namespace Mine
open PySem PySem.W PySem.Calls PyProof.Rows PySem.Spec
theorem zrv (w : World) (os : OsState) : ∃ s,topRun treeTable pw w (H0 w).objs.size ((H0 w).nsMap mainGlobals "__annotations__") 6000 ⟨H0 w,Array.mk [],boot_drawn,boot_toks,os⟩ (topStub pw) = some s ∧ (staticsOk (importedModules pw.main.body) (H0 w) s.heap && namesBound pw s.heap && gensDone s && laidKept (H0 w) s.heap) = true ∧
   openSeen qv lse (importedModules pw.main.body) (fun uu=>true) true s = openGood qv lse ∧ (tabA s.heap,zmo s.heap) = (ze7,ze6):=by
 obtain ⟨s,z,z2,h4⟩:=zmn w os
 have z:=zo7 z
 unfold zof at z2
 obtain ⟨h3,h6⟩:=Prod.mk.inj z2
 obtain ⟨h5,h7⟩:=Prod.mk.inj h3
 exact ⟨s.abs,z,h5,h7,by rw [h6,h4]⟩
theorem left : LeftO pw qv lse (fun uu=>true) (fun s=>(tabA s.heap,zmo s.heap)) (fun uu=>(ze7,ze6)) 6000 :=
 zex (boot_open zhd (by decide) zo5) (fun w=>by rw [zsm];rfl) zrv
theorem xi {α β : Type} {f g : α → β} : ∀ {l : List α},l.map f = l.map g → ∀ x ∈ l,f x = g x
 | [],_,_,h=>nomatch h
 | y :: r,e,x,h=>by
  obtain ⟨e1,e2⟩:=List.cons.inj e
  rcases List.mem_cons.mp h with rfl | h
  ·exact e1
  ·exact xi e2 x h
theorem zu8 {h : Heap} (e : (tabA h,zmo h) = (ze7,ze6)) : Chk (kP h zgb):=by
 obtain ⟨e,e1⟩:=Prod.mk.inj e
 obtain ⟨e2,e⟩:=Prod.mk.inj e
 obtain ⟨e3,e4⟩:=Prod.mk.inj e
 exact ⟨fun x hx=>⟨xi e1 x hx,xi zpo x hx⟩,fun p hp=>xi e2 p hp,fun p hp=>xi e3 p hp,e4⟩
end Mine
namespace Mine
open PySem PySem.W PySem.Calls PyProof.Rows
noncomputable def Γc : PySem.Ctx:=⟨.builtin "claim.caller" {},none,none,[],none⟩
theorem zsi : Clean Γc:=⟨by decide +kernel,fun uu h=>nomatch h⟩
theorem zqp {prog : Program} {w : World} {t : Sem Fin} {s : Shared} {R : Result → Shared → Prop} (hreg : s.asleep)
  (h : wpN (model prog w) callerA t (fun fin s'=>∃ f,fin = .done f ∧ (R (.ok f) s' ∧ leftWithCleanup s'.gens = false)) (fun e s'=>R (.error e) s' ∧ leftWithCleanup s'.gens = false) s) :
  ∃ n r s' s'',runN (denote table) prog w n s ⟨t,.builtin "claim.caller" {},default,[]⟩ = .halted (outcomeOf r) s' ∧
   schedN (denote table) prog w n (.single s ⟨t,.builtin "claim.caller" {},default,[]⟩) = .halted (outcomeOf r) s' ∧ s'.forget = s''.forget ∧ R r s'':=by
 have z : PySem.Sem.wp (model prog w) Γc t (Sem.finPost (model prog w) Γc fun r s'=>R r s' ∧ leftWithCleanup s'.gens = false) (fun e uu s'=>R (.error e) s' ∧ leftWithCleanup s'.gens = false) default s:=by
  refine Sem.wp_mono _ Γc t (fun fin p' s' h'=>?_) (fun uu uu uu h'=>h') default s (h Γc default caller_in zsi)
  obtain ⟨f,rfl,hf⟩:=h'
  exact hf
 obtain ⟨n,r,s₁,s₂,hs,hn,hfo,hR⟩:=wp_halts_full (M:=model prog w) (R:=R) hreg z
 exact ⟨n,r,s₂,s₁,hn,hs,hfo,hR⟩
theorem zlv {c : ClaimW} {tree : List Value → Sem Fin} {w : World} {s : Shared} {free : Addr → Prop} {gens : Prop} {kept : Heap → Prop} (hz : s.asleep) (hgens : s.gens = #[])
  (hspec : ∀ args,c.pre args = true → WData.layableAll args = true → ∀ ord : List DictEntry → List DictEntry,(∀ l,(ord l).Perm l) →
   ∃ vs s₁,layAllW c.records (classAt s.heap) w.params ord args s = some (vs,s₁) ∧
    wpN (model c.prog w) callerA (tree vs) (fun fin s'=>∃ f,fin = .done f ∧ (c.Ends s args vs s₁ (.ok f) s' ∧ s'.os = s.os ∧ AllBare s'.gens ∧ kept s'.heap))
     (fun e s'=>c.Ends s args vs s₁ (.error e) s' ∧ s'.os = s.os ∧ AllBare s'.gens ∧ kept s'.heap) s₁) :
  c.CallFrom (fun vs=>⟨tree vs,.builtin "claim.caller" {},default,[]⟩) w free gens kept s:=by
 intro args hpre hlay ord hord
 refine cp fun no=>?_
 obtain ⟨vs,s₁,hlaid,hcode⟩:=hspec args hpre hlay ord hord
 have hal:=layAllW_rest _ _ _ hlaid
 obtain ⟨k,r,s',s'',hrun,hsched,hfo,hcase,hos,hkp⟩:=zqp (prog:=c.prog) (w:=w) (t:=tree vs) (s:=s₁) (R:=fun r s'=>c.Ends s args vs s₁ r s' ∧ s'.os = s.os ∧ kept s'.heap)
  (Shared.asleep_of_life hal.2.2.2 hz)
  (zW hcode (fun fin s' h=>h.imp fun f k=>⟨k.1,⟨k.2.1,k.2.2.1,k.2.2.2.2⟩,leftWithCleanup_false_of_bare k.2.2.2.1⟩) fun e s' k=>⟨⟨k.1,k.2.1,k.2.2.2⟩,leftWithCleanup_false_of_bare k.2.2.1⟩)
 obtain ⟨eh,_,_,eo,_⟩:=Shared.forget_eq hfo
 have hcase:=hcase.congr eh
 have hkp : kept s'.heap:=by first | exact eh ▸ hkp | (rw [eh] at hkp;exact hkp) | (rw [← eh] at hkp;exact hkp)
 replace hos:=eo ▸ hos
 have hlife : s'.heap.life = s.heap.life:=(runN_life _ _ _ hrun).trans hal.2.2.2
 refine no ⟨vs,s₁,hlaid,k,_,s',hsched,?_,(fun uu i x hx=>by rw [hgens] at hx;simp at hx),hkp,hlife ▸ rfl,Shared.rest_eq hos⟩
 exact hcase.imp (Exists.imp fun v k=>⟨congrArg outcomeOf k.1,k.2.1,k.2.2.1,k.2.2.2.1,fun b o y uu=>k.2.2.2.2.1 b o y,k.2.2.2.2.2⟩) (Exists.imp fun e=>Exists.imp fun ob=>Exists.imp fun cls k=>⟨congrArg outcomeOf k.1,k.2.1,k.2.2.1,k.2.2.2.1,k.2.2.2.2.1,fun b o y uu=>k.2.2.2.2.2 b o y⟩)
noncomputable abbrev WalkN (q : Program) (loose : List Str) (XP : (Str → Option Value) → Heap → Prop) (YP : World → Heap → Prop) (r : RowW) (d : DefRec) (kwd : List (Str × Expr)) : Prop :=
 ∀ (w : World) (s₀ s₁ : Shared) (mg mb : Str → Option Value),Ground q loose r.records XP w s₀ mg mb s₁.heap → YP w s₁.heap → ∀ (a : Addr) (o : Obj) (pm cd doc dV kV : Value),s₁.heap.get? a = some o →
  o.data = .func { docDef d.name d.params d.body d.scope pm cd doc with defaults:=dV,kwdefaults:=kV } → s₁.heap.CodeRec cd d.name → Dflts mg s₁.heap d.params kwd dV kV → mg d.name = some (.ref a) → s₁.gens = #[] →
  ∀ (args : List WData) (vals : List Value) (as : List Addr),Laid r.records w s₀ s₁ args vals as → r.claim.pre args = true → WData.layableAll args = true → ReadsAllW r.records (classAt s₀.heap) s₁.heap vals args as → WellAll w.params s₁.heap vals args → YP w s₀.heap → s₀.heap.nsMap mainGlobals d.name = some (.ref a) →
   wpN (model r.prog w) callerA (call (.ref a) vals) (fun v s'=>GoodWG r.claim (classAt s₀.heap) (ExcName.means s₀.heap) args s₁ (.ok (.ret v)) s')
    (fun e s'=>GoodWG r.claim (classAt s₀.heap) (ExcName.means s₀.heap) args s₁ (.error e) s') s₁
theorem ze4 {r : OpenRow} {q : Program} {loose : List Str} {Xt : Shared → Bool} {XP : (Str → Option Value) → Heap → Prop} {α : Type} {Yf : Shared → α} {Ya : World → α} {YP : World → Heap → Prop} {d : DefRec} {kwd : List (Str × Expr)} {N : Nat}
  (left : LeftO r.prog q loose Xt Yf Ya N) (hY : ∀ w s,Yf s = Ya w → YP w s.heap) (hYk : ∀ w h h',YP w h → (∀ b o,h.get? b = some o → h'.get? b = some o) → YP w h')
  (hX : ∀ s,Xt s = true → XP (s.heap.nsMap mainGlobals) s.heap) (hXk : ∀ mg h h',XP mg h → (∀ b o,h.get? b = some o → h'.get? b = some o) → XP mg h')
  (hdef : defOf q r.name = some (d,kwd)) (hp : r.prog.theDef r.name = some (d.params,d.body,d.scope)) (hk : kwWritten? d.params.kwonlyargs d.params.kw_defaults = some kwd) (hRf : ∀ s,Xt s = true → RecFacts r.records s.heap) (hwr : (!r.writes || r.records.isEmpty) = true)
  (k1 : r.wellSaid = true) (ok : (chainsOk q && opensWell r.prog && (frees r.toRowW && r.within.isEmpty)) = true) (hb : r.prog.bare) (hw : r.toRowW.promised)
  (call : WalkN q loose XP YP r.toRowW d kwd) : r.Holds:=by
 obtain ⟨ok,k5⟩:=Bool.and_eq_true_iff.mp ok
 obtain ⟨hch,o1⟩:=Bool.and_eq_true_iff.mp ok
 obtain ⟨k5,k6⟩:=Bool.and_eq_true_iff.mp k5
 obtain ⟨hsame,hu,ha,hap,hm⟩:=frees_parts k5
 refine ⟨k1,hw,⟨hb,o1,by show r.makers.map _ = [];rw [hm];rfl⟩,hw.witness,fun w=>⟨(left.behind hX hch w).1,fun s' hs'=>?_⟩⟩
 refine cp fun no=>?_
 obtain ⟨s₀,hf,hg0,s,hT,hz,hgens,hg,G00,y⟩:=(left.behind (XP:=fun mg h=>XP mg h ∧ RecFacts r.records h) (fun s hs=>⟨hX s hs,hRf s hs⟩) hch w).2 s' hs'
 have G0 : Ground q loose [] XP w s (s.heap.nsMap mainGlobals) (s.heap.nsMap builtinsNs) s.heap:=⟨G00.T,G00.B,G00.D,G00.TE,G00.TD,G00.W,G00.X.1,G00.cls,G00.has,G00.apart,G00.once,G00.K⟩
 have RF:=G00.X.2
 have hT':=hT
 refine no ⟨s₀,hf,hg0,s,hT,fun n hn=>?_,RF.1,RF.2.1,?_⟩
 ·obtain rfl : n = r.name:=by split at hn <;> simp_all
  exact pinned_of_view hg G0 hdef hp hk
 have hgens : s.gens = #[]:=Array.eq_empty_of_size_eq_zero (beq_iff_eq.mp hgens)
 have G : Ground q loose r.records XP w s _ _ s.heap:=RF.ground G0
 refine zlv (c:=r.claim) hz hgens fun args hpre hlay ord hord=>cp fun no=>?_
 obtain ⟨⟨vs,s₁⟩,hlaid⟩:=Option.isSome_iff_exists.mp (layAllW_isSome (P:=w.params) (ord:=ord) G.has args r.args s (pre_splitW hpre).1)
 have keeps:=layAllW_keeps _ _ _ hlaid
 have hal:=layAllW_rest _ _ _ hlaid
 obtain ⟨as,hrd,hin,hold⟩:=reads_layAllW hord _ _ _ hlaid hlay s₁.heap (fun uu uu e=>e)
 have L : Laid r.records w s s₁ args vs as:=⟨⟨ord,hord,hlaid⟩,hrd,hin,hold,keeps,hal.1.trans hgens,hal.2.2.1⟩
 have G₁:=G.keeps hXk keeps
 have hi:=ident_freeW hu ha hap
 have hwi : r.claim.within = []:=List.isEmpty_iff.mp k6
 obtain ⟨a,o,pm,cd,doc,dV,kV,h1,h2,h3,h4,h5⟩:=G₁.fn hdef
 have h:=call w s s₁ _ _ G₁ (hYk _ _ _ (hY w s y) keeps) a o pm cd doc dV kV h2 h3 h4 h5 (defOf_name hdef ▸ h1) L.gens args vs as L hpre hlay L.reads L.well (hY w s y) (defOf_name hdef ▸ h1)
 refine no ⟨vs,s₁,hlaid,?_⟩
 show wpN _ _ (nsGet mainNs r.name >>= _) _ _ _
 refine zm (wpAny_nsGet G₁.T.g ?_)
 rw [h1]
 refine zb (zW h (fun v s' g=>zg ⟨_,rfl,?_⟩) fun e s' g=>?_)
 ·have z:=g.laid (c:=r.claim) hsame hwi hi L
  exact ⟨z.1,z.2.1,z.2.2,fun q=>⟨namesKept_of hT' hg _ keeps g.2.1.old,noTable hwr q⟩⟩
 ·have z:=g.laid (c:=r.claim) hsame hwi hi L
  exact ⟨z.1,z.2.1,z.2.2,fun q=>⟨namesKept_of hT' hg _ keeps g.2.1.old,noTable hwr q⟩⟩
end Mine
namespace Mine
open PySem PySem.W PySem.Calls PyProof.Rows PySem.Spec
open PySem.W.Fast (tw9446332074065402090 te9446332074065402090)
noncomputable abbrev rw0 : OpenLaw:=PySem.Challenge.rw_pq1105_01
theorem zmx : tw9446332074065402090 rw0 = true:=by kernel_rfl
theorem said : rw0.wellSaid = true:=by rw [te9446332074065402090];exact zmx
noncomputable def dl : Option (DefRec × List (Str × PySem.Expr)):=defOf qv rw0.name
theorem zcz : dl.isSome = true:=by kernel_rfl
noncomputable def dl1 : DefRec × List (Str × PySem.Expr):=dl.get zcz
theorem dl_eq : defOf qv rw0.name = some (dl1.1,dl1.2):=by
 show dl = some (dl.get zcz)
 exact (Option.some_get zcz).symm
theorem zuz : pw.theDef rw0.name = some (dl1.1.params,dl1.1.body,dl1.1.scope):=by kernel_rfl
theorem dl_kw : kwWritten? dl1.1.params.kwonlyargs dl1.1.params.kw_defaults = some dl1.2:=by kernel_rfl
theorem zr8 : dl1.1.name = nm 313:=by kernel_rfl
theorem zu9 : chainsOk qv = true:=by kernel_rfl
theorem opens : opensWell pw = true:=by kernel_rfl
theorem freeR : (frees rw0.row.toRowW && rw0.row.within.isEmpty) = true:=by kernel_rfl
theorem bareP : pw.bare:=⟨rfl,rfl,rfl,rfl,rfl,by decide +kernel⟩
theorem promR : rw0.row.toRowW.promised:=⟨[.list []],by decide +kernel,by decide +kernel⟩
end Mine
namespace Mine
open PySem
noncomputable def S2 (o : Option (PV × Hp)) (Q : PV → Hp → Prop) : Prop:=∃ v H,o = some (v,H) ∧ Q v H
noncomputable def SL (o : Option (List PV × Hp)) (Q : List PV → Hp → Prop) : Prop:=∃ v H,o = some (v,H) ∧ Q v H
noncomputable def SB (o : Option (Bool × Hp)) (Q : Bool → Hp → Prop) : Prop:=∃ v H,o = some (v,H) ∧ Q v H
noncomputable def SH (o : Option Hp) (Q : Hp → Prop) : Prop:=∃ H,o = some H ∧ Q H
noncomputable def SX (o : Option (Fl × Loc × Hp)) (Q : Fl → Loc → Hp → Prop) : Prop:=∃ f L H,o = some (f,L,H) ∧ Q f L H
section
variable (n : Nat) (L : Loc) (H : Hp) (Q : PV → Hp → Prop) (QB : Bool → Hp → Prop) (QL : List PV → Hp → Prop) (QX : Fl → Loc → Hp → Prop) (a b : ME) (x y z : PV) (ss : List MS)
@[reducible] noncomputable def ConsQ (v : PV) (vs : List PV) (H2 : Hp) : Prop:=QL (v :: vs) H2
@[reducible] noncomputable def EsQ (l : List ME) (v : PV) (H1 : Hp) : Prop:=SL (yO PP n l L H1) (ConsQ QL v)
@[reducible] noncomputable def BinQ2 (op : Bop) (y : PV) (H2 : Hp) : Prop:=S2 (kA PP op x y H2) Q
@[reducible] noncomputable def BinQ (op : Bop) (x : PV) (H1 : Hp) : Prop:=S2 (evE PP n b L H1) (BinQ2 Q x op)
@[reducible] noncomputable def NegQ (x : PV) (H1 : Hp) : Prop:=∃ i,x = .int i ∧ Q (.int (-i)) H1
@[reducible] noncomputable def AttrQ (m : Nat) (v : PV) (H1 : Hp) : Prop:=∃ r,getA PP v m H1 = some r ∧ Q r H1
@[reducible] noncomputable def SubQ2 (y : PV) (H2 : Hp) : Prop:=∃ r,qr x y H2 = some r ∧ Q r H2
@[reducible] noncomputable def SubQ (i : ME) (x : PV) (H1 : Hp) : Prop:=S2 (evE PP n i L H1) (SubQ2 Q x)
@[reducible] noncomputable def SliceQ4 (u : PV) (H4 : Hp) : Prop:=∃ r,wQ x y z u H4 = some r ∧ Q r H4
@[reducible] noncomputable def SliceQ3 (st : ME) (z : PV) (H3 : Hp) : Prop:=S2 (evE PP n st L H3) (SliceQ4 Q x y z)
@[reducible] noncomputable def SliceQ2 (hi st : ME) (y : PV) (H2 : Hp) : Prop:=S2 (evE PP n hi L H2) (SliceQ3 n L Q x y st)
@[reducible] noncomputable def SliceQ (lo hi st : ME) (x : PV) (H1 : Hp) : Prop:=S2 (evE PP n lo L H1) (SliceQ2 n L Q x hi st)
@[reducible] noncomputable def CmpQ2 (op : Cop) (y : PV) (H2 : Hp) : Prop:=∃ r,jd op x y H2 = some r ∧ Q (.bool r) H2
@[reducible] noncomputable def CmpQ (op : Cop) (x : PV) (H1 : Hp) : Prop:=S2 (evE PP n b L H1) (CmpQ2 Q x op)
@[reducible] noncomputable def CCmpQ2 (op : Cop) (y : PV) (H2 : Hp) : Prop:=∃ r,jd op x y H2 = some r ∧ QB r H2
@[reducible] noncomputable def CCmpQ (op : Cop) (x : PV) (H1 : Hp) : Prop:=S2 (evE PP n b L H1) (CCmpQ2 QB x op)
@[reducible] noncomputable def IteQ (t : Bool) (H1 : Hp) : Prop:=S2 (evE PP n (match t with | true=>a | false=>b) L H1) Q
@[reducible] noncomputable def TupQ (vs : List PV) (H1 : Hp) : Prop:=Q (.tup vs) H1
@[reducible] noncomputable def LstQ (vs : List PV) (H1 : Hp) : Prop:=Q (.lst vs) H1
@[reducible] noncomputable def Lst1Q (v : PV) (H1 : Hp) : Prop:=Q (.loc H1.length) (H1 ++ [.list [v]])
@[reducible] noncomputable def CallQ (f : PV) (vs : List PV) (H2 : Hp) : Prop:=S2 (zs PP n f vs H2) Q
@[reducible] noncomputable def MethQ2 (m j : Nat) (ob : MObj) (vs : List PV) (H2 : Hp) : Prop:=∃ ob2,H2[j]? = some ob2 ∧ jv ob2 = jv ob ∧ S2 (zer m j ob2 vs H2) Q
@[reducible] noncomputable def MethQ (args : List ME) (m j : Nat) (ob : MObj) (v : PV) (H1 : Hp) : Prop:=v = .loc j ∧ H1[j]? = some ob ∧ (jv ob ≠ 4) ∧ SL (yO PP n args L H1) (MethQ2 Q m j ob)
@[reducible] noncomputable def InstQ2 (fa j : Nat) (vs : List PV) (H2 : Hp) : Prop:=S2 (zs PP n (.fn fa) (.loc j :: vs) H2) Q
@[reducible] noncomputable def InstQ (args : List ME) (m j C d fa : Nat) (es : List (Nat × PV)) (v : PV) (H1 : Hp) : Prop:=v = .loc j ∧ H1[j]? = some (.inst C d) ∧ H1[d]? = some (.ns es) ∧ dictGet m es = none ∧ SL (yO PP n args L H1) (InstQ2 n Q fa j)
@[reducible] noncomputable def CondQ (v : PV) (H1 : Hp) : Prop:=∃ t,v = .bool t ∧ QB t H1
@[reducible] noncomputable def NotQ (t : Bool) (H1 : Hp) : Prop:=QB (!t) H1
@[reducible] noncomputable def CsQ (k : Bool) (l : List ME) (t : Bool) (H1 : Hp) : Prop:=match t == k with | true=>SB (zhz PP n k l L H1) QB | false=>QB t H1
@[reducible] noncomputable def ThenX (f : Fl) (L1 : Loc) (H1 : Hp) : Prop:=match f with | .next=>SX (execs PP n ss L1 H1) QX | f=>QX f L1 H1
@[reducible] noncomputable def RetX (v : PV) (H1 : Hp) : Prop:=QX (.ret v) L H1
@[reducible] noncomputable def NameX (t : Nat) (v : PV) (H1 : Hp) : Prop:=SX (execs PP (n + 2) ss (z5 L t v) H1) QX
@[reducible] noncomputable def ExprX (v : PV) (H1 : Hp) : Prop:=SX (execs PP (n + 1) ss L H1) QX
@[reducible] noncomputable def IfX (s1 s2 : List MS) (t : Bool) (H1 : Hp) : Prop:=SX (execs PP n (match t with | true=>s1 | false=>s2) L H1) (ThenX (n + 1) QX ss)
@[reducible] noncomputable def AsgX (t : MT) (v : PV) (H1 : Hp) : Prop:=∃ L1 H2,vA PP n t v L H1 = some (L1,H2) ∧ SX (execs PP (n + 1) ss L1 H2) QX
@[reducible] noncomputable def SwapX (xs : List Nat) (vs : List PV) (H1 : Hp) : Prop:=∃ L1,vy xs vs L = some L1 ∧ SX (execs PP (n + 2) ss L1 H1) QX
@[reducible] noncomputable def FnQ (f : Fl) (L1 : Loc) (H1 : Hp) : Prop:=match f with | .ret v=>Q v H1 | .next=>Q .none H1 | .cont=>False
@[reducible] noncomputable def NewQ (v : PV) (H1 : Hp) : Prop:=v = .none ∧ Q (.loc (H.length + 1)) H1
@[reducible] noncomputable def SetAX (t m i C d : Nat) (es : List (Nat × PV)) (v : PV) (H1 : Hp) : Prop:=L t = some (.loc i) ∧ H1[i]? = some (.inst C d) ∧ H1[d]? = some (.ns es) ∧ xZ PP C m = true ∧ es.length < 1000 ∧ SX (execs PP (n + 3) ss L (H1.set d (.ns (dictSet m v es)))) QX
@[reducible] noncomputable def PushQ (j : Nat) (v : PV) (H2 : Hp) : Prop:=∃ l2,H2[j]? = some (.list l2) ∧ l2.length ≤ lim ∧ Q .none (H2.set j (.list (l2 ++ [v])))
@[reducible] noncomputable def WEndQ (t : Bool) (H1 : Hp) : Prop:=t = false ∧ QX .next L H1
@[reducible] noncomputable def ForX (t : List Nat) (k : Nat) (bd : List MS) (vs : List PV) (H1 : Hp) : Prop:=∃ l,y8 k vs H1 = some (.vals l) ∧ SX (kQ (execs PP n bd) t l L H1) (ThenX (n + 1) QX ss)
@[reducible] noncomputable def AugX (t : Nat) (i : Int) (v : PV) (H1 : Hp) : Prop:=∃ j : Int,v = .int j ∧ SX (execs PP (n + 1) ss (z5 L t (.int (i + j))) H1) QX
@[reducible] noncomputable def And2Q (u : Bool) (H1 : Hp) : Prop:=match u with | false=>QB false H1 | true=>SB (evC PP n b L H1) QB
@[reducible] noncomputable def Or2Q (u : Bool) (H1 : Hp) : Prop:=match u with | true=>QB true H1 | false=>SB (evC PP n b L H1) QB
@[reducible] noncomputable def FvX (body : Loc → Hp → Option (Fl × Loc × Hp)) (t : List Nat) (r : List PV) (f : Fl) (L2 : Loc) (H2 : Hp) : Prop:=match f with | .ret v=>QX (.ret v) L2 H2 | _=>SX (kQ body t r L2 H2) QX
@[reducible] noncomputable def FtX (body : Loc → Hp → Option (Fl × Loc × Hp)) (t : List Nat) (l i : Nat) (f : Fl) (L2 : Loc) (H2 : Hp) : Prop:=match f with | .ret v=>QX (.ret v) L2 H2 | _=>SX (zco body t l n (i + 1) L2 H2) QX
@[reducible] noncomputable def TrkX (t : List Nat) (k : Nat) (bd : List MS) (vs : List PV) (H1 : Hp) : Prop:=∃ l,y8 k vs H1 = some (.trk l) ∧ SX (zco (execs PP n bd) t l qK 0 L H1) (ThenX (n + 1) QX ss)
end
variable {n : Nat} {L : Loc} {H H1 : Hp} {Q : PV → Hp → Prop} {QB : Bool → Hp → Prop} {QL : List PV → Hp → Prop} {QX : Fl → Loc → Hp → Prop} {e a b c f o i lo hi st : ME} {v x y r : PV} {op : Bop} {args l : List ME} {ss s1 s2 : List MS}
theorem S2.mono {o : Option (PV × Hp)} {Q Q' : PV → Hp → Prop} (h : S2 o Q) (k : ∀ v H,Q v H → Q' v H) : S2 o Q':=by
 obtain ⟨v,H,e,q⟩:=h
 exact ⟨v,H,e,k v H q⟩
theorem jk (q : Q v H) : S2 (some (v,H)) Q:=⟨v,H,rfl,q⟩
theorem zc (h : evE PP n e L H = some (v,H1)) (k : Q v H1) : S2 (evE PP n e L H) Q:=⟨_,_,h,k⟩
theorem zn {vs : List PV} (h : yO PP n l L H = some (vs,H1)) (k : QL vs H1) : SL (yO PP n l L H) QL:=⟨_,_,h,k⟩
theorem zx {b : Bool} (h : evC PP n e L H = some (b,H1)) (k : QB b H1) : SB (evC PP n e L H) QB:=⟨_,_,h,k⟩
theorem s2b {α : Type} {o : Option (α × Hp)} {f : α → Hp → Option (PV × Hp)} (h : ∃ v H1,o = some (v,H1) ∧ S2 (f v H1) Q) : S2 (bn2 o f) Q:=by
 obtain ⟨_,_,e,w,H2,e2,q⟩:=h
 exact ⟨w,H2,(zI e).trans e2,q⟩
theorem s2n {α : Type} {o : Option α} {f : α → Option (PV × Hp)} (h : ∃ v,o = some v ∧ S2 (f v) Q) : S2 (bn o f) Q:=by
 refine cp fun nq=>?_
 obtain ⟨_,e,w,H2,e2,q⟩:=h
 refine nq ?_
 exact ⟨w,H2,(zr e).trans e2,q⟩
theorem sbb {α : Type} {o : Option (α × Hp)} {f : α → Hp → Option (Bool × Hp)} (h : ∃ v H1,o = some (v,H1) ∧ SB (f v H1) QB) : SB (bn2 o f) QB:=by
 obtain ⟨_,_,e,w,H2,e2,q⟩:=h
 exact ⟨w,H2,(zI e).trans e2,q⟩
theorem sxb {α : Type} {o : Option (α × Hp)} {f : α → Hp → Rs} (h : ∃ v H1,o = some (v,H1) ∧ SX (f v H1) QX) : SX (bn2 o f) QX:=by
 obtain ⟨_,_,e,w,L2,H2,e2,q⟩:=h
 exact ⟨w,L2,H2,(zI e).trans e2,q⟩
theorem sxn {α : Type} {o : Option α} {f : α → Rs} (h : ∃ v,o = some v ∧ SX (f v) QX) : SX (bn o f) QX:=by
 refine cp fun nq=>?_
 obtain ⟨_,e,w,L2,H2,e2,q⟩:=h
 refine nq ?_
 exact ⟨w,L2,H2,(zr e).trans e2,q⟩
theorem sx3 {o : Rs} {f : Fl → Loc → Hp → Rs} (h : ∃ v L1 H1,o = some (v,L1,H1) ∧ SX (f v L1 H1) QX) : SX (bn3 o f) QX:=by
 refine cp fun nq=>?_
 obtain ⟨_,_,_,e,w,L2,H2,e2,q⟩:=h
 refine nq ?_
 exact ⟨w,L2,H2,(zdd e).trans e2,q⟩
theorem kZ {fl : Fl} (q : QX fl L H) : SX (some (fl,L,H)) QX:=⟨fl,L,H,rfl,q⟩
theorem zi (k : QL [] H) : SL (yO PP (n + 1) [] L H) QL:=⟨_,_,rfl,k⟩
theorem za (h : S2 (evE PP n e L H) (EsQ n L QL l)) : SL (yO PP (n + 1) (e :: l) L H) QL:=by
 refine cp fun nq=>?_
 obtain ⟨_,_,h1,_,_,h2,q⟩:=h
 refine nq ?_
 exact ⟨_,_,(zI h1).trans (zI h2),q⟩
theorem zo (h : S2 (evE PP n a L H) (BinQ n L Q b op)) : S2 (evE PP (n + 1) (.bin op a b) L H) Q:=by
 refine cp fun nq=>?_
 obtain ⟨_,_,h1,h⟩:=h
 refine nq ?_
 exact s2b ⟨_,_,h1,s2b h⟩
theorem e_neg (h : S2 (evE PP n a L H) (NegQ Q)) : S2 (evE PP (n + 1) (.neg a) L H) Q:=by
 refine cp fun nq=>?_
 obtain ⟨v,H1,h1,i,rfl,q⟩:=h
 refine nq ?_
 exact ⟨_,_,(zr h1).trans rfl,q⟩
theorem zh4 {m : Nat} (h : S2 (evE PP n o L H) (AttrQ Q m)) : S2 (evE PP (n + 1) (.attr o m) L H) Q:=by
 refine cp fun nq=>?_
 obtain ⟨_,_,h1,_,h2,q⟩:=h
 refine nq ?_
 exact s2b ⟨_,_,h1,s2n ⟨_,h2,jk q⟩⟩
theorem zZ (h : S2 (evE PP n o L H) (SubQ n L Q i)) : S2 (evE PP (n + 1) (.sub o i) L H) Q:=by
 refine cp fun nq=>?_
 obtain ⟨_,_,h1,_,_,h2,_,h3,q⟩:=h
 refine nq ?_
 exact s2b ⟨_,_,h1,s2b ⟨_,_,h2,s2n ⟨_,h3,jk q⟩⟩⟩
theorem qi (h : S2 (evE PP n o L H) (SliceQ n L Q lo hi st)) : S2 (evE PP (n + 1) (.slice o lo hi st) L H) Q:=by
 refine cp fun nq=>?_
 obtain ⟨_,_,h1,_,_,h2,_,_,h3,_,_,h4,_,h5,q⟩:=h
 refine nq ?_
 exact s2b ⟨_,_,h1,s2b ⟨_,_,h2,s2b ⟨_,_,h3,s2b ⟨_,_,h4,s2n ⟨_,h5,jk q⟩⟩⟩⟩⟩
theorem yL {op : Cop} (h : S2 (evE PP n a L H) (CmpQ n L Q b op)) : S2 (evE PP (n + 1) (.cmp op a b) L H) Q:=by
 refine cp fun nq=>?_
 obtain ⟨_,_,h1,_,_,h2,_,h3,q⟩:=h
 refine nq ?_
 exact s2b ⟨_,_,h1,s2b ⟨_,_,h2,s2n ⟨_,h3,jk q⟩⟩⟩
theorem jx (h : SB (evC PP n c L H) (IteQ n L Q a b)) : S2 (evE PP (n + 1) (.ite c a b) L H) Q:=by
 refine cp fun nq=>?_
 obtain ⟨t,H1,h1,h⟩:=h
 refine nq ?_
 refine s2b ⟨t,H1,h1,?_⟩
 cases t <;> exact h
theorem z8 (h : SL (yO PP n l L H) (TupQ Q)) : S2 (evE PP (n + 1) (.tup l) L H) Q:=by
 refine cp fun nq=>?_
 obtain ⟨_,_,h1,q⟩:=h
 refine nq ?_
 exact s2b ⟨_,_,h1,jk q⟩
theorem zo9 (h : SL (yO PP n (a :: b :: l) L H) (LstQ Q)) : S2 (evE PP (n + 1) (.lst (a :: b :: l)) L H) Q:=by
 refine cp fun nq=>?_
 obtain ⟨_,_,h1,q⟩:=h
 refine nq ?_
 exact s2b ⟨_,_,h1,jk q⟩
theorem zcu (h : S2 (evE PP (n + 1) a L H) (Lst1Q Q)) : S2 (evE PP (n + 3) (.lst [a]) L H) Q:=by
 refine cp fun nq=>?_
 obtain ⟨_,_,h1,q⟩:=h
 refine nq ?_
 have e : yO PP (n + 2) [a] L H = some ([_],_):=(zI h1).trans rfl
 exact s2b ⟨_,_,e,jk q⟩
theorem ze {fv : PV} (hf : evE PP n f L H = some (fv,H)) (h : SL (yO PP n args L H) (CallQ n Q fv)) : S2 (evE PP (n + 1) (.call f args) L H) Q :=
 s2b ⟨_,_,hf,s2b h⟩
theorem yw {m j : Nat} {ob : MObj} (ho : S2 (evE PP n o L H) (MethQ n L Q args m j ob)) :
  S2 (evE PP (n + 1) (.meth o m args) L H) Q:=by
 refine cp fun nq=>?_
 obtain ⟨v,H1,h1,rfl,h2,h3,vs,H2,h4,ob2,h5,h6,w,H3,h7,q⟩:=ho
 refine nq ?_
 refine ⟨w,H3,(zr h1).trans ((zr h2).trans ?_),q⟩
 have k4 : Nat.beq (jv ob) 4 = false:=by cases e : Nat.beq (jv ob) 4 with | false=>rfl | true=>exact absurd (Nat.eq_of_beq_eq_true e) h3
 have hk : Nat.beq (jv ob) (jv ob2) = true:=by rw [h6];exact Nat.beq_refl _
 show cond (Nat.beq (jv ob) 4) _ _ = _
 rw [k4]
 exact (zI h4).trans ((zr h5).trans ((wq hk).trans h7))
theorem vm {m j C d fa : Nat} {cd : ClsD} {es : List (Nat × PV)} (hc : PP.cls C = some cd) (hm : kG m cd.meths = some fa)
  (ho : S2 (evE PP n o L H) (InstQ n L Q args m j C d fa es)) :
  S2 (evE PP (n + 1) (.meth o m args) L H) Q:=by
 obtain ⟨v,H1,h1,rfl,h2,h3,h4,vs,H2,h5,w,H3,h6,q⟩:=ho
 exact ⟨w,H3,(zr h1).trans ((zr h2).trans ((zr hc).trans ((zr hm).trans ((zr (zca h3)).trans ((wq (by rw [h4];rfl)).trans ((zI h5).trans h6)))))),q⟩
theorem c_e (hn : (match e with | .not _=>false | .bool _ _=>false | .ite _ _ _=>false | _=>true) = true) (h : S2 (evE PP n e L H) (CondQ QB)) : SB (evC PP (n + 1) e L H) QB:=by
 obtain ⟨v,H1,h1,t,rfl,q⟩:=h
 have k : evC PP (n + 1) e L H = bnB (evE PP n e L H) fun b H1=>some (b,H1):=by cases e <;> first | rfl | exact absurd hn Bool.false_ne_true | cases hn
 exact ⟨t,H1,k.trans ((zr h1).trans rfl),q⟩
theorem zE {op : Cop} (h : S2 (evE PP n a L H) (CCmpQ n L QB b op)) : SB (evC PP (n + 2) (.cmp op a b) L H) QB:=by
 refine cp fun nq=>?_
 obtain ⟨_,_,h1,_,_,h2,_,h3,q⟩:=h
 refine nq ?_
 exact c_e rfl (yL ⟨_,_,h1,_,_,h2,_,h3,_,rfl,q⟩)
theorem zth (h : SB (evC PP n a L H) (NotQ QB)) : SB (evC PP (n + 1) (.not a) L H) QB:=by
 refine cp fun nq=>?_
 obtain ⟨_,_,h1,q⟩:=h
 refine nq ?_
 exact ⟨_,_,zI h1,q⟩
theorem vW {k : Bool} (h : SB (zhz PP n k l L H) QB) : SB (evC PP (n + 1) (.bool k l) L H) QB:=h
theorem vU {k : Bool} (q : QB k H) : SB (zhz PP (n + 1) k [] L H) QB:=⟨_,_,rfl,q⟩
theorem yq {k : Bool} (h : SB (evC PP n e L H) (CsQ n L QB k l)) : SB (zhz PP (n + 1) k (e :: l) L H) QB:=by
 refine cp fun nq=>?_
 obtain ⟨t,H1,h1,q⟩:=h
 refine nq ?_
 refine sbb ⟨t,H1,h1,?_⟩
 cases hk : t == k with
 | true=>change (match t == k with | true=>_ | false=>_) at q;rw [hk] at q;exact q
 | false=>change (match t == k with | true=>_ | false=>_) at q;rw [hk] at q;exact ⟨_,_,rfl,q⟩
theorem SX.mono {o : Option (Fl × Loc × Hp)} {Q Q' : Fl → Loc → Hp → Prop} (h : SX o Q) (k : ∀ f L H,Q f L H → Q' f L H) : SX o Q':=by
 obtain ⟨f,L,H,e,q⟩:=h
 exact ⟨f,L,H,e,k f L H q⟩
theorem zf (q : QX .next L H) : SX (execs PP (n + 1) [] L H) QX:=⟨_,_,_,rfl,q⟩
theorem jJ {s : MS} (h : SX (exec PP n s L H) (ThenX n QX ss)) : SX (execs PP (n + 1) (s :: ss) L H) QX:=by
 refine cp fun nq=>?_
 obtain ⟨f,L1,H1,h1,q⟩:=h
 refine nq ?_
 refine sx3 ⟨f,L1,H1,h1,?_⟩
 cases f with
 | next=>exact q
 | cont=>exact kZ q
 | ret v=>exact kZ q
theorem zry {x : Nat} (h : evE PP (n + 1) e L H = some (v,H1)) : exec PP (n + 2) (.assign (.name x) e) L H = some (.next,z5 L x v,H1):=(zI h).trans rfl
theorem zt (h : S2 (evE PP n e L H) (RetX L QX)) : SX (execs PP (n + 2) (.ret e :: ss) L H) QX:=by
 refine cp fun nq=>?_
 obtain ⟨_,_,h1,q⟩:=h
 refine nq ?_
 exact jJ ⟨.ret _,L,_,zI h1,q⟩
theorem zj {x : Nat} (h : S2 (evE PP (n + 1) e L H) (NameX n L QX ss x)) : SX (execs PP (n + 3) (.assign (.name x) e :: ss) L H) QX:=by
 refine cp fun nq=>?_
 obtain ⟨_,_,h1,q⟩:=h
 refine nq ?_
 exact jJ ⟨_,_,_,zry h1,q⟩
theorem zy (h : S2 (evE PP n e L H) (ExprX n L QX ss)) : SX (execs PP (n + 2) (.expr e :: ss) L H) QX:=by
 refine cp fun nq=>?_
 obtain ⟨_,_,h1,q⟩:=h
 refine nq ?_
 exact jJ ⟨.next,L,_,zI h1,q⟩
theorem zu (h : SB (evC PP n c L H) (IfX n L QX ss s1 s2)) : SX (execs PP (n + 2) (.ifs c s1 s2 :: ss) L H) QX:=by
 refine cp fun nq=>?_
 obtain ⟨t,H1,h1,h⟩:=h
 refine nq ?_
 refine jJ (sxb ⟨t,H1,h1,?_⟩)
 cases t <;> exact h
theorem jA {t : MT} (h : S2 (evE PP n e L H) (AsgX n L QX ss t)) : SX (execs PP (n + 2) (.assign t e :: ss) L H) QX:=by
 refine cp fun nq=>?_
 obtain ⟨_,_,h1,_,_,h2,q⟩:=h
 refine nq ?_
 exact jJ ⟨.next,_,_,(zI h1).trans (zI h2),q⟩
theorem jI {xs : List Nat} (h : SL (yO PP n l L H) (SwapX n L QX ss xs)) : SX (execs PP (n + 3) (.swap xs (.tup l) :: ss) L H) QX:=by
 refine cp fun nq=>?_
 obtain ⟨_,_,h1,_,h2,q⟩:=h
 refine nq ?_
 have e : evE PP (n + 1) (.tup l) L H = some (.tup _,_):=zI h1
 exact jJ ⟨.next,_,_,(zr e).trans (zr h2),q⟩
theorem zD {a : Addr} {fd : FnD} {vs : List PV} {L : Loc} (hf : PP.fn a = some fd) (hb : zft fd vs = some L) (h : SX (execs PP n fd.body L H) (FnQ Q)) : S2 (zs PP (n + 3) (.fn a) vs H) Q:=by
 obtain ⟨f,L1,H1,h1,q⟩:=h
 have e : zs PP (n + 3) (.fn a) vs H = retF f H1:=by
  show kv (PP.fn a) _ _ = _
  rw [hf]
  exact (zr hb).trans (zdd h1)
 cases f with
 | ret v=>exact ⟨_,_,e,q⟩
 | next=>exact ⟨_,_,e,q⟩
 | cont=>exact q.elim
theorem zaz {a : Addr} {cd : ClsD} {vs : List PV} (hf : PP.fn a = none) (hc : PP.cls a = some cd) (h : S2 (zs PP n (.fn cd.init) (.loc (H.length + 1) :: vs) (H ++ [.ns [],.inst a H.length])) (NewQ H Q)) : S2 (zs PP (n + 3) (.fn a) vs H) Q:=by
 obtain ⟨v,H1,h1,rfl,q⟩:=h
 refine ⟨_,_,?_,q⟩
 show kv (PP.fn a) _ _ = _
 rw [hf]
 exact (zr hc).trans ((zI h1).trans rfl)
end Mine
namespace Mine
open PySem
variable {n : Nat} {L : Loc} {H H1 : Hp} {Q : PV → Hp → Prop} {QB : Bool → Hp → Prop} {QL : List PV → Hp → Prop} {QX : Fl → Loc → Hp → Prop} {e a b c f o i lo hi st : ME} {v x y r : PV} {op : Bop} {args l : List ME} {ss s1 s2 : List MS}
theorem we {oo : Option (PV × Hp)} (h : oo = some (v,H)) (q : Q v H) : S2 oo Q:=⟨_,_,h,q⟩
theorem zh {x : Nat} (h : L x = some v) (q : Q v H) : S2 (evE PP (n + 1) (.loc x) L H) Q:=⟨v,H,zr h,q⟩
theorem kJ {x y z : Int} (h : binI op x y = some z) (q : Q (.int z) H) : S2 (kA PP op (.int x) (.int y) H) Q:=⟨_,_,zr h,q⟩
theorem yc {x y : Int} (q : Q (.int (x + y)) H) : S2 (kA PP .Add (.int x) (.int y) H) Q:=kJ rfl q
theorem yB {x y : Int} (q : Q (.int (x - y)) H) : S2 (kA PP .Sub (.int x) (.int y) H) Q:=kJ rfl q
theorem yP {x y : Int} (h : x.natAbs < 2 ^ 64 ∨ y.natAbs < 2 ^ 64) (q : Q (.int (x * y)) H) : S2 (kA PP .Mult (.int x) (.int y) H) Q:=kJ (zA h) q
theorem yW {x y : Int} (h : y ≠ 0 ∧ y.natAbs < 2 ^ 1000) (q : Q (.int (x.fdiv y)) H) : S2 (kA PP .FloorDiv (.int x) (.int y) H) Q:=kJ (zA h) q
theorem yH {x y : Int} (h : y ≠ 0) (q : Q (.int (x.fmod y)) H) : S2 (kA PP .Mod (.int x) (.int y) H) Q:=kJ (zA h) q
theorem jH {x y : Int} (h : 0 ≤ y ∧ y ≤ 1000000 ∧ x.natAbs < 2 ^ 64) (q : Q (.int (x ^ y.toNat)) H) : S2 (kA PP .Pow (.int x) (.int y) H) Q:=kJ (zA h) q
theorem zbk {x y : Int} (h : 0 ≤ y ∧ y ≤ 1000000 ∧ x.natAbs < 2 ^ 64) (q : Q (.int (x * 2 ^ y.toNat)) H) : S2 (kA PP .LShift (.int x) (.int y) H) Q:=kJ (zA h) q
theorem zfu {x y : Int} (h : 0 ≤ y) (q : Q (.int (x.fdiv (2 ^ y.toNat))) H) : S2 (kA PP .RShift (.int x) (.int y) H) Q:=kJ (zA h) q
theorem zf7 {x y : Int} (q : Q (.int (Builtin.bitAnd x y)) H) : S2 (kA PP .BitAnd (.int x) (.int y) H) Q:=kJ rfl q
theorem ztj {x y : Int} (q : Q (.int (Builtin.bitXor x y)) H) : S2 (kA PP .BitXor (.int x) (.int y) H) Q:=kJ rfl q
theorem zY {T : Hp} {k : Nat} {ob : MObj} (h : T[k]? = some ob) : (H ++ T)[H.length + k]? = some ob:=by
 rw [List.getElem?_append_right (Nat.le_add_right _ _),Nat.add_sub_cancel_left];exact h
theorem yl {T : Hp} {k : Nat} {ob : MObj} (h : H[k]? = some ob) : (H ++ T)[k]? = some ob:=by
 rw [List.getElem?_append_left (List.getElem?_eq_some_iff.mp h).1];exact h
theorem zgu {T : Hp} {k : Nat} {ob : MObj} : (H ++ T).set (H.length + k) ob = H ++ T.set k ob:=by
 rw [List.set_append_right _ _ (Nat.le_add_right _ _),Nat.add_sub_cancel_left]
theorem yg {k j : Nat} {ob ob' : MObj} (h : H[k]? = some ob) (ne : j ≠ k) : (H.set j ob')[k]? = some ob:=by
 rw [List.getElem?_set_ne ne];exact h
theorem kI {k : Nat} {ob ob' : MObj} (h : H[k]? = some ob) : (H.set k ob')[k]? = some ob':=List.getElem?_set_self (List.getElem?_eq_some_iff.mp h).1
theorem zcn {i C d m : Nat} {es : List (Nat × PV)} (h1 : H[i]? = some (.inst C d)) (h2 : H[d]? = some (.ns es)) (h3 : xZ PP C m = true) (h4 : dictGet m es = some v) : getA PP (.loc i) m H = some v :=
 (zr (za3 h1)).trans ((wq h3).trans ((zr (zca h2)).trans h4))
theorem zqv {i C d m : Nat} {es : List (Nat × PV)} (h1 : H[i]? = some (.inst C d)) (h2 : H[d]? = some (.ns es)) (h3 : xZ PP C m = true) (h4 : es.length < 1000) : setA PP (.loc i) m v H = some (H.set d (.ns (dictSet m v es))) :=
 (zr (za3 h1)).trans ((wq h3).trans ((zr (zca h2)).trans (zA h4)))
theorem yh {x m i C d : Nat} {es : List (Nat × PV)} (hL : L x = some (.loc i)) (h1 : H[i]? = some (.inst C d)) (h2 : H[d]? = some (.ns es)) (h3 : xZ PP C m = true) (h4 : dictGet m es = some v) (q : Q v H) : S2 (evE PP (n + 2) (.attr (.loc x) m) L H) Q :=
 zh4 (zh hL ⟨v,zcn h1 h2 h3 h4,q⟩)
theorem vC {x m i C d : Nat} {es : List (Nat × PV)} (h : S2 (evE PP (n + 2) e L H) (SetAX n L QX ss x m i C d es)) :
  SX (execs PP (n + 4) (.assign (.attr (.loc x) m) e :: ss) L H) QX:=by
 refine jA (h.mono fun v H1 k=>?_)
 have e1 : evE PP (n + 1) (.loc x) L H1 = some (.loc i,H1):=zr k.1
 exact ⟨L,_,(zI e1).trans (zr (zqv k.2.1 k.2.2.1 k.2.2.2.1 k.2.2.2.2.1)),k.2.2.2.2.2⟩
theorem zuu {x m i C d j : Nat} {es : List (Nat × PV)} {l : List PV} (hL : L x = some (.loc i)) (h1 : H[i]? = some (.inst C d)) (h2 : H[d]? = some (.ns es)) (h3 : xZ PP C m = true) (h4 : dictGet m es = some (.loc j)) (h5 : H[j]? = some (.list l))
  (h : S2 (evE PP (n + 1) a L H) (PushQ Q j)) : S2 (evE PP (n + 3) (.meth (.attr (.loc x) m) 0 [a]) L H) Q:=by
 refine yw (yh hL h1 h2 h3 h4 ⟨rfl,h5,(by show (0 : Nat) ≠ 4;decide),za (h.mono fun v H2 ⟨l2,h6,h7,q⟩=>zi ⟨_,h6,rfl,_,_,?_,q⟩)⟩)
 exact zA h7
theorem zrq {i k : Nat} {es : List (Nat × PV)} (h : H[i]? = some (.dict es)) : jd .In (.str k) (.loc i) H = some (dictGet k es).isSome:=zr h
theorem xb {i k : Nat} {es : List (Nat × PV)} (h : H[i]? = some (.dict es)) : jd .NotIn (.str k) (.loc i) H = some (!(dictGet k es).isSome):=zr (zrq h)
theorem yA {i k : Nat} {es : List (Nat × PV)} (h : H[i]? = some (.dict es)) (g : dictGet k es = some v) : qr (.loc i) (.str k) H = some v:=(zr h).trans g
theorem kW {b : List MS} (h : SX (xV (evC PP n c) (execs PP n b) qK L H) (ThenX (n + 1) QX ss)) : SX (execs PP (n + 2) (.whl c b :: ss) L H) QX :=
 jJ h
theorem kY {k : Nat} {cnd : Loc → Hp → Option (Bool × Hp)} {body : Loc → Hp → Option (Fl × Loc × Hp)} (h : SB (cnd L H) (WEndQ L QX)) : SX (xV cnd body (k + 1) L H) QX:=by
 obtain ⟨t,H1,h1,rfl,q⟩:=h
 exact ⟨_,_,_,zI h1,q⟩
theorem zmi {k : Nat} {cnd : Loc → Hp → Option (Bool × Hp)} {body : Loc → Hp → Option (Fl × Loc × Hp)} (h : SB (cnd L H) fun t H1=>t = true ∧ SX (body L H1) fun f L1 H2=>f = .next ∧ SX (xV cnd body k L1 H2) QX) : SX (xV cnd body (k + 1) L H) QX:=by
 obtain ⟨t,H1,h1,rfl,f,L1,H2,h2,rfl,h⟩:=h
 exact sxb ⟨_,_,h1,sx3 ⟨_,_,_,h2,h⟩⟩
end Mine
namespace Mine
open PySem
variable {n : Nat} {L : Loc} {H H1 : Hp} {Q : PV → Hp → Prop} {e : ME}
theorem zbf {elt : Loc → Hp → Option (PV × Hp)} {cnd : Loc → Hp → Option (Bool × Hp)} {t : List Nat} {k : Nat} {H : Hp} {f : PV → PV} {p : PV → Bool} {I : Loc → Prop} :
  ∀ (l : List PV) (L : Loc) (acc : List PV),I L → acc.length + l.length ≤ lim → (∀ v ∈ l,∀ L,I L → ∃ L1,wu t v L = some L1 ∧ I L1 ∧ cnd L1 (H ++ jz k) = some (p v,H ++ jz k) ∧ (p v = true → elt L1 (H ++ jz k) = some (f v,H ++ jz k))) →
   vq elt cnd t H.length k l L (H ++ jz k) acc = some (.lst (acc ++ (l.filter p).map f),H):=by
 intro l
 induction l with
 | nil =>
  intro L acc hI hl h
  refine (zA ⟨List.length_append,hl⟩).trans ?_
  rw [List.take_left,List.filter_nil,List.map_nil,List.append_nil]
 | cons v r ih =>
  intro L acc hI hl h
  refine cp fun nq=>?_
  obtain ⟨L1,h1,h2,h3,h4⟩:=h v (List.mem_cons_self ..) L hI
  refine nq ?_
  refine (zr h1).trans ((zI h3).trans ?_)
  cases hp : p v with
  | true =>
   refine (zI (h4 hp)).trans ((zr (qO k H)).trans ((zA (Nat.le_trans (Nat.le_add_right _ _) hl)).trans ?_))
   rw [ih L1 (acc ++ [f v]) h2 (by rw [List.length_append,Nat.add_assoc,Nat.add_comm _ r.length];exact hl) fun u hu=>h u (List.mem_cons_of_mem _ hu),List.filter_cons_of_pos hp,List.append_assoc]
   rfl
  | false =>
   refine (zr (qO k H)).trans ?_
   rw [ih L1 acc h2 (Nat.le_trans (Nat.add_le_add_left (Nat.le_succ _) _) hl) fun u hu=>h u (List.mem_cons_of_mem _ hu),List.filter_cons_of_neg (by rw [hp];exact Bool.false_ne_true)]
theorem zpb {elt : ME} {t : List Nat} {k : Nat} {its ifs : List ME} (h : SL (yO PP n its L H) fun vs H1=>∃ l,y8 k vs H1 = some (.vals l) ∧ ∃ r H2,vq (evE PP n elt) (vp (evC PP n) ifs) t H1.length k l (noL t L) (H1 ++ jz k) [] = some (r,H2) ∧ Q r H2) :
  S2 (evE PP (n + 1) (.comp elt t k its ifs) L H) Q:=by
 refine cp fun nq=>?_
 obtain ⟨vs,H1,h1,l,h2,r,H2,h3,q⟩:=h
 refine nq ?_
 exact ⟨_,_,(zI h1).trans ((zr h2).trans h3),q⟩
noncomputable def Agree (t : Nat) (L0 L : Loc) : Prop:=∀ x,x ≠ t → L x = L0 x
theorem zmc (t : Nat) (L : Loc) : Agree t L (noL [t] L):=fun x hx=>by
 unfold noL
 have : List.contains [t] x = false:=by simp [hx]
 rw [this]
theorem v9 {t : Nat} {L0 L : Loc} {v : PV} (h : Agree t L0 L) : Agree t L0 (z5 L t v):=fun x hx=>by
 unfold z5
 rw [if_neg hx];exact h x hx
theorem zbv {t : Nat} {L : Loc} {v : PV} : z5 L t v t = some v:=if_pos rfl
theorem vn {elt : ME} {t k : Nat} {its ifs : List ME} (vals : List PV) (f : PV → PV) (p : PV → Bool) (hs : SL (yO PP n its L H) fun vs H1=>H1 = H ∧ y8 k vs H = some (.vals vals)) (hl : vals.length ≤ lim)
  (hc : ∀ v ∈ vals,∀ L1,L1 t = some v → Agree t L L1 → ∀ H1,SB (vp (evC PP n) ifs L1 H1) fun b H2=>b = p v ∧ H2 = H1)
  (he : ∀ v ∈ vals,p v = true → ∀ L1,L1 t = some v → Agree t L L1 → ∀ H1,S2 (evE PP n elt L1 H1) fun r H2=>r = f v ∧ H2 = H1) (q : Q (.lst ((vals.filter p).map f)) H) : S2 (evE PP (n + 1) (.comp elt [t] k its ifs) L H) Q:=by
 refine cp fun nq=>?_
 obtain ⟨vs,H1,h1,rfl,h2⟩:=hs
 refine nq ?_
 refine zpb ⟨vs,H1,h1,vals,h2,.lst ((vals.filter p).map f),H1,?_,q⟩
 refine zbf (I:=Agree t L) vals _ [] (zmc t L) (by simpa using hl) fun v hv L0 hA=>⟨_,rfl,v9 hA,?_,fun hp=>?_⟩
 ·refine cp fun nq=>?_
  obtain ⟨b,H2,e,rfl,rfl⟩:=hc v hv _ zbv (v9 hA) (H1 ++ jz k)
  refine nq ?_
  exact e
 ·refine cp fun nq=>?_
  obtain ⟨r,H2,e,rfl,rfl⟩:=he v hv hp _ zbv (v9 hA) (H1 ++ jz k)
  refine nq ?_
  exact e
noncomputable def Agree2 (a b : Nat) (L0 L : Loc) : Prop:=∀ x,x ≠ a → x ≠ b → L x = L0 x
theorem zcw {elt : ME} {t u k : Nat} {its ifs : List ME} {H2 : Hp} (htu : t ≠ u) (vals : List (PV × PV)) (f : PV × PV → PV) (p : PV × PV → Bool) (hs : SL (yO PP n its L H) fun vs H1=>H1 = H2 ∧ y8 k vs H2 = some (.vals (vals.map fun x=>.tup [x.1,x.2]))) (hl : vals.length ≤ lim)
  (hc : ∀ v ∈ vals,∀ L1,L1 t = some v.1 → L1 u = some v.2 → Agree2 t u L L1 → ∀ H1,SB (vp (evC PP n) ifs L1 H1) fun b H2=>b = p v ∧ H2 = H1)
  (he : ∀ v ∈ vals,p v = true → ∀ L1,L1 t = some v.1 → L1 u = some v.2 → Agree2 t u L L1 → ∀ H1,S2 (evE PP n elt L1 H1) fun r H2=>r = f v ∧ H2 = H1) (q : Q (.lst ((vals.filter p).map f)) H2) : S2 (evE PP (n + 1) (.comp elt [t,u] k its ifs) L H) Q:=by
 refine cp fun nq=>?_
 obtain ⟨vs,H1,h1,rfl,h2⟩:=hs
 refine nq ?_
 let un : PV → PV × PV:=fun v=>match v with | .tup [a,b]=>(a,b) | v=>(v,v)
 have hA2 : Agree2 t u L (noL [t,u] L):=fun x h1 h2=>by
  unfold noL
  have : List.contains [t,u] x = false:=by simp [h1,h2]
  rw [this]
 refine zpb ⟨vs,H1,h1,vals.map fun x=>.tup [x.1,x.2],h2,.lst ((vals.filter p).map f),H1,?_,q⟩
 have z:=zbf (elt:=evE PP n elt) (cnd:=vp (evC PP n) ifs) (t:=[t,u]) (k:=k) (H:=H1) (f:=fun v=>f (un v)) (p:=fun v=>p (un v)) (I:=Agree2 t u L) (vals.map fun x=>.tup [x.1,x.2]) (noL [t,u] L) [] hA2 (by simpa using hl) ?_
 ·rw [z,List.filter_map,List.map_map]
  rfl
 ·intro v hv L0 hA
  obtain ⟨x,hx,rfl⟩:=List.mem_map.mp hv
  have a1 : z5 (z5 L0 t x.1) u x.2 t = some x.1:=by unfold z5;rw [if_neg htu,if_pos rfl]
  have a2 : z5 (z5 L0 t x.1) u x.2 u = some x.2:=if_pos rfl
  have a3 : Agree2 t u L (z5 (z5 L0 t x.1) u x.2):=fun y h1 h2=>by unfold z5;rw [if_neg h2,if_neg h1];exact hA y h1 h2
  refine ⟨_,rfl,a3,?_,fun hp=>?_⟩
  ·refine cp fun nq=>?_
   obtain ⟨b,H2,e,rfl,rfl⟩:=hc x hx _ a1 a2 a3 (H1 ++ jz k)
   refine nq ?_
   exact e
  ·refine cp fun nq=>?_
   obtain ⟨r,H2,e,rfl,rfl⟩:=he x hx hp _ a1 a2 a3 (H1 ++ jz k)
   refine nq ?_
   exact e
theorem zli {α : Type} {body : Loc → Hp → Option (Fl × Loc × Hp)} {t : List Nat} {st : α → PV → α} {I : α → Loc → Hp → Prop} : ∀ (l : List PV) (a : α) (L : Loc) (H : Hp),I a L H →
  (∀ v ∈ l,∀ a L H,I a L H → ∃ L1 L2 H2,wu t v L = some L1 ∧ body L1 H = some (.next,L2,H2) ∧ I (st a v) L2 H2) → ∃ L2 H2,kQ body t l L H = some (.next,L2,H2) ∧ I (l.foldl st a) L2 H2
 | [],a,L,H,hI,h=>⟨L,H,rfl,hI⟩
 | v :: r,a,L,H,hI,h=>by
  refine cp fun nq=>?_
  obtain ⟨_,L2,H2,h1,h2,h3⟩:=h v (List.mem_cons_self ..) a L H hI
  obtain ⟨L3,H3,h4,h5⟩:=zli r (st a v) L2 H2 h3 fun u hu=>h u (List.mem_cons_of_mem _ hu)
  refine nq ?_
  exact ⟨L3,H3,(zr h1).trans ((zdd h2).trans h4),h5⟩
theorem jN {t : List Nat} {k : Nat} {its : List ME} {b ss : List MS} {QX : Fl → Loc → Hp → Prop} (h : SL (yO PP n its L H) (ForX n L QX ss t k b)) :
  SX (execs PP (n + 2) (.for t k its b :: ss) L H) QX:=by
 refine cp fun nq=>?_
 obtain ⟨vs,H1,h1,l,h2,f,L2,H2,h3,q⟩:=h
 refine nq ?_
 exact jJ ⟨f,L2,H2,(zI h1).trans ((zr h2).trans h3),q⟩
end Mine
namespace Mine
open PySem
variable {n : Nat} {L : Loc} {H H1 : Hp} {Q : PV → Hp → Prop} {QB : Bool → Hp → Prop} {QX : Fl → Loc → Hp → Prop} {e e1 e2 : ME} {ss : List MS}
theorem jw {body : Loc → Hp → Option (Fl × Loc × Hp)} {t : List Nat} (q : QX .next L H) : SX (kQ body t [] L H) QX:=⟨_,_,_,rfl,q⟩
theorem zV {body : Loc → Hp → Option (Fl × Loc × Hp)} {t : List Nat} {v : PV} {r : List PV} {L1 : Loc} (hb : wu t v L = some L1) (h : SX (body L1 H) (FvX QX body t r)) : SX (kQ body t (v :: r) L H) QX:=by
 refine cp fun nq=>?_
 obtain ⟨f,L2,H2,h1,q⟩:=h
 refine nq ?_
 refine sxn ⟨L1,hb,sx3 ⟨f,L2,H2,h1,?_⟩⟩
 cases f with
 | ret v=>exact kZ q
 | next=>exact q
 | cont=>exact q
theorem zsx {x : Nat} {a : Int} (hL : L x = some (.int a)) (h : S2 (evE PP n e L H) (AugX n L QX ss x a)) : SX (execs PP (n + 2) (.aug x e :: ss) L H) QX:=by
 refine cp fun nq=>?_
 obtain ⟨v,H1,h1,b,rfl,q⟩:=h
 refine nq ?_
 exact jJ ⟨.next,_,H1,(zr hL).trans ((zI h1).trans rfl),q⟩
theorem zdb (h : SB (evC PP (n + 4) e1 L H) (And2Q (n + 3) L QB e2)) : SB (evC PP (n + 6) (.bool true [e1,e2]) L H) QB:=by
 obtain ⟨u,H1,h1,q⟩:=h
 refine vW<|yq ⟨u,H1,h1,?_⟩
 cases u with
 | false=>exact q
 | true =>
  obtain ⟨u,H2,h2,q⟩:=q
  refine yq ⟨u,H2,h2,?_⟩
  cases u with
  | false=>exact q
  | true=>exact vU q
theorem zj8 (h : SB (evC PP (n + 4) e1 L H) (Or2Q (n + 3) L QB e2)) : SB (evC PP (n + 6) (.bool false [e1,e2]) L H) QB:=by
 obtain ⟨u,H1,h1,q⟩:=h
 refine vW<|yq ⟨u,H1,h1,?_⟩
 cases u with
 | true=>exact q
 | false =>
  obtain ⟨u,H2,h2,q⟩:=q
  refine yq ⟨u,H2,h2,?_⟩
  cases u with
  | true=>exact q
  | false=>exact vU q
theorem zh5 (h : S2 (evE PP (n + 2) e1 L H) fun v H1=>∃ u,v = .bool u ∧ match u with | false=>Q (.bool false) H1 | true=>S2 (evE PP (n + 1) e2 L H1) fun w H2=>∃ u,w = .bool u ∧ Q (.bool u) H2) : S2 (evE PP (n + 4) (.bool true [e1,e2]) L H) Q:=by
 obtain ⟨v,H1,h1,u,rfl,q⟩:=h
 cases u with
 | false=>exact ⟨_,_,(zr h1).trans rfl,q⟩
 | true =>
  obtain ⟨w,H2,h2,u,rfl,q⟩:=q
  exact ⟨_,_,(zr h1).trans ((zr h2).trans rfl),q⟩
theorem e_or2 (h : S2 (evE PP (n + 2) e1 L H) fun v H1=>∃ u,v = .bool u ∧ match u with | true=>Q (.bool true) H1 | false=>S2 (evE PP (n + 1) e2 L H1) fun w H2=>∃ u,w = .bool u ∧ Q (.bool u) H2) : S2 (evE PP (n + 4) (.bool false [e1,e2]) L H) Q:=by
 obtain ⟨v,H1,h1,u,rfl,q⟩:=h
 cases u with
 | true=>exact ⟨_,_,(zr h1).trans rfl,q⟩
 | false =>
  obtain ⟨w,H2,h2,u,rfl,q⟩:=q
  exact ⟨_,_,(zr h1).trans ((zr h2).trans rfl),q⟩
theorem zpc {op1 op2 : Cop} {a b c : ME} (h : S2 (evE PP n a L H) fun x H1=>S2 (evE PP n b L H1) fun y H2=>∃ u,jd op1 x y H2 = some u ∧ match u with | false=>Q (.bool false) H2 | true=>S2 (evE PP n c L H2) fun z H3=>∃ r,jd op2 y z H3 = some r ∧ Q (.bool r) H3) : S2 (evE PP (n + 1) (.cmp2 op1 op2 a b c) L H) Q:=by
 refine cp fun nq=>?_
 obtain ⟨x,H1,h1,y,H2,h2,u,h3,q⟩:=h
 refine nq ?_
 refine s2b ⟨_,_,h1,s2b ⟨_,_,h2,s2n ⟨_,h3,?_⟩⟩⟩
 cases u with
 | false=>exact jk q
 | true =>
  refine cp fun nq=>?_
  obtain ⟨z,H3,h4,r,h5,q⟩:=q
  refine nq ?_
  exact s2b ⟨_,_,h4,s2n ⟨_,h5,jk q⟩⟩
theorem zoz {body : Loc → Hp → Option (Fl × Loc × Hp)} {t : List Nat} {l n i : Nat} {xs : List PV} (h : H[l]? = some (.list xs)) (hi : xs[i]? = none) (q : QX .next L H) : SX (zco body t l (n + 1) i L H) QX:=by
 refine sxn ⟨_,yv h,?_⟩
 rw [hi]
 exact kZ q
theorem zoy {body : Loc → Hp → Option (Fl × Loc × Hp)} {t : List Nat} {l n i : Nat} {xs : List PV} {v : PV} {L1 : Loc} (h : H[l]? = some (.list xs)) (hi : xs[i]? = some v) (hb : wu t v L = some L1)
  (k : SX (body L1 H) (FtX n QX body t l i)) : SX (zco body t l (n + 1) i L H) QX:=by
 refine cp fun nq=>?_
 obtain ⟨f,L2,H2,h1,q⟩:=k
 refine nq ?_
 refine sxn ⟨_,yv h,?_⟩
 rw [hi]
 refine sxn ⟨L1,hb,sx3 ⟨f,L2,H2,h1,?_⟩⟩
 cases f with
 | ret v=>exact kZ q
 | next=>exact q
 | cont=>exact q
theorem zme {t : List Nat} {k : Nat} {its : List ME} {b : List MS} (h : SL (yO PP n its L H) (TrkX n L QX ss t k b)) :
  SX (execs PP (n + 2) (.for t k its b :: ss) L H) QX:=by
 refine cp fun nq=>?_
 obtain ⟨vs,H1,h1,l,h2,f,L2,H2,h3,q⟩:=h
 refine nq ?_
 exact jJ ⟨f,L2,H2,(zI h1).trans ((zr h2).trans h3),q⟩
theorem zjo {k m : Nat} (h : k < m) (hm : m ≤ 1000) : zlg m (k : Int) = some k:=zA ⟨Int.natCast_nonneg k,Int.ofNat_lt.mpr h,Nat.le_trans hm (by decide)⟩
theorem vc {l : List PV} {k : Nat} {v : PV} (h : l[k]? = some v) (hl : l.length ≤ 1000) : xj l (.int k) = some v:=(zr (zjo (List.getElem?_eq_some_iff.mp h).1 hl)).trans h
theorem len_list {i : Nat} {l : List PV} (h : H[i]? = some (.list l)) : lenV (.loc i) H = some l.length:=zr h
theorem zeu {i k : Nat} {es : List (Nat × PV)} {v : PV} (h : dictGet k es = some v) : zer 3 i (.dict es) [.str k] H = some (v,H):=congrArg (fun o : Option PV=>some (o.getD .none,H)) h
theorem zi7 {i : Nat} {l : List PV} (h : H[i]? = some (.list l)) : y8 0 [.loc i] H = some (.trk i):=zr (yv h)
theorem zuo {i : Nat} {l : List PV} (h : H[i]? = some (.list l)) (hl : l.length ≤ 1000) : zfn PP 6 (.loc i) H = some (.tup l,H):=(zr (yv h)).trans (zA hl)
end Mine
namespace Mine
open PySem
theorem lt1 {P : Nat → Prop} (h0 : P 0) : ∀ k,k < 1 → P k
 | 0,_=>h0
 | _ + 1,h=>absurd (Nat.lt_of_succ_lt_succ h) (Nat.not_lt_zero _)
theorem ltS {P : Nat → Prop} {n : Nat} (h0 : P 0) (h : ∀ k,k < n → P (k + 1)) : ∀ k,k < n + 1 → P k
 | 0,_=>h0
 | k + 1,hk=>h k (Nat.lt_of_succ_lt_succ hk)
theorem lt2 {P : Nat → Prop} (h0 : P 0) (h1 : P 1) : ∀ k,k < 2 → P k:=ltS h0 (lt1 h1)
theorem lt3 {P : Nat → Prop} (h0 : P 0) (h1 : P 1) (h2 : P 2) : ∀ k,k < 3 → P k:=ltS h0 (lt2 h1 h2)
theorem lt4 {P : Nat → Prop} (h0 : P 0) (h1 : P 1) (h2 : P 2) (h3 : P 3) : ∀ k,k < 4 → P k:=ltS h0 (lt3 h1 h2 h3)
theorem lt5 {P : Nat → Prop} (h0 : P 0) (h1 : P 1) (h2 : P 2) (h3 : P 3) (h4 : P 4) : ∀ k,k < 5 → P k:=ltS h0 (lt4 h1 h2 h3 h4)
theorem zrm {α : Type} (d : α) (l : List α) : ∃ f : Nat → α,l = (List.range l.length).map f:=⟨fun i=>(l[i]?).getD d,List.ext_getElem? fun i=>by
 rw [List.getElem?_map]
 by_cases h : i < l.length
 ·rw [List.getElem?_range h];show l[i]? = some ((l[i]?).getD d);rw [List.getElem?_eq_getElem h];rfl
 ·rw [List.getElem?_eq_none (Nat.le_of_not_lt h),List.getElem?_eq_none (by rw [List.length_range];exact Nat.le_of_not_lt h)];rfl⟩
theorem qd {α : Type} {P : List α → Prop} (d : α) {n : Nat} (h : ∀ f : Nat → α,P ((List.range n).map f)) (l : List α) (e : l.length = n) : P l:=by
 obtain ⟨f,hf⟩:=zrm d l
 rw [hf,e];exact h f
theorem zj4 (n : Nat) : n ≤ 8 * ((n + 7) / 8):=by
 have:=Nat.lt_mul_div_succ (n + 7) (show 0 < 8 by decide)
 rw [Nat.mul_succ] at this
 exact Nat.le_of_lt_succ (Nat.lt_of_add_lt_add_right (n:=7) this)
theorem yz {α : Type} {d : List α} {a k : Nat} (h : a + k ≤ d.length) : ((d.take (a + k)).drop a).length = k:=by rw [List.length_drop,List.length_take_of_le h,Nat.add_sub_cancel_left]
noncomputable def zw (l : List UInt8) : Nat:=l.foldl (fun a o=>a * 256 + o.toNat) 0
noncomputable def zK (n : Nat) : Nat → List UInt8
 | 0=>[]
 | s + 1=>UInt8.ofNat (n / 256 ^ s) :: zK n s
theorem zz (n : Nat) : ∀ s,(zK n s).length = s
 | 0=>rfl
 | s + 1=>by rw [zK,List.length_cons,zz n s]
theorem wI : ∀ (l : List UInt8) (a : Nat),l.foldl (fun a o=>a * 256 + o.toNat) a = a * 256 ^ l.length + zw l
 | [],a=>by simp [zw]
 | x :: r,a=>by
  unfold zw
  rw [List.foldl_cons,List.foldl_cons,wI r (a * 256 + x.toNat),wI r (0 * 256 + x.toNat),List.length_cons,Nat.pow_succ,Nat.zero_mul,Nat.zero_add,Nat.add_mul,Nat.mul_assoc,Nat.mul_comm 256,Nat.add_assoc]
theorem jR (x : UInt8) (r : List UInt8) : zw (x :: r) = x.toNat * 256 ^ r.length + zw r:=by
 unfold zw
 rw [List.foldl_cons,wI,Nat.zero_mul,Nat.zero_add];rfl
theorem jm : ∀ l : List UInt8,zw l < 256 ^ l.length
 | []=>by decide
 | x :: r=>by
  have h:=jm r
  have hx : x.toNat ≤ 255:=Nat.le_of_lt_succ (UInt8.toNat_lt x)
  rw [jR,List.length_cons,Nat.pow_succ]
  have:=Nat.mul_le_mul_right (256 ^ r.length) hx
  lia
theorem zau (n : Nat) : ∀ s,zw (zK n s) = n % 256 ^ s
 | 0=>by simp [zK,zw,Nat.mod_one]
 | s + 1=>by
  rw [zK,jR,zz,zau n s]
  have : (UInt8.ofNat (n / 256 ^ s)).toNat = n / 256 ^ s % 256:=UInt8.toNat_ofNat
  rw [this,Nat.pow_succ,Nat.mod_mul,Nat.add_comm,Nat.mul_comm]
theorem zjj {n m : Nat} : ∀ {s},n % 256 ^ s = m % 256 ^ s → zK n s = zK m s
 | 0,_=>rfl
 | s + 1,h=>by
  have h1 : n % 256 ^ s = m % 256 ^ s:=by
   have:=congrArg (· % 256 ^ s) h
   simp only [Nat.pow_succ] at this
   rwa [Nat.mod_mul_right_mod,Nat.mod_mul_right_mod] at this
  have h2 : n / 256 ^ s % 256 = m / 256 ^ s % 256:=by
   rw [← Nat.mod_mul_right_div_self,← Nat.mod_mul_right_div_self,← Nat.pow_succ,h]
  rw [zK,zK,zjj h1]
  congr 1
  apply UInt8.toNat_inj.mp
  rw [UInt8.toNat_ofNat',UInt8.toNat_ofNat']
  exact h2
theorem zas : ∀ l : List UInt8,zK (zw l) l.length = l
 | []=>rfl
 | x :: r=>by
  rw [List.length_cons,zK]
  have h:=jm r
  have e1 : zw (x :: r) / 256 ^ r.length = x.toNat:=by
   rw [jR,Nat.add_comm,Nat.add_mul_div_right _ _ (Nat.pow_pos (by decide)),Nat.div_eq_of_lt h,Nat.zero_add]
  have e2 : zK (zw (x :: r)) r.length = r:=by
   rw [zjj (m:=zw r),zas r]
   rw [jR,Nat.add_comm,Nat.add_mul_mod_self_right]
  rw [e1,e2,UInt8.ofNat_toNat]
theorem ku (a b : Nat) : Builtin.bitAnd (a : Int) (b : Int) = ((a &&& b : Nat) : Int):=by
 unfold Builtin.bitAnd
 rw [decide_eq_true (Int.natCast_nonneg a),decide_eq_true (Int.natCast_nonneg b)]
 rfl
theorem zcb (a : Int) : Builtin.bitNot (Builtin.bitNot a) = a:=by unfold Builtin.bitNot;lia
theorem znd (a b : Nat) : Builtin.bitOr (a : Int) (b : Int) = ((a ||| b : Nat) : Int):=by
 have h : ∀ c : Nat,decide (0 ≤ Builtin.bitNot (c : Int)) = false:=fun c=>decide_eq_false (by unfold Builtin.bitNot;lia)
 unfold Builtin.bitOr Builtin.bitAnd
 rw [h,h]
 rw [zcb,zcb,zcb]
 rfl
theorem zue : ∀ n a b : Nat,a < n → (a ||| b) = (a ^^^ b) + (a &&& b):=by
 intro n
 induction n with
 | zero=>intro a b h;lia
 | succ n ih =>
  intro a b h
  by_cases ha : a = 0
  ·subst ha;simp
  ·have i:=ih (a / 2) (b / 2) (by lia)
   have o:=Nat.div_add_mod (a ||| b) 2
   have x:=Nat.div_add_mod (a ^^^ b) 2
   have d:=Nat.div_add_mod (a &&& b) 2
   rw [Nat.or_div_two] at o
   rw [Nat.xor_div_two] at x
   rw [Nat.and_div_two] at d
   have m1 : (a ||| b) % 2 = (a ^^^ b) % 2 + (a &&& b) % 2:=by
    have ea:=Nat.mod_two_eq_zero_or_one a
    have eb:=Nat.mod_two_eq_zero_or_one b
    have p1 : (a ||| b) % 2 = (a % 2 ||| b % 2):=by simp [Nat.or_mod_two_pow (n:=1)]
    have p2 : (a ^^^ b) % 2 = (a % 2 ^^^ b % 2):=by simp [Nat.xor_mod_two_pow (n:=1)]
    have p3 : (a &&& b) % 2 = (a % 2 &&& b % 2):=by simp [Nat.and_mod_two_pow (n:=1)]
    rw [p1,p2,p3]
    rcases ea with ea | ea <;> rcases eb with eb | eb <;> rw [ea,eb] <;> rfl
   lia
theorem zi2 (a b : Nat) : Builtin.bitXor (a : Int) (b : Int) = ((a ^^^ b : Nat) : Int):=by
 unfold Builtin.bitXor
 rw [znd,ku,zue (a + 1) a b (Nat.lt_succ_self a)]
 exact by simp
end Mine
namespace Mine
open PySem
variable {H : Hp} {Q : PV → Hp → Prop}
theorem zkt (m : Nat) (a b : Int) (ha : 0 ≤ b - a) (hb : 0 ≤ b ∧ b ≤ 1000000) (hc : b - a ≤ 1000000) (q : Q (.int (1 * 2 ^ b.toNat - 1 * 2 ^ (b - a).toNat)) H) : S2 (zs PP (m + 20) (.fn 28) [.int a,.int b] H) Q:=by
 exact zD rfl rfl<|zt<|zo<|zo<|zc rfl<|zc rfl<|zbk ⟨hb.1,hb.2,by decide⟩<|zo<|zc rfl<|zo<|zc rfl<|zc rfl<|yB<|zbk ⟨ha,hc,by decide⟩<|yB q
theorem wd (m : Nat) (b : Nat) (q : Q (.str b) H) : S2 (zs PP (m + 12) (.fn 213) [.str 70,.str b] H) Q:=we (by kernel_rfl) q
theorem wZ (m : Nat) (b : Nat) (q : Q (.str 86) H) : S2 (zs PP (m + 12) (.fn 213) [.str 86,.str b] H) Q:=we (by kernel_rfl) q
theorem zja (m : Nat) (a : Int) (q : Q (.int ((a + 3).fdiv 4)) H) : S2 (zs PP (m + 12) (.fn 248) [.int a] H) Q:=we (by kernel_rfl) q
theorem zku (m : Nat) (q : Q .none H) : S2 (zs PP (m + 12) (.fn 508) [.bool true] H) Q:=we (by kernel_rfl) q
theorem zg4 (m : Nat) (q : Q (.tup [.str 225,.str 226]) H) : S2 (zs PP (m + 12) (.fn 508) [.bool false] H) Q:=we (by kernel_rfl) q
set_option genCtorIdx false in
inductive Fd where
 | mark | iif | pay (bits first : Nat)
noncomputable def Fd.pv : Fd → PV
 | .mark=>.tup [.str 111,.str 155,.int 32,.str 70,.str 155]
 | .iif=>.tup [.str 111,.str 270,.int 16,.str 70,.str 162]
 | .pay b f=>.tup [.str 66,.str 270,.int b,.str 86,.tup [.str 32,.str 174,.int f]]
noncomputable def Fd.bits : Fd → Nat
 | .mark=>32
 | .iif=>16
 | .pay b _=>b
noncomputable def Fd.sz : Fd → Nat
 | .mark=>4
 | .iif=>2
 | .pay b f=>(f % 8 + b + 7) / 8
noncomputable def Fd.ord : Fd → Nat
 | .pay _ _=>86
 | _=>70
set_option genCtorIdx false in
inductive Ex where
 | fld | shr (k : Nat) | mask (k : Nat) | xor (k : Nat)
noncomputable def x7 : PV:=.tup [.str 63,.str 271]
noncomputable def Ex.pv : Ex → PV
 | .fld=>x7
 | .shr k=>.tup [.str 59,x7,.int k]
 | .mask k=>.tup [.str 55,x7,.int k]
 | .xor k=>.tup [.str 57,x7,.int k]
theorem j0 (m : Nat) (q : Q (.bool false) H) : S2 (zs PP (m + 20) (.fn 140) [x7] H) Q:=we (by kernel_rfl) q
theorem zd6 (m t : Nat) (x : PV) (ht : t = 55 ∨ t = 57 ∨ t = 59) (q : Q (.bool true) H) : S2 (zs PP (m + 20) (.fn 140) [.tup [.str t,x7,x]] H) Q:=by
 rcases ht with rfl | rfl | rfl <;> exact we (by kernel_rfl) q
theorem wG (m fl : Nat) (fv : PV) (h : H[fl]? = some (.dict [(271,fv)])) (q : Q fv H) : S2 (zs PP (m + 20) (.fn 133) [.loc fl,.str 271] H) Q:=by
 refine zD rfl rfl (zu (zE (zc rfl (zc rfl ⟨_,xb h,?_⟩))))
 exact zf (zt (zZ (zc rfl (zc rfl ⟨_,yA h rfl,q⟩))))
theorem wc (m fl w : Nat) (fv : PV) (h : H[fl]? = some (.dict [(271,fv)])) (q : Q fv H) : S2 (zs PP (m + 40) (.fn 147) [.loc fl,x7,.str w] H) Q:=by
 refine zD rfl rfl (kW (kY (c_e rfl (ze rfl (zn rfl (j0 _ ⟨_,rfl,rfl,?_⟩))))))
 refine zu (zE (zc rfl (zc rfl ⟨_,rfl,zf (zu (zE (zc rfl (zc rfl ⟨_,rfl,zf ?_⟩))))⟩)))
 exact zt (ze rfl (zn rfl (wG _ _ _ h q)))
theorem zbw (m fl w t : Nat) (fv x : PV) (ht : t = 55 ∨ t = 57 ∨ t = 59) (h : H[fl]? = some (.dict [(271,fv)])) (q : Q fv H) : S2 (zs PP (m + 40) (.fn 147) [.loc fl,.tup [.str t,x7,x],.str w] H) Q:=by
 refine zD rfl rfl (kW (zmi (c_e rfl (ze rfl (zn rfl (zd6 _ _ _ ht ⟨_,rfl,rfl,?_⟩))))))
 refine zj (zc rfl (zf ⟨rfl,kY (c_e rfl (ze rfl (zn rfl (j0 _ ⟨_,rfl,rfl,?_⟩))))⟩))
 refine zu (zE (zc rfl (zc rfl ⟨_,rfl,zf (zu (zE (zc rfl (zc rfl ⟨_,rfl,zf ?_⟩))))⟩)))
 exact zt (ze rfl (zn rfl (wG _ _ _ h q)))
theorem zd7 (m fl w : Nat) (fv : PV) (e : Ex) (h : H[fl]? = some (.dict [(271,fv)])) (q : Q fv H) : S2 (zs PP (m + 40) (.fn 147) [.loc fl,e.pv,.str w] H) Q:=by
 cases e with
 | fld=>exact wc _ _ _ _ h q
 | shr k=>exact zbw _ _ _ _ _ _ (.inr (.inr rfl)) h q
 | mask k=>exact zbw _ _ _ _ _ _ (.inl rfl) h q
 | xor k=>exact zbw _ _ _ _ _ _ (.inr (.inl rfl)) h q
theorem j6 (m fl : Nat) (f : Fd) (e : Ex) (h : H[fl]? = some (.dict [(271,f.pv)])) (q : Q (.int f.sz) H) : S2 (zs PP (m + 60) (.fn 154) [.loc fl,e.pv] H) Q:=by
 refine zD rfl rfl (zj (ze rfl (zn rfl (zd7 _ _ _ _ e h ?_))))
 cases f with
 | mark=>exact zu (zx rfl (zf (zj (zc rfl (zt (zc rfl q))))))
 | iif=>exact zu (zx rfl (zf (zj (zc rfl (zt (zc rfl q))))))
 | pay b f =>
  refine zu<|zx rfl<|zf<|zj<|jx<|zx rfl<|zo<|zc rfl<|zc rfl<|yH (by decide)<|zt<|zo<|zo<|zo<|zc rfl<|zc rfl<|yc<|zc rfl<|yc<|zc rfl<|yW (by decide) ?_
  have e : (((f : Int).fmod 8 + (b : Int)) + 7).fdiv 8 = ((f % 8 + b + 7) / 8 : Nat):=by
   rw [Int.fmod_eq_emod_of_nonneg _ (by decide),Int.fdiv_eq_ediv_of_nonneg _ (by decide)]
   exact rfl
  show Q (.int ((((f : Int).fmod 8 + (b : Int)) + 7).fdiv 8)) H
  rw [e]
  exact q
theorem k9 (m fl : Nat) (f : Fd) (e : Ex) (h : H[fl]? = some (.dict [(271,f.pv)])) (q : Q (.str f.ord) H) : S2 (zs PP (m + 60) (.fn 168) [.loc fl,e.pv] H) Q:=by
 refine zD rfl rfl (zj (ze rfl (zn rfl (zd7 _ _ _ _ e h ?_))))
 cases f with
 | mark=>exact zt (zc rfl q)
 | iif=>exact zt (zc rfl q)
 | pay b f=>exact zt (zc rfl q)
end Mine
namespace Mine
open PySem
variable {n : Nat} {L : Loc} {H : Hp} {Q : PV → Hp → Prop}
theorem kx {k : Nat} {v r : PV} {H1 : Hp} (h : zfn PP k v H = some (r,H1)) (q : Q r H1) : S2 (zs PP (n + 3) (.bi k) [v] H) Q:=⟨_,_,h,q⟩
theorem zeo (n : Nat) : ∀ (l : List UInt8) (a j : Nat) (L : Loc) (H : Hp),L 76 = some (.int a) → a < 256 ^ j → j + l.length ≤ 8 →
  ∃ L2,kQ (fun L H=>execs PP (n + 12) [.assign (.name 76) (.bin .BitOr (.bin .LShift (.loc 76) (.cint 8)) (.loc 77))] L H) [77] (l.map fun x=>.int x.toNat) L H = some (.next,L2,H) ∧ L2 76 = some (.int (l.foldl (fun a o=>a * 256 + o.toNat) a : Nat))
 | [],a,j,L,H,hL,ha,hj=>⟨L,rfl,hL⟩
 | x :: r,a,j,L,H,hL,ha,hj=>by
  have hx : x.toNat < 256:=UInt8.toNat_lt x
  have h64 : a < 2 ^ 64:=Nat.lt_of_lt_of_le ha (Nat.le_trans (Nat.pow_le_pow_right (by decide) (show j ≤ 8 by simp only [List.length_cons] at hj;lia)) (by decide))
  have hb : SX (execs PP (n + 12) [.assign (.name 76) (.bin .BitOr (.bin .LShift (.loc 76) (.cint 8)) (.loc 77))] (z5 L 77 (.int x.toNat)) H) fun f L2 H2=>f = .next ∧ H2 = H ∧ L2 76 = some (.int (a * 256 + x.toNat : Nat)):=by
   refine zj<|zo<|zo<|zh (v:=.int a) hL<|zc rfl<|zbk ⟨by decide,by decide,by simpa using h64⟩<|zc rfl ?_
   refine ⟨.int (a * 256 + x.toNat : Nat),H,?_,zf ⟨rfl,rfl,zbv⟩⟩
   show some (PV.int (Builtin.bitOr ((a : Int) * 2 ^ (8 : Int).toNat) (x.toNat : Int)),H) = _
   have e1 : (a : Int) * 2 ^ (8 : Int).toNat = ((a * 256 : Nat) : Int):=by rw [Int.natCast_mul];rfl
   rw [e1,znd]
   have e2 : a * 256 ||| x.toNat = a * 256 + x.toNat:=by
    have:=Nat.two_pow_add_eq_or_of_lt (i:=8) (b:=x.toNat) hx a
    rw [Nat.mul_comm] at this
    exact this.symm
   rw [e2]
  refine cp fun nq=>?_
  obtain ⟨f,L2,H2,h1,rfl,rfl,h2⟩:=hb
  obtain ⟨L3,h3,h4⟩:=zeo n r (a * 256 + x.toNat) (j + 1) L2 H2 h2 (by rw [Nat.pow_succ];lia) (by simp only [List.length_cons] at hj;lia)
  refine nq ?_
  exact ⟨L3,(zdd h1).trans h3,h4⟩
theorem yj (m : Nat) (l : List UInt8) (h : l.length ≤ 8) (q : Q (.int (zw l)) H) : S2 (zs PP (m + 30) (.fn 182) [.bytes l] H) Q:=by
 refine zD rfl rfl<|zj<|zc rfl<|jN<|zn rfl ⟨_,rfl,?_⟩
 refine cp fun nq=>?_
 obtain ⟨L2,h1,h2⟩:=zeo (m + 12) l 0 0 (z5 (z5 (fun uu=>none) 75 (.bytes l)) 76 (.int 0)) H rfl (by decide) (by exact zv7 h rfl)
 refine nq ?_
 refine ⟨_,_,_,h1,zt<|zh h2 q⟩
theorem w0 (x : Nat) : ∀ s,(List.range s).map (fun p=>UInt8.ofNat (x / 256 ^ (s - 1 - p))) = zK x s
 | 0=>rfl
 | s + 1=>by
  rw [List.range_succ_eq_map,List.map_cons,List.map_map,zK,← w0 x s]
  have e : (List.range s).map ((fun p=>UInt8.ofNat (x / 256 ^ (s + 1 - 1 - p))) ∘ Nat.succ) = (List.range s).map (fun p=>UInt8.ofNat (x / 256 ^ (s - 1 - p))):=List.map_congr_left fun p uu=>by
   show UInt8.ofNat (x / 256 ^ (s + 1 - 1 - (p + 1))) = _
   rw [show s + 1 - 1 - (p + 1) = s - 1 - p by lia]
  rw [e];rfl
theorem qm {α : Type} (f : α → Nat) : ∀ (l : List α),(∀ x ∈ l,f x < 256) → xI (l.map fun x=>.int (f x)) = some (l.map fun x=>UInt8.ofNat (f x))
 | [],_=>rfl
 | x :: r,h=>by
  exact (zA ⟨Int.natCast_nonneg _,Int.ofNat_lt.mpr (h x (List.mem_cons_self ..))⟩).trans (zr (qm f r fun y hy=>h y (List.mem_cons_of_mem _ hy)))
theorem zj9 {e : ME} {QB : Bool → Hp → Prop} {k : Bool} {l : List ME} (h : SB (evC PP n e L H) fun t H1=>t = k ∧ SB (zhz PP n k l L H1) QB) : SB (zhz PP (n + 1) k (e :: l) L H) QB:=by
 obtain ⟨t,H1,h1,rfl,q⟩:=h
 refine yq ⟨t,H1,h1,?_⟩
 cases t <;> exact q
theorem jc (a b : Nat) : (a : Int).fdiv (b : Int) = ((a / b : Nat) : Int):=by
 rw [Int.fdiv_eq_ediv_of_nonneg _ (Int.natCast_nonneg _)];rfl
theorem yb (a b : Nat) : (a : Int).fmod (b : Int) = ((a % b : Nat) : Int):=by
 rw [Int.fmod_eq_emod_of_nonneg _ (Int.natCast_nonneg _)];rfl
theorem ya (k : Nat) : (2 : Int) ^ k = ((2 ^ k : Nat) : Int):=by rw [Int.natCast_pow];rfl
theorem k8 (a k : Nat) : (a : Int).fdiv (2 ^ k) = ((a / 2 ^ k : Nat) : Int):=by rw [ya,jc]
theorem zrc (x s p : Nat) (hp : p < s) : Builtin.bitAnd ((x : Int).fdiv (2 ^ (8 * ((s : Int) - 1 - (p : Int))).toNat)) 255 = ((x / 256 ^ (s - 1 - p) % 256 : Nat) : Int):=by
 have e : (8 * ((s : Int) - 1 - (p : Int))).toNat = 8 * (s - 1 - p):=by lia
 rw [e,k8,Nat.pow_mul]
 have:=ku (x / (2 ^ 8) ^ (s - 1 - p)) 255
 rw [show ((255 : Nat) : Int) = 255 from rfl] at this
 rw [this,Nat.and_two_pow_sub_one_eq_mod _ 8]
theorem qB (m : Nat) (x s : Nat) (hs : s ≤ 8) (hx : x < 256 ^ s) (q : Q (.bytes (zK x s)) H) : S2 (zs PP (m + 40) (.fn 187) [.int x,.int s] H) Q:=by
 have h0 : (x : Int).fdiv (2 ^ (8 * (s : Int)).toNat) = 0:=by
  rw [show (8 * (s : Int)).toNat = 8 * s by exact rfl,k8,Nat.pow_mul,Nat.div_eq_of_lt hx];rfl
 refine zD rfl rfl<|zu<|vW<|zj9<|zE<|zc rfl<|zc rfl ⟨_,rfl,decide_eq_false (by exact zc1 _),?_⟩
 refine zj9<|zE<|zo<|zc rfl<|zo<|zc rfl<|zc rfl<|yP (.inl (by decide))<|zfu (by exact Int.natCast_nonneg _)<|zc rfl ⟨false,by rw [h0];rfl,rfl,vU<|zf<|zt<|ze rfl<|za ?_⟩
 refine vn (z7 s fun i=>(i : Int)) (fun v=>match v with | .int p=>.int (Builtin.bitAnd ((x : Int).fdiv (2 ^ (8 * ((s : Int) - 1 - p)).toNat)) 255) | v=>v) (fun uu=>true) (zn rfl ⟨rfl,?_⟩) (by simp [z7,lim];exact zu2 hs rfl)
  (fun v hv L1 h1 h2 H1=>⟨true,H1,rfl,rfl,rfl⟩) (fun v hv uu L1 h1 h2 H1=>?_) (zi<|kx ?_ q)
 ·exact (zr (zA (by exact ⟨zc8 hs rfl,zc9 _⟩))).trans rfl
 ·obtain ⟨p,hp,rfl⟩:=List.mem_map.mp hv
  have hp:=List.mem_range.mp hp
  exact zo<|zo<|zh (h2 76 (by decide))<|zo<|zc rfl<|zo<|zo<|zh (h2 13 (by decide))<|zc rfl<|yB<|zh h1<|yB<|yP (.inl (by decide))<|zfu (by show 0 ≤ 8 * ((s : Int) - 1 - (p : Int));lia)<|zc rfl<|zf7 ⟨rfl,rfl⟩
 ·have e : ((z7 s fun i=>(i : Int)).filter fun uu=>true).map (fun v=>match v with | .int p=>PV.int (Builtin.bitAnd ((x : Int).fdiv (2 ^ (8 * ((s : Int) - 1 - p)).toNat)) 255) | v=>v) = (List.range s).map fun p=>.int (x / 256 ^ (s - 1 - p) % 256 : Nat):=by
   rw [List.filter_eq_self.mpr fun uu uu=>rfl]
   unfold z7
   rw [List.map_map]
   refine List.map_congr_left fun p hp=>?_
   show PV.int (Builtin.bitAnd ((x : Int).fdiv (2 ^ (8 * ((s : Int) - 1 - (p : Int))).toNat)) 255) = _
   rw [zrc x s p (List.mem_range.mp hp)]
  have e2 : (List.range s).map (fun p=>UInt8.ofNat (x / 256 ^ (s - 1 - p) % 256)) = zK x s:=by
   rw [← w0]
   refine List.map_congr_left fun p uu=>UInt8.toNat_inj.mp ?_
   rw [UInt8.toNat_ofNat',UInt8.toNat_ofNat']
   exact Nat.mod_mod _ _
  rw [e]
  exact zr ((zr ((qm (fun p=>x / 256 ^ (s - 1 - p) % 256) _ fun p uu=>Nat.mod_lt _ (by decide)).trans (congrArg some e2))).trans (zA (by rw [zz];exact zu2 hs rfl)))
end Mine
namespace Mine
open PySem
variable {n : Nat} {L : Loc} {H : Hp} {Q : PV → Hp → Prop}
theorem qq {v : PV} {k : Nat} (h : lenV v H = some k) (hl : k ≤ 100000) (q : Q (.int k) H) : S2 (zs PP (n + 3) (.bi 1) [v] H) Q:=by
 exact kx ((zr h).trans (zA hl)) q
theorem zd8 (m : Nat) (l : List UInt8) (hl : l.length ≤ 900) (q : Q (.bytes l.reverse) H) : S2 (zs PP (m + 40) (.fn 192) [.bytes l] H) Q:=by
 refine zD rfl rfl<|zj<|zo<|ze rfl<|zn rfl<|qq (k:=l.length) rfl (by exact zu2 hl rfl)<|zc rfl<|yB<|zt<|ze rfl<|za ?_
 refine vn (z7 l.length fun i=>(i : Int)) (fun v=>match v with | .int p=>.int ((l.reverse[p.toNat]?).getD 0).toNat | v=>v) (fun uu=>true) (za<|zc rfl<|za<|zo<|zc rfl<|zc rfl<|yc<|zi ⟨rfl,?_⟩) (by simp [z7,lim];exact zu2 hl rfl)
  (fun v hv L1 h1 h2 H1=>⟨true,H1,rfl,rfl,rfl⟩) (fun v hv uu L1 h1 h2 H1=>?_) (zi<|kx ?_ q)
 ·refine (zr (zA (by lia))).trans ?_
  rw [Int.sub_add_cancel];rfl
 ·obtain ⟨p,hp,rfl⟩:=List.mem_map.mp hv
  have hp:=List.mem_range.mp hp
  refine zZ<|zh (h2 75 (by decide))<|zo<|zh (h2 83 (by decide))<|zh h1<|yB ⟨.int ((l.reverse[p]?).getD 0).toNat,?_,rfl,rfl⟩
  have e : ((l.length : Int) - 1 - (p : Int)).toNat = l.length - 1 - p:=by exact by simp
  refine (zr (zA (show 0 ≤ (l.length : Int) - 1 - (p : Int) ∧ (l.length : Int) - 1 - (p : Int) < l.length ∧ l.length ≤ lim by unfold lim;lia))).trans ?_
  rw [e,List.getElem?_reverse hp,List.getElem?_eq_getElem (Nat.lt_of_le_of_lt (Nat.sub_le _ _) (Nat.sub_lt (Nat.zero_lt_of_lt hp) (by decide)))]
  rfl
 ·have e : ((z7 l.length fun i=>(i : Int)).filter fun uu=>true).map (fun v=>match v with | .int p=>PV.int ((l.reverse[p.toNat]?).getD 0).toNat | v=>v) = l.reverse.map fun x=>.int x.toNat:=by
   rw [List.filter_eq_self.mpr fun uu uu=>rfl]
   unfold z7
   rw [List.map_map]
   refine List.ext_getElem? fun i=>?_
   rw [List.getElem?_map,List.getElem?_map]
   by_cases hi : i < l.length
   ·rw [List.getElem?_range hi]
    have : i < l.reverse.length:=by rw [List.length_reverse];exact hi
    show some (PV.int ((l.reverse[i]?).getD 0).toNat) = _
    rw [List.getElem?_eq_getElem this];rfl
   ·rw [List.getElem?_eq_none (by rw [List.length_range];exact Nat.le_of_not_lt hi),List.getElem?_eq_none (by rw [List.length_reverse];exact Nat.le_of_not_lt hi)];rfl
  have e2 : (l.reverse.map fun x=>UInt8.ofNat x.toNat) = l.reverse:=by
   have : (fun x : UInt8=>UInt8.ofNat x.toNat) = id:=funext fun x=>UInt8.ofNat_toNat
   rw [this];exact List.map_id _
  rw [e]
  exact zr ((zr ((qm (fun x : UInt8=>x.toNat) _ fun x uu=>UInt8.toNat_lt x).trans (congrArg some e2))).trans (zA (by rw [List.length_reverse];exact zu2 hl rfl)))
theorem qD (m x s : Nat) (hs : s ≤ 8) (hx : x < 256 ^ s) (q : Q (.bytes (zK x s)) H) : S2 (zs PP (m + 60) (.fn 199) [.int x,.int s,.str 86] H) Q :=
 zD rfl rfl<|zu<|zx rfl<|zt<|ze rfl<|zn rfl<|qB _ x s hs hx q
theorem qC (m x s : Nat) (hs : s ≤ 8) (hx : x < 256 ^ s) (q : Q (.bytes (zK x s).reverse) H) : S2 (zs PP (m + 60) (.fn 199) [.int x,.int s,.str 87] H) Q :=
 zD rfl rfl<|zu<|zx rfl<|zf<|zu<|zx rfl<|zt<|ze rfl<|za<|ze rfl<|zn rfl<|qB _ x s hs hx<|zi<|zd8 _ _ (by rw [zz];exact zu2 hs rfl) q
theorem zg3 (m : Nat) (l : List UInt8) (hs : l.length ≤ 8) (q : Q (.int (zw l)) H) : S2 (zs PP (m + 60) (.fn 206) [.bytes l,.str 86] H) Q :=
 zD rfl rfl<|zu<|zx rfl<|zt<|ze rfl<|zn rfl<|yj _ l hs q
theorem zqi (m : Nat) (l : List UInt8) (hs : l.length ≤ 8) (q : Q (.int (zw l.reverse)) H) : S2 (zs PP (m + 60) (.fn 206) [.bytes l,.str 87] H) Q :=
 zD rfl rfl<|zu<|zx rfl<|zf<|zu<|zx rfl<|zt<|ze rfl<|za<|ze rfl<|zn rfl<|zd8 _ l (by exact zu2 hs rfl)<|zi<|yj _ _ (by rw [List.length_reverse];exact hs) q
theorem zt2 (m : Nat) (l : List UInt8) (h1 : 1 ≤ l.length) (h4 : l.length ≤ 4) (q : Q (.bytes (l ++ List.replicate (4 - l.length) 0)) H) : S2 (zs PP (m + 40) (.fn 220) [.bytes l] H) Q:=by
 refine zD rfl rfl<|zt<|zo<|ze rfl<|zn rfl<|kx rfl<|zo<|zc rfl<|zo<|e_neg<|ze rfl<|zn rfl<|qq (k:=l.length) rfl (by exact zu2 h4 rfl) ⟨_,rfl,zc rfl<|yH (by decide)<|?_⟩
 ·have e : (-(l.length : Int)).fmod 4 = ((4 - l.length : Nat) : Int):=by
   rw [Int.fmod_eq_emod_of_nonneg _ (by decide)];lia
  rw [e]
  refine ⟨.bytes (List.replicate (4 - l.length) 0),H,?_,.bytes (l ++ List.replicate (4 - l.length) 0),H,?_,q⟩
  ·refine (zr (zA ⟨by decide,by lia,by exact Int.natCast_nonneg _,by decide⟩)).trans ?_
   have : ∀ k : Nat,(List.replicate k ([0] : List UInt8)).flatten = List.replicate k 0:=fun k=>by
    induction k with
    | zero=>rfl
    | succ k ih=>rw [List.replicate_succ,List.replicate_succ,List.flatten_cons,ih];rfl
   exact congrArg (fun x=>some (PV.bytes x,H)) (this _)
  ·exact zr (zA (by rw [List.length_replicate];unfold lim;lia))
end Mine
namespace Mine
open PySem
variable {n : Nat} {L : Loc} {H H' : Hp} {Q : PV → Hp → Prop} {b fl ho : Nat} {f : Fd} {rows rows' : List PV}
noncomputable def zs2 (b fl ho : Nat) : List (Nat × PV):=[(51,.loc fl),(46,.str 295),(69,.str ho),(93,.str 296),(94,.loc (b + 2)),(95,.loc (b + 3)),(96,.loc (b + 4)),(97,.loc (b + 5)),(98,.loc (b + 6))]
noncomputable def Kn (kn : List (Nat × PV)) : Prop:=kn = [] ∨ ∃ v,kn = [(271,v)]
structure Rw (H : Hp) (b fl ho : Nat) (f : Fd) (rows : List PV) : Prop where
 i : H[b + 1]? = some (.inst 237 b)
 n : H[b]? = some (.ns (zs2 b fl ho))
 d : H[fl]? = some (.dict [(271,f.pv)])
 r : H[b + 2]? = some (.list rows)
 k : ∃ kn,H[b + 4]? = some (.dict kn) ∧ Kn kn
 lt : fl < b
 len : rows.length ≤ 1000
noncomputable def Same (b : Nat) (H H' : Hp) : Prop:=∀ i ob,i ≠ b + 2 → i ≠ b + 4 → H[i]? = some ob → H'[i]? = some ob
theorem Same.refl : Same b H H:=fun uu uu uu uu h=>h
theorem Same.trans {H1 H2 H3 : Hp} (h : Same b H1 H2) (k : Same b H2 H3) : Same b H1 H3:=fun i ob a c e=>k i ob a c (h i ob a c e)
theorem Rw.push (R : Rw H b fl ho f rows) (v : PV) (hl : rows.length < 1000) : Rw (H.set (b + 2) (.list (rows ++ [v]))) b fl ho f (rows ++ [v]) ∧ Same b H (H.set (b + 2) (.list (rows ++ [v]))) :=
 ⟨⟨yg R.i (by exact zn2 rfl),yg R.n (by exact zn3 rfl),yg R.d (by have:=R.lt;exact (zn1 R.lt).symm),kI R.r,let ⟨kn,h1,h2⟩:=R.k;⟨kn,yg h1 (by exact zn2 rfl),h2⟩,R.lt,by rw [List.length_append];exact hl⟩,fun i ob h1 h2 h=>yg h h1.symm⟩
theorem Rw.more (R : Rw H b fl ho f rows) (T : Hp) : Rw (H ++ T) b fl ho f rows ∧ Same b H (H ++ T) :=
 ⟨⟨yl R.i,yl R.n,yl R.d,yl R.r,let ⟨kn,h1,h2⟩:=R.k;⟨kn,yl h1,h2⟩,R.lt,R.len⟩,fun i ob h1 h2 h=>yl h⟩
noncomputable abbrev Gives (b fl ho : Nat) (f : Fd) (H : Hp) (v : PV) (rows' : List PV) (Q : PV → Hp → Prop) : Prop:=∀ H',Rw H' b fl ho f rows' → Same b H H' → Q v H'
theorem Gives.then {v u : PV} {r2 r3 : List PV} {Q' : PV → Hp → Prop} (S : Same b H H') (q : Gives b fl ho f H v r3 Q) : Gives b fl ho f H' v r3 Q:=fun H2 R2 S2=>q H2 R2 (S.trans S2)
theorem yf {x : Nat} {a : ME} (hL : L x = some (.loc (b + 1))) (R : Rw H b fl ho f rows) (hl : rows.length < 1000) (h : S2 (evE PP (n + 1) a L H) fun v H2=>H2 = H ∧ (Rw (H.set (b + 2) (.list (rows ++ [v]))) b fl ho f (rows ++ [v]) → Same b H (H.set (b + 2) (.list (rows ++ [v]))) → Q .none (H.set (b + 2) (.list (rows ++ [v]))))) :
  S2 (evE PP (n + 3) (.meth (.attr (.loc x) 94) 0 [a]) L H) Q :=
 zuu hL R.i R.n rfl rfl R.r (h.mono fun v H2 ⟨e,q⟩=>by subst e;exact ⟨_,R.r,by unfold lim;exact zu2 R.len rfl,q (R.push v hl).1 (R.push v hl).2⟩)
theorem z0 {x : Nat} (hL : L x = some (.loc (b + 1))) (R : Rw H b fl ho f rows) (q : Q (.loc fl) H) : S2 (evE PP (n + 2) (.attr (.loc x) 51) L H) Q:=yh hL R.i R.n rfl rfl q
noncomputable def cB (o ho x s : Nat) : List UInt8:=match Nat.beq o 86 with
 | true=>zK x s
 | false=>match Nat.beq ho 87 with
  | true=>(zK x s).reverse
  | false=>zK x s
noncomputable def Ho (ho : Nat) : Prop:=ho = 86 ∨ ho = 87
noncomputable def Oo (o : Nat) : Prop:=o = 70 ∨ o = 86
theorem yu (m o x s : Nat) (ho' : Ho ho) (oo : Oo o) (hs : s ≤ 8) (hx : x < 256 ^ s) (R : Rw H b fl ho f rows) (q : Q (.bytes (cB o ho x s)) H) : S2 (zs PP (m + 80) (.fn 255) [.loc (b + 1),.int x,.int s,.str o] H) Q:=by
 refine zD rfl rfl<|zt<|ze rfl<|za<|zc rfl<|za<|zc rfl<|za<|ze rfl<|za<|zc rfl<|za<|yh rfl R.i R.n rfl rfl<|zi ?_
 rcases oo with rfl | rfl
 ·refine wd _ _<|zi ?_
  rcases ho' with rfl | rfl
  ·exact qD _ _ _ hs hx q
  ·exact qC _ _ _ hs hx q
 ·exact wZ _ _<|zi<|qD _ _ _ hs hx q
noncomputable def wg (g s : Nat) : PV:=.tup [.str 106,.int g,.int g,.int s]
noncomputable def zk1 (g : Nat) (x y : List UInt8) : PV:=.tup [.str 118,.int g,.int g,.bytes x,.bytes y]
noncomputable def zha (g s k : Nat) : PV:=.tup [.str 119,.int g,.int g,.int s,.str 120,.int k]
noncomputable def zm7 (g : Nat) : Fd → PV
 | .mark=>.tup [.str 111,.int g,.str 155,.int 4,.str 70]
 | .iif=>.tup [.str 111,.int g,.str 162,.int 2,.str 70]
 | .pay b f=>.tup [.str 66,.int g,.str 174,.int (f / 8 : Nat),.int ((f % 8 + b + 7) / 8 : Nat)]
theorem zbx (m g s : Nat) (R : Rw H b fl ho f rows) (hl : rows.length < 1000) (q : Gives b fl ho f H .none (rows ++ [wg g s]) Q) : S2 (zs PP (m + 30) (.fn 262) [.loc (b + 1),.int g,.int s] H) Q :=
 zD rfl rfl<|zy<|yf rfl R hl<|zc rfl ⟨rfl,fun R' S=>zf<|q _ R' S⟩
end Mine
namespace Mine
open PySem
variable {n : Nat} {L : Loc} {H H' : Hp} {Q : PV → Hp → Prop} {b fl ho : Nat} {f : Fd} {rows rows' : List PV}
theorem zgz (m : Nat) (q : ∀ T,Q (.tup []) (H ++ T)) : S2 (zs PP (m + 60) (.fn 119) [.str 32] H) Q:=by
 refine zD rfl rfl<|zj<|zc rfl<|zu<|zE<|zc rfl<|zc rfl ⟨_,xb (zY (k:=0) rfl),zf<|zt<|zZ<|zc rfl<|zc rfl ⟨_,yA (zY (k:=0) rfl) rfl,q _⟩⟩
theorem zg0 (m : Nat) (q : ∀ T,Q (.tup []) (H ++ T)) : S2 (zs PP (m + 90) (.fn 126) [.str 295,.str 32] H) Q:=by
 refine zD rfl rfl<|zj<|zc rfl<|jN<|za<|ze rfl<|zn rfl<|zgz _ fun T=>zi ⟨_,rfl,_,_,_,rfl,zt<|ze rfl<|zn rfl<|kx (r:=.tup []) (H1:=H ++ [.list []] ++ T) ?_ ?_⟩
 ·have g : (H ++ [.list []] ++ T)[H.length]? = some (.list []):=yl (zY (k:=0) rfl)
  exact zr (yv g)
 ·exact (List.append_assoc ..) ▸ q _
theorem zea (m g : Nat) (R : Rw H b fl ho f rows) (q : Gives b fl ho f H .none rows Q) : S2 (zs PP (m + 120) (.fn 276) [.loc (b + 1),.int g,.str 32] H) Q:=by
 refine zD rfl rfl<|jN<|za<|ze rfl<|za<|yh rfl R.i R.n rfl rfl<|za<|zc rfl<|zi<|zg0 _ fun T=>zi ⟨_,rfl,_,_,_,rfl,zf ?_⟩
 exact q _ (R.more T).1 (R.more T).2
theorem qE (m g : Nat) (R : Rw H b fl ho f rows) (hl : rows.length < 1000) (q : Gives b fl ho f H (.int f.sz) (rows ++ [zm7 g f]) Q) : S2 (zs PP (m + 90) (.fn 269) [.loc (b + 1),.int g,.str 271] H) Q:=by
 refine zD rfl rfl<|jA<|ze rfl<|za<|z0 rfl R<|zn rfl<|wG _ _ _ R.d ?_
 cases f with
 | mark =>
  refine ⟨_,_,rfl,zj<|ze rfl<|za<|z0 rfl R<|zn rfl<|j6 _ _ _ .fld R.d<|zu<|zx rfl<|zy<|yf rfl R hl<|zc rfl ⟨rfl,fun R' S=>zf<|zt<|zc rfl<|q _ R' S⟩⟩
 | iif =>
  refine ⟨_,_,rfl,zj<|ze rfl<|za<|z0 rfl R<|zn rfl<|j6 _ _ _ .fld R.d<|zu<|zx rfl<|zy<|yf rfl R hl<|zc rfl ⟨rfl,fun R' S=>zf<|zt<|zc rfl<|q _ R' S⟩⟩
 | pay bb ff =>
  refine ⟨_,_,rfl,zj<|ze rfl<|za<|z0 rfl R<|zn rfl<|j6 _ _ _ .fld R.d<|zu<|zx rfl<|zu<|zx rfl<|zy<|yf rfl R hl<|z8<|za<|zc rfl<|za<|zc rfl<|za<|zc rfl<|za<|zo<|zc rfl<|zc rfl<|yW (by decide)<|zn rfl ?_⟩
  have e : (ff : Int).fdiv 8 = ((ff / 8 : Nat) : Int):=jc ff 8
  exact e ▸ ⟨rfl,fun R' S=>zf<|zf<|zt<|zc rfl<|q _ R' S⟩
end Mine
namespace Mine
open PySem
variable {n : Nat} {L : Loc} {H H' : Hp} {Q : PV → Hp → Prop} {b fl ho : Nat} {f : Fd} {rows rows' : List PV}
noncomputable def FdOk : Fd → Prop
 | .pay b f=>1 ≤ b ∧ b ≤ 20 ∧ f < 90
 | _=>True
theorem ji (h : FdOk f) : 1 ≤ f.sz ∧ f.sz ≤ 4:=by
 cases f with
 | mark=>exact ⟨by decide,by decide⟩
 | iif=>exact ⟨by decide,by decide⟩
 | pay b f =>
  refine cp fun nq=>?_
  obtain ⟨h1,h2,h3⟩:=h
  refine nq ?_
  show 1 ≤ (f % 8 + b + 7) / 8 ∧ (f % 8 + b + 7) / 8 ≤ 4
  lia
theorem qa : Oo f.ord:=by cases f <;> first | exact .inl rfl | exact .inr rfl
theorem zjs {x : Nat} : jd .Gt (.int x) (.int 0) H = some (decide (0 < x)):=by
 show some (decide ((0 : Int) < x)) = _
 by_cases h : 0 < x
 ·rw [decide_eq_true h,decide_eq_true (by exact Int.ofNat_lt.mpr h)]
 ·rw [decide_eq_false h,decide_eq_false (by lia)]
noncomputable def zfi (g s above bits : Nat) : List PV :=
 (match decide (0 < above) || decide (0 < 8 * s - above - bits) with
  | true=>[zk1 g (zK ((2 ^ bits - 1) * 2 ^ (8 * s - above - bits)) s) (zK 0 s)]
  | false=>[]) ++ (match decide (0 < 8 * s - above - bits) with
  | true=>[zha g s (8 * s - above - bits)]
  | false=>[])
theorem zrk {s above bits : Nat} (h : above + bits ≤ 8 * s) : (2 ^ bits - 1) * 2 ^ (8 * s - above - bits) < 256 ^ s:=by
 have h1 : (2 ^ bits - 1) * 2 ^ (8 * s - above - bits) < 2 ^ bits * 2 ^ (8 * s - above - bits):=Nat.mul_lt_mul_of_pos_right (Nat.sub_lt (Nat.pow_pos (by decide)) (by decide)) (Nat.pow_pos (by decide))
 rw [← Nat.pow_add] at h1
 refine Nat.lt_of_lt_of_le h1 ?_
 rw [show (256 : Nat) = 2 ^ 8 from rfl,← Nat.pow_mul]
 exact Nat.pow_le_pow_right (by decide) (by lia)
theorem c_or {e1 e2 : ME} {QB : Bool → Hp → Prop} (h : SB (evC PP (n + 2) e1 L H) fun t H1=>H1 = H ∧ SB (evC PP (n + 1) e2 L H) fun u H2=>H2 = H ∧ QB (t || u) H) : SB (evC PP (n + 4) (.bool false [e1,e2]) L H) QB:=by
 refine cp fun nq=>?_
 obtain ⟨t,H1,h1,rfl,u,H2,h2,rfl,q⟩:=h
 refine nq ?_
 refine vW<|yq ⟨t,H2,h1,?_⟩
 cases t with
 | true=>exact q
 | false =>
  refine yq ⟨u,H2,h2,?_⟩
  cases u with
  | true=>exact q
  | false=>exact vU q
theorem zkw (m g s above bits : Nat) (hs : s ≤ 4) (hb : above + bits ≤ 8 * s) (h20 : bits ≤ 20) (R : Rw H b fl ho f rows) (hl : rows.length < 900) (hho : Ho ho) (q : Gives b fl ho f H .none (rows ++ zfi g s above bits) Q) :
  S2 (zs PP (m + 120) (.fn 283) [.loc (b + 1),.int g,.int s,.int above,.int bits] H) Q:=by
 refine zD rfl rfl<|zj<|zo<|zo<|zo<|zc rfl<|zc rfl<|yP (.inl (by decide))<|zc rfl<|yB<|zc rfl<|yB ?_
 have e : (8 : Int) * (s : Int) - (above : Int) - (bits : Int) = ((8 * s - above - bits : Nat) : Int):=by lia
 rw [e]
 unfold zfi at q
 generalize hbl : 8 * s - above - bits = bl at q ⊢
 have hm : (2 ^ bits - 1) * 2 ^ bl < 256 ^ s:=hbl ▸ zrk hb
 have tail : ∀ {H1 : Hp} {L1 : Loc} {r1 : List PV},L1 101 = some (.loc (b + 1)) → L1 104 = some (.int g) → L1 105 = some (.int s) → L1 117 = some (.int bl) → Rw H1 b fl ho f r1 → r1.length < 950 → Gives b fl ho f H1 .none (r1 ++ (match decide (0 < bl) with | true=>[zha g s bl] | false=>[])) Q →
   SX (execs PP (m + 115) [.ifs (.cmp .Gt (.loc 117) (.cint 0)) [.expr (.meth (.attr (.loc 101) 94) 0 [.tup [.cstr 119,.loc 104,.loc 104,.loc 105,.cstr 120,.loc 117]])] []] L1 H1) (FnQ Q):=by
  intro H1 L1 r1 a1 a2 a3 a4 R1 hl1 q1
  refine zu<|zE<|zh a4<|zc rfl ⟨_,zjs,?_⟩
  cases hd : decide (0 < bl) with
  | true =>
   replace q1:=hd ▸ q1
   exact zy<|yf a1 R1 (by exact zu1 hl1 rfl)<|z8<|za<|zc rfl<|za<|zh a2<|za<|zh a2<|za<|zh a3<|za<|zc rfl<|za<|zh a4<|zi ⟨rfl,fun R' S=>zf<|zf<|q1 _ R' S⟩
  | false =>
   rw [hd,List.append_nil] at q1
   exact zf<|zf<|q1 _ R1 Same.refl
 refine zu<|c_or<|zE<|zc rfl<|zc rfl ⟨_,zjs,rfl,zE<|zc rfl<|zc rfl ⟨_,zjs,rfl,?_⟩⟩
 cases hd : decide (0 < above) || decide (0 < bl) with
 | true =>
  rw [hd] at q
  refine zj<|zo<|zo<|zo<|zc rfl<|zc rfl<|zbk ⟨by exact Int.natCast_nonneg _,by exact zc2 h20 rfl,by decide⟩<|zc rfl<|yB<|zc rfl ?_
  have e1 : (1 : Int) * 2 ^ ((bits : Int)).toNat - 1 = ((2 ^ bits - 1 : Nat) : Int):=by
   rw [Int.toNat_natCast,Int.one_mul,ya]
   have : 1 ≤ 2 ^ bits:=Nat.pow_pos (by decide)
   exact zc7 this
  rw [e1]
  have hlt : 2 ^ bits - 1 < 2 ^ 64:=by
   have : 2 ^ bits ≤ 2 ^ 20:=Nat.pow_le_pow_right (by decide) h20
   lia
  refine zbk ⟨by exact Int.natCast_nonneg _,by lia,by simpa using hlt⟩ ?_
  have e2 : ((2 ^ bits - 1 : Nat) : Int) * 2 ^ ((bl : Int)).toNat = (((2 ^ bits - 1) * 2 ^ bl : Nat) : Int):=by
   rw [Int.toNat_natCast,ya,Int.natCast_mul]
  rw [e2]
  refine zy<|yf rfl R (by exact zu1 hl rfl)<|z8<|za<|zc rfl<|za<|zc rfl<|za<|zc rfl<|za<|ze rfl<|zn rfl<|yu _ 86 _ s hho (.inr rfl) (by exact zu2 hs rfl) hm R<|za<|ze rfl<|zn rfl<|yu _ 86 0 s hho (.inr rfl) (by exact zu2 hs rfl) (Nat.pow_pos (by decide)) R<|zi ⟨rfl,fun R' S=>zf ?_⟩
  refine tail rfl rfl rfl rfl R' (by rw [List.length_append];simp only [List.length_cons,List.length_nil];exact zv1 hl rfl) fun H2 R2 S2=>q H2 ?_ (S.trans S2)
  exact (List.append_assoc ..) ▸ R2
 | false =>
  rw [hd,List.nil_append] at q
  exact zf<|tail rfl rfl rfl rfl R (by exact zu1 hl rfl) q
end Mine
namespace Mine
open PySem
variable {n : Nat} {L : Loc} {H H' : Hp} {Q : PV → Hp → Prop} {b fl ho : Nat} {f : Fd} {rows rows' : List PV}
noncomputable def ldR (g : Nat) (f : Fd) : List PV:=zm7 g f :: (match f with
 | .pay bits first=>zfi g f.sz (first % 8) bits
 | _=>[])
theorem zpi (g s a b : Nat) : (zfi g s a b).length ≤ 2:=by
 unfold zfi
 split <;> split <;> simp
theorem qY (g : Nat) (f : Fd) : (ldR g f).length ≤ 3:=by
 cases f with
 | pay b f=>exact Nat.succ_le_succ (zpi ..)
 | _=>simp [ldR]
theorem zb2 (m g : Nat) (hf : FdOk f) (R : Rw H b fl ho f rows) (hl : rows.length < 890) (hho : Ho ho) (q : Gives b fl ho f H .none (rows ++ ldR g f) Q) : S2 (zs PP (m + 150) (.fn 290) [.loc (b + 1),.int g,.str 271] H) Q:=by
 refine zD rfl rfl<|jA<|ze rfl<|za<|z0 rfl R<|zn rfl<|wG _ _ _ R.d ?_
 cases f with
 | mark=>exact ⟨_,_,rfl,zu<|zx rfl<|zf<|zj<|ze rfl<|zn rfl<|qE _ _ R (by exact zu1 hl rfl) fun H1 R1 S1=>zu<|zx rfl<|zf<|zf<|q _ R1 S1⟩
 | iif=>exact ⟨_,_,rfl,zu<|zx rfl<|zf<|zj<|ze rfl<|zn rfl<|qE _ _ R (by exact zu1 hl rfl) fun H1 R1 S1=>zu<|zx rfl<|zf<|zf<|q _ R1 S1⟩
 | pay bits first =>
  refine ⟨_,_,rfl,zu<|zx rfl<|zy<|ze rfl<|zn rfl<|zea _ _ R fun H0 R0 S0=>zf<|zj<|ze rfl<|zn rfl<|qE _ _ R0 (by exact zu1 hl rfl) fun H1 R1 S1=>zu<|zx rfl<|zy<|ze rfl<|za<|zc rfl<|za<|zc rfl<|za<|zc rfl<|za<|zo<|zc rfl<|zc rfl<|yH (by decide)<|zn rfl ?_⟩
  have e : (first : Int).fmod 8 = ((first % 8 : Nat) : Int):=yb first 8
  rw [e]
  refine cp fun nq=>?_
  obtain ⟨h1,h2,h3⟩:=hf
  refine nq ?_
  refine zkw _ _ _ _ _ (ji (f:=.pay bits first) ⟨h1,h2,h3⟩).2 ?_ h2 R1 (by rw [List.length_append];simp only [List.length_cons,List.length_nil];exact zv1 hl rfl) hho fun H2 R2 S2=>zf<|zf<|q _ ?_ (S0.trans (S1.trans S2))
  ·exact zj4 _
  ·rw [List.append_assoc] at R2
   exact R2
theorem zox (s : Nat) : (1 : Int) * 2 ^ ((8 : Int) * (s : Int)).toNat - 1 = ((256 ^ s - 1 : Nat) : Int):=by
 rw [show ((8 : Int) * (s : Int)).toNat = 8 * s by exact rfl,Int.one_mul,ya,Nat.pow_mul]
 have : 1 ≤ 256 ^ s:=Nat.pow_pos (by decide)
 exact zc7 this
theorem zqf (x s : Nat) : Builtin.bitAnd (x : Int) ((256 ^ s - 1 : Nat) : Int) = ((x % 256 ^ s : Nat) : Int):=by
 rw [ku]
 have e : (256 : Nat) ^ s = 2 ^ (8 * s):=by rw [Nat.pow_mul]
 rw [e,Nat.and_two_pow_sub_one_eq_mod]
noncomputable def zlz (g o ho s t x : Nat) : PV:=match Nat.beq t 55 with
 | true=>zk1 g (cB o ho (x % 256 ^ s) s) (cB o ho 0 s)
 | false=>zk1 g (cB o ho (256 ^ s - 1) s) (cB o ho (x % 256 ^ s) s)
theorem kM (m g x t : Nat) (e : Ex) (ht : t = 55 ∨ t = 57) (hf : FdOk f) (R : Rw H b fl ho f rows) (hl : rows.length < 900) (hho : Ho ho) (q : Gives b fl ho f H .none (rows ++ [zlz g f.ord ho f.sz t x]) Q) :
  S2 (zs PP (m + 150) (.fn 297) [.loc (b + 1),.int g,e.pv,.str t,.int x] H) Q:=by
 have hs:=ji hf
 have hp : 0 < 256 ^ f.sz:=Nat.pow_pos (by decide)
 refine zD rfl rfl<|zj<|ze rfl<|za<|z0 rfl R<|zn rfl<|j6 _ _ f e R.d<|zj<|ze rfl<|za<|z0 rfl R<|zn rfl<|k9 _ _ f e R.d<|zj<|zo<|zo<|zc rfl<|zo<|zc rfl<|zc rfl<|yP (.inl (by decide))<|zbk ⟨by exact Int.natCast_nonneg _,by lia,by decide⟩<|zc rfl<|yB<|zj<|zo<|zc rfl<|zc rfl<|zf7<|zj<|zc rfl ?_
 rw [zox,zqf]
 rcases ht with rfl | rfl
 ·exact zu<|zx rfl<|zj<|zc rfl<|zj<|zc rfl<|zf<|zy<|yf rfl R (by exact zu1 hl rfl)<|z8<|za<|zc rfl<|za<|zc rfl<|za<|zc rfl<|za<|ze rfl<|zn rfl<|yu _ f.ord (x % 256 ^ f.sz) f.sz hho qa (by exact zu2 hs.2 rfl) (Nat.mod_lt _ hp) R<|za<|ze rfl<|zn rfl<|yu _ f.ord 0 f.sz hho qa (by exact zu2 hs.2 rfl) hp R<|zi ⟨rfl,fun R' S=>zf<|q _ R' S⟩
 ·exact zu<|zx rfl<|zu<|zx rfl<|zf<|zf<|zy<|yf rfl R (by exact zu1 hl rfl)<|z8<|za<|zc rfl<|za<|zc rfl<|za<|zc rfl<|za<|ze rfl<|zn rfl<|yu _ f.ord (256 ^ f.sz - 1) f.sz hho qa (by exact zu2 hs.2 rfl) (by exact Nat.sub_lt_self (by decide) hp) R<|za<|ze rfl<|zn rfl<|yu _ f.ord (x % 256 ^ f.sz) f.sz hho qa (by exact zu2 hs.2 rfl) (Nat.mod_lt _ hp) R<|zi ⟨rfl,fun R' S=>zf<|q _ R' S⟩
noncomputable def shR (g : Nat) (f : Fd) (k : Nat) : List PV:=match Nat.beq f.ord 70 with
 | true=>[wg g f.sz,zha g f.sz k,wg g f.sz]
 | false=>[zha g f.sz k]
theorem zby (m g k : Nat) (R : Rw H b fl ho f rows) (hl : rows.length < 900) (q : Gives b fl ho f H .none (rows ++ shR g f k) Q) :
  S2 (zs PP (m + 150) (.fn 304) [.loc (b + 1),.int g,(Ex.shr k).pv] H) Q:=by
 refine zD rfl rfl<|zj<|ze rfl<|za<|z0 rfl R<|zn rfl<|j6 _ _ f (.shr k) R.d<|zj<|zc rfl<|zj<|yL<|ze rfl<|za<|z0 rfl R<|zn rfl<|k9 _ _ f (.shr k) R.d<|zc rfl ⟨Nat.beq f.ord 70,rfl,?_⟩
 unfold shR at q
 cases h : Nat.beq f.ord 70 with
 | true =>
  replace q:=h ▸ q
  refine zu<|zx rfl<|zy<|ze rfl<|zn rfl<|zbx _ _ _ R (by exact zu1 hl rfl) fun H1 R1 S1=>zf<|zy<|yf rfl R1 (by rw [List.length_append];simp only [List.length_cons,List.length_nil];exact zv1 hl rfl)<|zc rfl ⟨rfl,fun R2 S2=>zu<|zx rfl<|zy<|ze rfl<|zn rfl<|zbx _ _ _ R2 (by rw [List.length_append,List.length_append];simp only [List.length_cons,List.length_nil];exact zv3 hl rfl) fun H3 R3 S3=>zf<|zf<|q _ ?_ (S1.trans (S2.trans S3))⟩
  rw [List.append_assoc,List.append_assoc] at R3
  exact R3
 | false =>
  replace q:=h ▸ q
  exact zu<|zx rfl<|zf<|zy<|yf rfl R (by exact zu1 hl rfl)<|zc rfl ⟨rfl,fun R2 S2=>zu<|zx rfl<|zf<|zf<|q _ R2 S2⟩
noncomputable def exR (g : Nat) (f : Fd) (ho : Nat) : Ex → List PV
 | .fld=>[]
 | .shr k=>shR g f k
 | .mask x=>[zlz g f.ord ho f.sz 55 x]
 | .xor x=>[zlz g f.ord ho f.sz 57 x]
theorem j7 (m g : Nat) (hf : FdOk f) (R : Rw H b fl ho f rows) (hl : rows.length < 890) (hho : Ho ho) (q : Gives b fl ho f H .none (rows ++ ldR g f) Q) : S2 (zs PP (m + 170) (.fn 311) [.loc (b + 1),.int g,x7] H) Q :=
 zD rfl rfl<|zj<|zc rfl<|zu<|zx rfl<|zy<|ze rfl<|zn rfl<|zb2 _ _ hf R hl hho fun H1 R1 S1=>zf<|zf<|q _ R1 S1
theorem zg1 (m g : Nat) (e : Ex) (hf : FdOk f) (R : Rw H b fl ho f rows) (hl : rows.length < 800) (hho : Ho ho) (q : Gives b fl ho f H .none (rows ++ (ldR g f ++ exR g f ho e)) Q) : S2 (zs PP (m + 200) (.fn 311) [.loc (b + 1),.int g,e.pv] H) Q:=by
 have h3:=qY g f
 have hl2 : (rows ++ ldR g f).length < 900:=by rw [List.length_append];exact zw1 hl h3 rfl
 cases e with
 | fld =>
  refine j7 _ _ hf R (by exact zu1 hl rfl) hho fun H1 R1 S1=>q _ ?_ S1
  show Rw H1 b fl ho f (rows ++ (ldR g f ++ []))
  rw [List.append_nil];exact R1
 | shr k =>
  refine zD rfl rfl<|zj<|zc rfl<|zu<|zx rfl<|zu<|zx rfl<|zu<|zx rfl<|zy<|ze rfl<|zn rfl<|j7 _ _ hf R (by exact zu1 hl rfl) hho fun H1 R1 S1=>zy<|ze rfl<|zn rfl<|zby _ _ k R1 hl2 fun H2 R2 S2=>zf<|zf<|zf<|zf<|q _ ?_ (S1.trans S2)
  rw [List.append_assoc] at R2;exact R2
 | mask k =>
  refine zD rfl rfl<|zj<|zc rfl<|zu<|zx rfl<|zu<|zx rfl<|zy<|ze rfl<|zn rfl<|j7 _ _ hf R (by exact zu1 hl rfl) hho fun H1 R1 S1=>zy<|ze rfl<|zn rfl<|kM _ _ k 55 (.mask k) (.inl rfl) hf R1 hl2 hho fun H2 R2 S2=>zf<|zf<|zf<|q _ ?_ (S1.trans S2)
  rw [List.append_assoc] at R2;exact R2
 | xor k =>
  refine zD rfl rfl<|zj<|zc rfl<|zu<|zx rfl<|zu<|zx rfl<|zy<|ze rfl<|zn rfl<|j7 _ _ hf R (by exact zu1 hl rfl) hho fun H1 R1 S1=>zy<|ze rfl<|zn rfl<|kM _ _ k 57 (.xor k) (.inr rfl) hf R1 hl2 hho fun H2 R2 S2=>zf<|zf<|zf<|q _ ?_ (S1.trans S2)
  rw [List.append_assoc] at R2;exact R2
end Mine
namespace Mine
open PySem
variable {n : Nat} {L : Loc} {H H' : Hp} {Q : PV → Hp → Prop} {b fl ho : Nat} {f : Fd} {rows rows' : List PV}
noncomputable def zG (f : Fd) : Ex → Nat
 | .xor _=>8 * f.sz
 | _=>f.bits
theorem zt7 (m : Nat) (e : Ex) (h : H[fl]? = some (.dict [(271,f.pv)])) (q : Q (.int (zG f e)) H) : S2 (zs PP (m + 80) (.fn 161) [.loc fl,e.pv] H) Q:=by
 have tail : ∀ {L1 : Loc} {w : Nat},L1 51 = some (.loc fl) → L1 54 = some x7 → Q (.int f.bits) H → SX (execs PP (m + 76) [.ifs (.call (.glob 53) [.loc 54]) [.ret (.bin .Mult (.cint 8) (.call (.glob 64) [.loc 51,.loc 54]))] [],.assign (.name 63) (.call (.glob 60) [.loc 51,.loc 54,.cstr 9]),.ret (.ite (.cmp .Is (.loc 63) .cnone) (.cint 32) (.sub (.loc 63) (.cint 2)))] L1 H) (FnQ Q):=by
  intro L1 w a1 a2 q1
  refine zu<|c_e rfl<|ze rfl<|za<|zh a2<|zi<|j0 _ ⟨_,rfl,zf<|zj<|ze rfl<|za<|zh a1<|za<|zh a2<|zn rfl<|wc _ _ _ _ h ?_⟩
  cases f with
  | mark=>exact zt<|zc rfl q1
  | iif=>exact zt<|zc rfl q1
  | pay bb ff=>exact zt<|zc rfl q1
 cases e with
 | fld=>exact zD rfl rfl<|kW<|kY<|zx rfl ⟨rfl,tail (w:=0) rfl rfl q⟩
 | shr k=>exact zD rfl rfl<|kW<|zmi<|zx rfl ⟨rfl,zj<|zc rfl<|zf ⟨rfl,kY<|zx rfl ⟨rfl,tail (w:=0) rfl rfl q⟩⟩⟩
 | mask k=>exact zD rfl rfl<|kW<|zmi<|zx rfl ⟨rfl,zj<|zc rfl<|zf ⟨rfl,kY<|zx rfl ⟨rfl,tail (w:=0) rfl rfl q⟩⟩⟩
 | xor k =>
  refine zD rfl rfl<|kW<|kY<|zx rfl ⟨rfl,zu<|c_e rfl<|ze rfl<|zn rfl<|zd6 _ 57 _ (.inr (.inl rfl)) ⟨_,rfl,zt<|zo<|zc rfl<|ze rfl<|zn rfl<|j6 _ _ f (.xor k) h<|yP (.inl (by decide)) ?_⟩⟩
  have : (8 : Int) * (f.sz : Int) = ((8 * f.sz : Nat) : Int):=by rw [Int.natCast_mul];rfl
  rw [this]
  exact q
theorem zq1 (m : Nat) (e : Ex) (q : Q (.tup [e.pv]) H) : S2 (zs PP (m + 20) (.fn 175) [e.pv] H) Q:=by
 cases e <;> exact we (by kernel_rfl) q
theorem zei (m : Nat) : ∀ (j k : Nat) (L : Loc) (len : Int),L 13 = some (.int (2 ^ j : Nat)) → L 8 = some (.int len) → j < k →
  SX (xV (fun L H=>evC PP (m + 20) (.cmp .Gt (.loc 13) (.cint 1)) L H) (fun L H=>execs PP (m + 20) [.assign (.name 13) (.bin .RShift (.loc 13) (.cint 1)),.assign (.name 8) (.bin .Sub (.loc 8) (.cint 1))] L H) k L H) fun f L1 H1=>f = .next ∧ H1 = H ∧ L1 8 = some (.int (len - j))
 | j,0,L,len,h1,h2,h=>by lia
 | 0,k + 1,L,len,h1,h2,h=>by
  refine kY<|zE<|zh h1<|zc rfl ⟨_,rfl,by decide,rfl,rfl,?_⟩
  rw [h2];simp
 | j + 1,k + 1,L,len,h1,h2,h=>by
  have h1' : (1 : Int) < ((2 ^ (j + 1) : Nat) : Int):=by
   have : 1 ≤ 2 ^ j:=Nat.pow_pos (by decide)
   rw [Nat.pow_succ];lia
  refine zmi<|zE<|zh h1<|zc rfl ⟨_,rfl,decide_eq_true h1',zj<|zo<|zh h1<|zc rfl<|zfu (by decide) ?_⟩
  have e : ((2 ^ (j + 1) : Nat) : Int).fdiv (2 ^ (1 : Int).toNat) = ((2 ^ j : Nat) : Int):=by
   rw [k8]
   congr 1
   rw [Nat.pow_succ];exact Nat.mul_div_cancel _ (by decide)
  rw [e]
  refine zj<|zo<|zh (by show z5 L 13 _ 8 = _;unfold z5;rw [if_neg (by decide)];exact h2)<|zc rfl<|yB<|zf ⟨rfl,?_⟩
  refine (zei m j k _ (len - 1) (by show z5 (z5 L 13 _) 8 _ 13 = _;unfold z5;rw [if_neg (by decide),if_pos rfl]) zbv (by exact Nat.lt_of_succ_lt_succ h)).mono fun f L1 H1 ⟨a,b,c⟩=>⟨a,b,?_⟩
  rw [c]
  congr 2
  lia
noncomputable def Pfx (lo hi bits : Nat) (r : PV) : Prop:=r = .none ∨ ∃ j,hi + 1 = lo + 2 ^ j ∧ lo % 2 ^ j = 0 ∧ hi < 2 ^ bits ∧ j ≤ bits ∧ r = .int (bits - j : Nat)
theorem zm1 (m lo hi bits : Nat) (hlh : lo ≤ hi) (hb : bits ≤ 1000) (q : ∀ r,Pfx lo hi bits r → Q r H) : S2 (zs PP (m + 80) (.fn 35) [.int lo,.int hi,.int bits] H) Q:=by
 refine zD rfl rfl<|zj<|zo<|zo<|zc rfl<|zc rfl<|yB<|zc rfl<|yc ?_
 have e0 : (hi : Int) - (lo : Int) + 1 = ((hi - lo + 1 : Nat) : Int):=by lia
 rw [e0]
 refine zu<|vW<|yq<|zE<|zc rfl<|zc rfl ⟨false,congrArg some (decide_eq_false (by exact zc1 _)),yq<|zE<|zo<|zc rfl<|zo<|zc rfl<|zc rfl<|yB<|zf7<|zc rfl ?_⟩
 have e1 : ((hi - lo + 1 : Nat) : Int) - 1 = ((hi - lo : Nat) : Int):=by exact by simp
 rw [e1,ku]
 by_cases h1 : (hi - lo + 1) &&& (hi - lo) = 0
 ·refine ⟨false,by rw [h1];rfl,yq<|zE<|zo<|zc rfl<|zc rfl<|yH (by lia)<|zc rfl ?_⟩
  rw [yb]
  by_cases h2 : lo % (hi - lo + 1) = 0
  ·refine ⟨false,by rw [h2];rfl,yq<|zE<|zo<|zc rfl<|zc rfl<|zfu (by exact Int.natCast_nonneg _)<|zc rfl ?_⟩
   rw [Int.toNat_natCast,k8]
   by_cases h3 : hi / 2 ^ bits = 0
   ·refine ⟨false,by rw [h3];rfl,vU<|zf<|zj<|zc rfl<|kW ?_⟩
    have hp : ∃ j,hi - lo + 1 = 2 ^ j:=by
     have:=(Nat.and_sub_one_eq_zero_iff_isPowerOfTwo (n:=hi - lo + 1) (by lia)).mp (by rw [Nat.add_sub_cancel];exact h1)
     exact this
    obtain ⟨j,hj⟩:=hp
    have hlt : hi < 2 ^ bits:=by
     rcases (Nat.div_eq_zero_iff).mp h3 with z | z
     ·exact absurd z (Nat.ne_of_gt (Nat.pow_pos (by decide)))
     ·exact z
    have hjb : j ≤ bits:=(Nat.pow_le_pow_iff_right (a:=2) (by decide)).mp (by lia)
    rw [hj]
    refine (zei (m + 52) j qK _ (bits : Int) rfl rfl (by show j < 2000;exact zu4 (Nat.le_trans hjb hb) rfl)).mono fun f L1 H1 ⟨a,b',c⟩=>?_
    subst a b'
    refine zt<|zh c<|q _ (.inr ⟨j,by lia,by rw [← hj];exact h2,hlt,hjb,?_⟩)
    congr 1
    lia
   ·exact ⟨true,by show some (!decide ((((hi / 2 ^ bits : Nat) : Int)) = 0)) = _;rw [decide_eq_false (by exact zc5 h3)];rfl,zt<|zc rfl<|q _ (.inl rfl)⟩
  ·exact ⟨true,by show some (!decide ((((lo % (hi - lo + 1) : Nat) : Int)) = 0)) = _;rw [decide_eq_false (by exact zc5 h2)];rfl,zt<|zc rfl<|q _ (.inl rfl)⟩
 ·exact ⟨true,by show some (!decide (((((hi - lo + 1) &&& (hi - lo) : Nat) : Int)) = 0)) = _;rw [decide_eq_false (by exact zc5 h1)];rfl,zt<|zc rfl<|q _ (.inl rfl)⟩
end Mine
namespace Mine
open PySem
variable {n : Nat} {L : Loc} {H H' : Hp} {Q : PV → Hp → Prop} {b fl ho : Nat} {f : Fd} {rows rows' : List PV}
noncomputable def SA (o : Option (Loc × Hp)) (Q : Loc → Hp → Prop) : Prop:=∃ L H,o = some (L,H) ∧ Q L H
theorem zqg {o i : ME} {v : PV} {QA : Loc → Hp → Prop} (h : S2 (evE PP n o L H) fun ov H2=>S2 (evE PP n i L H2) fun iv H3=>∃ H4,wU ov iv v H3 = some H4 ∧ QA L H4) : SA (vA PP (n + 1) (.sub o i) v L H) QA:=by
 refine cp fun nq=>?_
 obtain ⟨_,_,h2,_,_,h3,H4,h4,q⟩:=h
 refine nq ?_
 exact ⟨L,H4,(zI h2).trans ((zI h3).trans (zr h4)),q⟩
theorem a_nil {QA : Loc → Hp → Prop} (q : QA L H) : SA (jV PP (n + 1) [] [] L H) QA:=⟨L,H,rfl,q⟩
theorem zqh {t : MT} {ts : List MT} {v : PV} {vs : List PV} {QA : Loc → Hp → Prop} (h : SA (vA PP n t v L H) fun L1 H1=>SA (jV PP n ts vs L1 H1) QA) : SA (jV PP (n + 1) (t :: ts) (v :: vs) L H) QA:=by
 refine cp fun nq=>?_
 obtain ⟨_,_,h1,L2,H2,h2,q⟩:=h
 refine nq ?_
 exact ⟨L2,H2,(zI h1).trans h2,q⟩
theorem a_tup {ts : List MT} {vs : List PV} {QA : Loc → Hp → Prop} (h : SA (jV PP n ts vs L H) QA) : SA (vA PP (n + 1) (.tup ts) (.tup vs) L H) QA:=h
theorem wN {o i e : ME} {ss : List MS} {QX : Fl → Loc → Hp → Prop} (h : S2 (evE PP (n + 1) e L H) fun v H1=>S2 (evE PP n o L H1) fun ov H2=>S2 (evE PP n i L H2) fun iv H3=>∃ H4,wU ov iv v H3 = some H4 ∧ SX (execs PP (n + 2) ss L H4) QX) : SX (execs PP (n + 3) (.assign (.sub o i) e :: ss) L H) QX :=
 jA (h.mono fun uu uu k=>zqg (QA:=fun L1 H1=>SX (execs PP (n + 2) ss L1 H1) QX) k)
noncomputable def zk0 (op g : Nat) (c : List UInt8) : PV:=.tup [.str 114,.str op,.int g,.bytes c]
noncomputable def rRng (op g : Nat) (c d : List UInt8) : PV:=.tup [.str 81,.str op,.int g,.bytes c,.bytes d]
noncomputable def tnR (f : Fd) (g : Nat) : List PV:=match Nat.beq f.ord 70 with
 | true=>[wg g f.sz]
 | false=>[]
theorem qW (f : Fd) (g : Nat) : (tnR f g).length ≤ 1:=by unfold tnR;split <;> simp
theorem s_tn {m g xv : Nat} {L : Loc} {QX : Fl → Loc → Hp → Prop} {ss : List MS} {ge gs : ME} (h1 : L 101 = some (.loc (b + 1))) (h2 : L 69 = some (.str f.ord)) (hg : evE PP (m + 60) ge L H = some (.int g,H)) (hs : L 13 = some (.int f.sz)) (R : Rw H b fl ho f rows) (hl : rows.length < 1000)
  (q : ∀ H',Rw H' b fl ho f (rows ++ tnR f g) → Same b H H' → SX (execs PP (m + 66) ss L H') QX) :
  SX (execs PP (m + 67) (.ifs (.cmp .Eq (.loc 69) (.cstr 70)) [.expr (.call (.glob 103) [.loc 101,ge,.loc 13])] [] :: ss) L H) QX:=by
 refine zu<|zE<|zh h2<|zc rfl ⟨Nat.beq f.ord 70,rfl,?_⟩
 unfold tnR at q
 cases hb : Nat.beq f.ord 70 with
 | true =>
  replace q:=hb ▸ q
  exact zy<|ze rfl<|za<|zh h1<|za<|zc hg<|za<|zh hs<|zi<|zbx _ _ _ R hl fun H1 R1 S1=>zf<|q _ R1 S1
 | false =>
  rw [hb,List.append_nil] at q
  exact zf<|q _ R Same.refl
noncomputable def mnR (op : Nat) (f : Fd) (ho x : Nat) : List PV:=match Nat.beq op 115 || Nat.beq op 142 with
 | true=>[zk0 op 0 (cB f.ord ho x f.sz)]
 | false=>tnR f 0 ++ [zk0 op 0 (cB 86 ho x f.sz)]
theorem Rw.as (R : Rw H b fl ho f rows) (e : rows = rows') : Rw H b fl ho f rows':=e ▸ R
theorem Rw.known (R : Rw H b fl ho f rows) {kn : List (Nat × PV)} (h : H[b + 4]? = some (.dict kn)) (hk : Kn kn) (v : PV) : Rw (H.set (b + 4) (.dict (dictSet 271 v kn))) b fl ho f rows ∧ Same b H (H.set (b + 4) (.dict (dictSet 271 v kn))):=by
 refine ⟨⟨yg R.i (by exact zn2 rfl),yg R.n (by exact zn3 rfl),yg R.d (by have:=R.lt;exact (zn1 R.lt).symm),yg R.r (by exact zn2 rfl),⟨_,kI h,?_⟩,R.lt,R.len⟩,fun i ob h1 h2 h=>yg h h2.symm⟩
 rcases hk with rfl | ⟨u,rfl⟩
 ·exact .inr ⟨v,rfl⟩
 ·exact .inr ⟨v,rfl⟩
theorem wX (m x op : Nat) (e : Ex) (hop : op = 115 ∨ op = 142 ∨ op = 202 ∨ op = 204) (hf : FdOk f) (hx : x < 256 ^ f.sz) (R : Rw H b fl ho f rows) (hl : rows.length < 900) (hho : Ho ho) (q : Gives b fl ho f H .none (rows ++ mnR op f ho x) Q) :
  S2 (zs PP (m + 150) (.fn 346) [.loc (b + 1),e.pv,.str op,.int x] H) Q:=by
 have hs:=ji hf
 refine zD rfl rfl<|zj<|ze rfl<|za<|z0 rfl R<|zn rfl<|j6 _ _ f e R.d<|zj<|ze rfl<|za<|z0 rfl R<|zn rfl<|k9 _ _ f e R.d ?_
 rcases hop with rfl | rfl | rfl | rfl
 ·refine zu<|zx rfl<|zy<|yf rfl R (by exact zu1 hl rfl)<|z8<|za<|zc rfl<|za<|zc rfl<|za<|zc rfl<|za<|ze rfl<|zn rfl<|yu _ f.ord x f.sz hho qa (by exact zu2 hs.2 rfl) hx R<|zi ⟨rfl,fun R1 S1=>?_⟩
  obtain ⟨kn,k1,k2⟩:=R1.k
  cases e with
  | fld =>
   have hlen : kn.length < 1000:=by rcases k2 with rfl | ⟨u,rfl⟩ <;> simp
   exact zu<|zx rfl<|wN<|zc rfl<|yh rfl R1.i R1.n rfl rfl<|zc rfl ⟨_,(zr k1).trans (zr (zA hlen)),zf<|zf<|zf<|q _ (R1.known k1 k2 _).1 (S1.trans (R1.known k1 k2 (.int x)).2)⟩
  | shr k=>exact zu<|zx rfl<|zf<|zf<|zf<|q _ R1 S1
  | mask k=>exact zu<|zx rfl<|zf<|zf<|zf<|q _ R1 S1
  | xor k=>exact zu<|zx rfl<|zf<|zf<|zf<|q _ R1 S1
 ·exact zu<|zx rfl<|zy<|yf rfl R (by exact zu1 hl rfl)<|z8<|za<|zc rfl<|za<|zc rfl<|za<|zc rfl<|za<|ze rfl<|zn rfl<|yu _ f.ord x f.sz hho qa (by exact zu2 hs.2 rfl) hx R<|zi ⟨rfl,fun R1 S1=>zu<|zx rfl<|zf<|zf<|zf<|q _ R1 S1⟩
 ·refine zu<|zx rfl<|zu<|zx rfl<|s_tn (m:=m + 74) (g:=0) (xv:=0) (gs:=.cint 0) rfl rfl rfl rfl R (by exact zu1 hl rfl) fun H1 R1 S1=>zy<|yf rfl R1 (by rw [List.length_append];have:=qW f 0;exact zw1 hl this rfl)<|z8<|za<|zc rfl<|za<|zc rfl<|za<|zc rfl<|za<|ze rfl<|zn rfl<|yu _ 86 x f.sz hho (.inr rfl) (by exact zu2 hs.2 rfl) hx R1<|zi ⟨rfl,fun R2 S2=>zf<|zf<|zf<|q _ ?_ (S1.trans S2)⟩
  exact R2.as (List.append_assoc ..)
 ·refine zu<|zx rfl<|zu<|zx rfl<|s_tn (m:=m + 74) (g:=0) (xv:=0) (gs:=.cint 0) rfl rfl rfl rfl R (by exact zu1 hl rfl) fun H1 R1 S1=>zy<|yf rfl R1 (by rw [List.length_append];have:=qW f 0;exact zw1 hl this rfl)<|z8<|za<|zc rfl<|za<|zc rfl<|za<|zc rfl<|za<|ze rfl<|zn rfl<|yu _ 86 x f.sz hho (.inr rfl) (by exact zu2 hs.2 rfl) hx R1<|zi ⟨rfl,fun R2 S2=>zf<|zf<|zf<|q _ ?_ (S1.trans S2)⟩
  exact R2.as (List.append_assoc ..)
noncomputable def Msp (op : Nat) (f : Fd) (ho : Nat) (e : Ex) (lo hi : Nat) (new : List PV) : Prop :=
 (∃ j,0 < j ∧ j < zG f e ∧ hi + 1 = lo + 2 ^ j ∧ lo % 2 ^ j = 0 ∧ hi < 2 ^ zG f e ∧ new = [zlz 0 f.ord ho f.sz 55 (2 ^ zG f e - 2 ^ j),zk0 op 0 (cB f.ord ho lo f.sz)]) ∨ new = tnR f 0 ++ [rRng op 0 (cB 86 ho lo f.sz) (cB 86 ho hi f.sz)]
theorem zbc (hf : FdOk f) (e : Ex) : zG f e ≤ 32:=by
 have:=ji hf
 have hb : f.bits ≤ 32:=by
  cases f with
  | mark=>exact Nat.le_refl _
  | iif=>exact (by decide : 16 ≤ 32)
  | pay b f=>obtain ⟨h1,h2,h3⟩:=hf;show b ≤ 32;exact zu2 h2 rfl
 cases e <;> first | exact hb | (show 8 * f.sz ≤ 32;lia)
theorem zpu {e1 e2 e3 : ME} {QB : Bool → Hp → Prop} {t : Bool} (h : SB (evC PP (n + 4) e1 L H) fun u H1=>match u with | false=>QB false H1 | true=>SB (evC PP (n + 3) e2 L H1) fun u H2=>match u with | false=>QB false H2 | true=>SB (evC PP (n + 2) e3 L H2) QB) : SB (evC PP (n + 6) (.bool true [e1,e2,e3]) L H) QB:=by
 refine cp fun nq=>?_
 obtain ⟨u,H1,h1,q⟩:=h
 refine nq ?_
 refine vW<|yq ⟨u,H1,h1,?_⟩
 cases u with
 | false=>exact q
 | true =>
  obtain ⟨u,H2,h2,q⟩:=q
  refine yq ⟨u,H2,h2,?_⟩
  cases u with
  | false=>exact q
  | true =>
   obtain ⟨u,H3,h3,q⟩:=q
   refine yq ⟨u,H3,h3,?_⟩
   cases u with
   | false=>exact q
   | true=>exact vU q
theorem zbz (m lo hi op : Nat) (e : Ex) (hlh : lo ≤ hi) (hf : FdOk f) (hx : hi < 256 ^ f.sz) (R : Rw H b fl ho f rows) (hl : rows.length < 900) (hho : Ho ho) (q : ∀ new,Msp op f ho e lo hi new → Gives b fl ho f H .none (rows ++ new) Q) :
  S2 (zs PP (m + 190) (.fn 353) [.loc (b + 1),e.pv,.str op,.int lo,.int hi] H) Q:=by
 have hs:=ji hf
 have h32:=zbc hf e
 refine zD rfl rfl<|zj<|ze rfl<|za<|z0 rfl R<|zn rfl<|j6 _ _ f e R.d<|zj<|ze rfl<|za<|z0 rfl R<|zn rfl<|k9 _ _ f e R.d<|zj<|ze rfl<|za<|z0 rfl R<|zn rfl<|zt7 _ e R.d<|zj<|ze rfl<|zn rfl<|zm1 _ lo hi (zG f e) hlh (by exact zu2 h32 rfl) fun r hr=>?_
 have tail : ∀ {L1 : Loc},L1 101 = some (.loc (b + 1)) → L1 69 = some (.str f.ord) → L1 13 = some (.int f.sz) → L1 141 = some (.str op) → L1 11 = some (.int lo) → L1 12 = some (.int hi) →
   SX (execs PP (m + 182) [.ifs (.cmp .Eq (.loc 69) (.cstr 70)) [.expr (.call (.glob 103) [.loc 101,.cint 0,.loc 13])] [],.expr (.meth (.attr (.loc 101) 94) 0 [.tup [.cstr 81,.loc 141,.cint 0,.call (.glob 100) [.loc 101,.loc 11,.loc 13,.cstr 86],.call (.glob 100) [.loc 101,.loc 12,.loc 13,.cstr 86]]])] L1 H) (FnQ Q):=by
  intro L1 a1 a2 a3 a4 a5 a6
  refine s_tn (m:=m + 115) (g:=0) (xv:=0) (gs:=.cint 0) a1 a2 rfl a3 R (by exact zu1 hl rfl) fun H1 R1 S1=>zy<|yf a1 R1 (by rw [List.length_append];have:=qW f 0;exact zw1 hl this rfl)<|z8<|za<|zc rfl<|za<|zh a4<|za<|zc rfl<|za<|ze rfl<|za<|zh a1<|za<|zh a5<|za<|zh a3<|zn rfl<|yu _ 86 lo f.sz hho (.inr rfl) (by exact zu2 hs.2 rfl) (by exact Nat.lt_of_le_of_lt hlh hx) R1<|za<|ze rfl<|za<|zh a1<|za<|zh a6<|za<|zh a3<|zn rfl<|yu _ 86 hi f.sz hho (.inr rfl) (by exact zu2 hs.2 rfl) hx R1<|zi ⟨rfl,fun R2 S2=>zf<|q _ (.inr rfl) _ (R2.as (List.append_assoc ..)) (S1.trans S2)⟩
 rcases hr with rfl | ⟨j,p1,p2,p3,p4,rfl⟩
 ·exact zu<|zpu (t:=true)<|zx rfl<|zf<|tail rfl rfl rfl rfl rfl rfl
 ·refine zu<|zpu (t:=true)<|zx rfl<|zE<|zc rfl<|zc rfl ⟨_,zjs,?_⟩
  cases h0 : decide (0 < zG f e - j) with
  | false=>exact zf<|tail rfl rfl rfl rfl rfl rfl
  | true =>
   refine zE<|zc rfl<|zc rfl ⟨decide (zG f e - j < zG f e),?_,?_⟩
   ·show some (decide (((zG f e - j : Nat) : Int) < (zG f e : Int))) = _
    congr 1
    by_cases h : zG f e - j < zG f e
    ·rw [decide_eq_true h,decide_eq_true (by exact Int.ofNat_lt.mpr h)]
    ·rw [decide_eq_false h,decide_eq_false (by lia)]
   ·cases h1 : decide (zG f e - j < zG f e) with
    | false=>exact zf<|tail rfl rfl rfl rfl rfl rfl
    | true =>
     have h0:=of_decide_eq_true h0
     have h1:=of_decide_eq_true h1
     refine zy<|ze rfl<|za<|zc rfl<|za<|zc rfl<|za<|zc rfl<|za<|zc rfl<|za<|ze rfl<|zn rfl<|zkt _ _ _ (by exact by simp) ⟨by exact Int.natCast_nonneg _,by exact zc2 h32 rfl⟩ (by lia) ?_
     have e1 : (1 : Int) * 2 ^ ((zG f e : Int)).toNat - 1 * 2 ^ (((zG f e : Int)) - ((zG f e - j : Nat) : Int)).toNat = ((2 ^ zG f e - 2 ^ j : Nat) : Int):=by
      rw [show (((zG f e : Int)) - ((zG f e - j : Nat) : Int)).toNat = j by lia,Int.toNat_natCast,Int.one_mul,Int.one_mul,ya,ya]
      have : 2 ^ j ≤ 2 ^ zG f e:=Nat.pow_le_pow_right (by decide) p4
      lia
     rw [e1]
     exact zi<|kM _ 0 _ 55 e (.inl rfl) hf R (by exact hl) hho fun H1 R1 S1=>zy<|yf rfl R1 (by rw [List.length_append];simp only [List.length_cons,List.length_nil];exact zv1 hl rfl)<|z8<|za<|zc rfl<|za<|zc rfl<|za<|zc rfl<|za<|ze rfl<|zn rfl<|yu _ f.ord lo f.sz hho qa (by exact zu2 hs.2 rfl) (by exact Nat.lt_of_le_of_lt hlh hx) R1<|zi ⟨rfl,fun R2 S2=>zt<|zc rfl<|q _ (.inl ⟨j,by lia,by lia,p1,p2,p3,rfl⟩) _ (R2.as (List.append_assoc ..)) (S1.trans S2)⟩
end Mine
namespace Mine
open PySem
variable {n : Nat} {L : Loc} {H H' : Hp} {Q : PV → Hp → Prop} {b fl ho : Nat} {f : Fd} {rows rows' : List PV}
set_option genCtorIdx false in
inductive Rt where
 | num (x : Nat) | span (lo hi : Nat)
noncomputable def Rt.pv : Rt → PV
 | .num x=>.tup [.str 289,.int x]
 | .span lo hi=>.tup [.str 151,.int lo,.int hi]
noncomputable def Mt (op : Nat) (f : Fd) (ho : Nat) (e : Ex) (r : Rt) (new : List PV) : Prop:=match r with
 | .num x=>new = (ldR 0 f ++ exR 0 f ho e) ++ mnR op f ho x
 | .span lo hi=>∃ n2,Msp op f ho e lo hi n2 ∧ new = (ldR 0 f ++ exR 0 f ho e) ++ n2
noncomputable def RtOk (op : Nat) (f : Fd) : Rt → Prop
 | .num x=>x < 256 ^ f.sz ∧ (op = 115 ∨ op = 142 ∨ op = 202 ∨ op = 204)
 | .span lo hi=>lo ≤ hi ∧ hi < 256 ^ f.sz
theorem vh (g : Nat) (f : Fd) (ho : Nat) (e : Ex) : (exR g f ho e).length ≤ 3:=by
 cases e with
 | shr k=>show (shR g f k).length ≤ 3;unfold shR;split <;> simp
 | _=>simp [exR]
theorem zb0 (m op : Nat) (e : Ex) (r : Rt) (hf : FdOk f) (hr : RtOk op f r) (R : Rw H b fl ho f rows) (hl : rows.length < 700) (hho : Ho ho) (q : ∀ new,Mt op f ho e r new → Gives b fl ho f H .none (rows ++ new) Q) :
  S2 (zs PP (m + 250) (.fn 360) [.loc (b + 1),.tup [.str 297,e.pv,.str op,r.pv],.int 0] H) Q:=by
 have l1 : ∀ H1,Rw H1 b fl ho f (rows ++ (ldR 0 f ++ exR 0 f ho e)) → (rows ++ (ldR 0 f ++ exR 0 f ho e)).length < 900:=fun uu uu=>by
  have:=qY 0 f;have:=vh 0 f ho e
  rw [List.length_append,List.length_append];lia
 cases r with
 | num x =>
  refine zD rfl rfl<|jA<|zc rfl ⟨_,_,rfl,zu<|zx rfl<|zf<|zy<|ze rfl<|zn rfl<|zg1 _ 0 e hf R (by exact zu1 hl rfl) hho fun H1 R1 S1=>zu<|zx rfl<|zy<|ze rfl<|zn rfl<|wX _ x op e hr.2 hf hr.1 R1 (l1 _ R1) hho fun H2 R2 S2=>zf<|zf<|q _ rfl _ (R2.as (List.append_assoc ..)) (S1.trans S2)⟩
 | span lo hi =>
  refine zD rfl rfl<|jA<|zc rfl ⟨_,_,rfl,zu<|zx rfl<|zf<|zy<|ze rfl<|zn rfl<|zg1 _ 0 e hf R (by exact zu1 hl rfl) hho fun H1 R1 S1=>zu<|zx rfl<|zy<|ze rfl<|zn rfl<|zbz _ lo hi op e hr.1 hf hr.2 R1 (l1 _ R1) hho fun n2 M2 H2 R2 S2=>zf<|zf<|q _ ⟨n2,M2,rfl⟩ _ (R2.as (List.append_assoc ..)) (S1.trans S2)⟩
theorem zgy (m : Nat) (v : PV) (R : Rw H b fl ho f rows) (hl : rows.length < 1000) (q : Gives b fl ho f H .none (rows ++ [v]) Q) : S2 (zs PP (m + 30) (.fn 332) [.loc (b + 1),v,.int 0] H) Q :=
 zD rfl rfl<|zy<|yf rfl R hl<|zc rfl ⟨rfl,fun R1 S1=>zf<|q _ R1 S1⟩
theorem Rw.below (R : Rw H b fl ho f rows) : b + 4 < H.length:=by
 obtain ⟨kn,h,_⟩:=R.k
 exact (List.getElem?_eq_some_iff.mp h).1
theorem zct {x j : Nat} {a : ME} {l : List PV} (hL : L x = some (.loc j)) (h5 : H[j]? = some (.list l)) (h : S2 (evE PP (n + 1) a L H) fun v H2=>∃ l2,H2[j]? = some (.list l2) ∧ l2.length ≤ 1000 ∧ Q .none (H2.set j (.list (l2 ++ [v])))) :
  S2 (evE PP (n + 3) (.meth (.loc x) 0 [a]) L H) Q:=by
 refine yw (zh hL ⟨rfl,h5,(by show (0 : Nat) ≠ 4;decide),za (h.mono fun v H2 ⟨l2,h6,h7,q⟩=>zi ⟨_,h6,rfl,_,_,?_,q⟩)⟩)
 exact zA (Nat.le_trans h7 (by decide))
theorem Same.new (h : Rw H b fl ho f rows) {ob : MObj} (S : Same b (H ++ [ob]) H') : H'[H.length]? = some ob:=S _ _ (by have:=h.below;lia) (by have:=h.below;exact Nat.ne_of_gt h.below) (zY (k:=0) rfl)
theorem Rw.off (R : Rw H b fl ho f rows) {j : Nat} (hj : b + 6 < j) (ob : MObj) (h6 : fl ≠ j) : Rw (H.set j ob) b fl ho f rows :=
 ⟨yg R.i (by lia),yg R.n (by lia),yg R.d (fun h=>h6 h.symm),yg R.r (by lia),let ⟨kn,h1,h2⟩:=R.k;⟨kn,yg h1 (by lia),h2⟩,R.lt,R.len⟩
theorem wY (m g : Nat) (e : Ex) (hg : g ≤ 12) (hf : FdOk f) (R : Rw H b fl ho f rows) (hb6 : b + 6 < H.length) (hl : rows.length < 700) (hho : Ho ho)
  (q : ∀ H',Rw H' b fl ho f (rows ++ ((ldR g f ++ exR g f ho e) ++ tnR f g)) → (∀ i ob,i < H.length → i ≠ b + 2 → i ≠ b + 4 → H[i]? = some ob → H'[i]? = some ob) → Q (.tup [.tup [.int f.sz,.str 86]]) H') :
  S2 (zs PP (m + 250) (.fn 325) [.loc (b + 1),.int g,e.pv,.bool true] H) Q:=by
 have hs:=ji hf
 have l1 : (rows ++ (ldR g f ++ exR g f ho e)).length < 900:=by
  have:=qY g f;have:=vh g f ho e
  rw [List.length_append,List.length_append];lia
 obtain ⟨R0,S0⟩:=R.more [.list []]
 have slots : ∀ {H1 : Hp} {Q1 : PV → Hp → Prop} (m : Nat),Q1 (.int 1) H1 → S2 (zs PP (m + 12) (.fn 248) [.int f.sz] H1) Q1:=fun m q1=>zja m _ (by
  have e : ((f.sz : Int) + 3).fdiv 4 = 1:=by rw [Int.fdiv_eq_ediv_of_nonneg _ (by decide)];lia
  exact e ▸ q1)
 have tail : ∀ {L1 : Loc} {H1 : Hp} {rows1 : List PV} {QX : Fl → Loc → Hp → Prop},L1 134 = some (.loc H.length) → L1 13 = some (.int f.sz) → L1 69 = some (.str 86) → L1 20 = some (.int g) → Rw H1 b fl ho f rows1 → Same b (H ++ [.list []]) H1 →
   (∀ L2 H2,L2 134 = some (.loc H.length) → H2[H.length]? = some (.list [.tup [.int f.sz,.str 86]]) → Rw H2 b fl ho f rows1 → (∀ i ob,i < H.length → i ≠ b + 2 → i ≠ b + 4 → H[i]? = some ob → H2[i]? = some ob) → QX .next L2 H2) →
   SX (execs PP (m + 238) [.expr (.meth (.loc 134) 0 [.tup [.loc 13,.loc 69]]),.aug 20 (.call (.glob 99) [.loc 13])] L1 H1) QX:=by
  intro L1 H1 rows1 QX a1 a2 a3 a4 R1 S1 q1
  have hd : H1[H.length]? = some (.list []):=Same.new R S1
  have hlt : fl < H.length:=(List.getElem?_eq_some_iff.mp R.d).1
  refine zy<|zct a1 hd<|z8<|za<|zh a2<|za<|zh a3<|zi ⟨[],hd,by decide,zsx a4<|ze rfl<|za<|zh a2<|zi<|slots _ ⟨1,rfl,zf ?_⟩⟩
  refine q1 _ _ (by show z5 L1 20 _ 134 = _;unfold z5;rw [if_neg (by decide)];exact a1) (kI hd) (R1.off hb6 _ (by exact Nat.ne_of_lt hlt)) ?_
  intro i ob h1 h2 h3 h4
  exact yg (S1 _ _ h2 h3 (yl h4)) (by exact Nat.ne_of_gt h1)
 have slt : ¬ (16 < (g : Int) + 1):=by lia
 refine zD rfl rfl<|zj<|zc rfl<|zj<|zc rfl<|jN<|za<|ze rfl<|zn rfl<|zq1 _ e<|zi ⟨[e.pv],rfl,zV rfl<|zj<|ze rfl<|za<|z0 rfl R0<|zn rfl<|j6 _ _ f e R0.d<|zj<|ze rfl<|za<|z0 rfl R0<|zn rfl<|k9 _ _ f e R0.d<|zu<|zE<|zo<|zc rfl<|ze rfl<|zn rfl<|slots _<|yc<|zc rfl ⟨false,(by show some (decide ((16 : Int) < (g : Int) + 1)) = _;rw [decide_eq_false slt]),zf<|zy<|ze rfl<|zn rfl<|zg1 _ g e hf R0 (by exact zu1 hl rfl) hho fun H1 R1 S1=>zu<|zdb<|zx rfl<|zE<|zc rfl<|zc rfl ⟨Nat.beq f.ord 70,rfl,?_⟩⟩⟩
 unfold tnR at q
 have fin : ∀ {L2 : Loc} {H2 : Hp} {rows2 : List PV} (hr : rows2 = (ldR g f ++ exR g f ho e) ++ tnR f g),L2 134 = some (.loc H.length) → H2[H.length]? = some (.list [.tup [.int f.sz,.str 86]]) → Rw H2 b fl ho f (rows ++ rows2) → (∀ i ob,i < H.length → i ≠ b + 2 → i ≠ b + 4 → H[i]? = some ob → H2[i]? = some ob) → 
   SX (execs PP (m + 244) [.ret (.call (.glob 49) [.loc 134])] L2 H2) (FnQ Q):=by
  intro L2 H2 rows2 hr h2 h3 h4 h5
  refine zt<|ze rfl<|za<|zh h2<|zi<|kx (r:=.tup [.tup [.int f.sz,.str 86]]) (H1:=H2) ?_<|q _ (by subst hr;exact h4) h5
  exact zr (yv h3)
 cases h : Nat.beq f.ord 70 with
 | true =>
  refine zy<|ze rfl<|zn rfl<|zbx _ _ _ R1 (by exact zu1 l1 rfl) fun H2 R2 S2=>zj<|zc rfl<|zf<|tail rfl rfl rfl rfl R2 (S1.trans S2) fun L3 H3 h1 h2 R3 h3=>jw<|fin ?_ h1 h2 (R3.as (List.append_assoc ..)) h3
  unfold tnR;rw [h]
 | false =>
  refine zf<|tail rfl rfl ?_ rfl R1 S1 fun L3 H3 h1 h2 R3 h3=>jw<|fin ?_ h1 h2 R3 h3
  ·have : f.ord = 86:=by cases f <;> first | rfl | (cases h;done)
   show some (PV.str f.ord) = _
   rw [this]
  ·unfold tnR;rw [h,List.append_nil]
end Mine
namespace Mine
open PySem
variable {n : Nat} {L : Loc} {H H' : Hp} {Q : PV → Hp → Prop} {c : Nat} {o o' : List UInt8}
noncomputable def rg (o : List UInt8) (g s : Nat) : List UInt8:=(o.take (4 * g + s)).drop (4 * g)
noncomputable def rp (o : List UInt8) (g : Nat) (l : List UInt8) : List UInt8:=o.take (4 * g) ++ (l ++ List.replicate (4 - l.length) 0) ++ o.drop (4 * g + 4)
theorem zg8 {g : Nat} {l : List UInt8} (ho : o.length = 64) (hg : g ≤ 15) (hl : l.length ≤ 4) : (rp o g l).length = 64:=by
 have hle : 4 * g + 4 ≤ 64:=Nat.add_le_add_right (Nat.mul_le_mul_left 4 hg) 4
 unfold rp
 rw [List.length_append,List.length_append,List.length_append,List.length_replicate,List.length_drop,ho,List.length_take_of_le (by rw [ho];exact Nat.le_trans (Nat.le_add_right _ _) hle),Nat.add_sub_cancel' hl]
 exact Nat.add_sub_cancel' hle
theorem vJ {g s : Nat} (ho : o.length = 64) (hg : g ≤ 15) (hs : s ≤ 4) : (rg o g s).length = s:=by
 exact yz (by rw [ho];exact Nat.add_le_add (Nat.mul_le_mul_left 4 hg) hs)
theorem rg_rp {g : Nat} {l : List UInt8} (ho : o.length = 64) (hg : g ≤ 15) (hl : l.length ≤ 4) : rg (rp o g l) g l.length = l:=by
 unfold rg rp
 have h1 : (o.take (4 * g)).length = 4 * g:=by simp only [List.length_take];lia
 generalize o.take (4 * g) = A at h1
 generalize o.drop (4 * g + 4) = B
 rw [List.append_assoc,List.append_assoc,← h1,List.take_length_add_append,List.drop_left,List.take_left]
structure Rg (H : Hp) (c : Nat) (o : List UInt8) : Prop where
 i : H[c + 1]? = some (.inst 483 c)
 n : H[c]? = some (.ns [(75,.loc (c + 2))])
 v : H[c + 2]? = some (.barr o)
 len : o.length = 64
noncomputable def Kp (c : Nat) (H H' : Hp) : Prop:=∀ i ob,i ≠ c + 2 → H[i]? = some ob → H'[i]? = some ob
theorem Kp.refl : Kp c H H:=fun uu uu uu h=>h
theorem Kp.trans {H1 H2 H3 : Hp} (h : Kp c H1 H2) (k : Kp c H2 H3) : Kp c H1 H3:=fun i ob a e=>k i ob a (h i ob a e)
theorem Rg.set (R : Rg H c o) (hl : o'.length = 64) : Rg (H.set (c + 2) (.barr o')) c o' ∧ Kp c H (H.set (c + 2) (.barr o')) :=
 ⟨⟨yg R.i (by exact zn2 rfl),yg R.n (by exact zn3 rfl),kI R.v,hl⟩,fun i ob h1 h=>yg h h1.symm⟩
theorem zte (hL : L 18 = some (.loc (c + 1))) (R : Rg H c o) (q : Q (.loc (c + 2)) H) : S2 (evE PP (n + 2) (.attr (.loc 18) 75) L H) Q:=yh hL R.i R.n rfl rfl q
theorem zfc {oo : Option (PV × Hp)} {v : PV} (h : S2 oo fun v' H'=>v' = v ∧ H' = H) : oo = some (v,H):=by
 obtain ⟨v',H',h1,rfl,rfl⟩:=h
 exact h1
theorem zcc (g : Nat) : jd .Lt (.int g) (.int 0) H = some false:=by
 show some (decide ((g : Int) < 0)) = _
 rw [decide_eq_false (by exact zc1 _)]
theorem s_get (m g s : Nat) (hg : g ≤ 15) (hs : s ≤ 4) (R : Rg H c o) (q : Q (.bytes (rg o g s)) H) : S2 (zs PP (m + 30) (.fn 473) [.loc (c + 1),.int g,.int s] H) Q:=by
 have e1 : (4 : Int) * (g : Int) = ((4 * g : Nat) : Int):=by rw [Int.natCast_mul];rfl
 refine zD rfl rfl<|zu<|zj8<|zE<|zc rfl<|zc rfl ⟨_,zcc g,zE<|zo<|zo<|zc rfl<|zc rfl<|yP (.inl (by decide))<|zc rfl<|yc<|zc rfl ⟨false,?_,zf<|zt<|ze rfl<|za<|qi<|zte rfl R<|zo<|zc rfl<|zc rfl<|yP (.inl (by decide))<|zo<|zo<|zc rfl<|zc rfl<|yP (.inl (by decide))<|zc rfl<|yc<|zc rfl ⟨.barr (rg o g s),?_,zi<|kx (r:=.bytes (rg o g s)) (H1:=H) ?_ q⟩⟩⟩
 ·show some (decide ((64 : Int) < 4 * (g : Int) + (s : Int))) = _
  rw [decide_eq_false (by lia)]
 ·have hl:=R.len
  have h2 : (0 : Int) ≤ 4 * (g : Int) ∧ 4 * (g : Int) ≤ 4 * (g : Int) + (s : Int) ∧ 4 * (g : Int) + (s : Int) ≤ (o.length : Int) ∧ o.length ≤ 1000:=⟨Int.natCast_nonneg (4 * g),Int.ofNat_le.mpr (Nat.le_add_right (4 * g) s),Int.ofNat_le.mpr (by rw [hl];exact Nat.add_le_add (Nat.mul_le_mul_left 4 hg) hs),hl ▸ by decide⟩
  exact (zr (vY R.v)).trans ((zA h2).trans rfl)
 ·have hl:=vJ R.len hg hs
  exact zr (zA (by lia))
theorem s_put (m g : Nat) (l : List UInt8) (hg : g ≤ 15) (h1 : 1 ≤ l.length) (h4 : l.length ≤ 4) (R : Rg H c o) (q : ∀ H',Rg H' c (rp o g l) → Kp c H H' → Q .none H') : S2 (zs PP (m + 60) (.fn 480) [.loc (c + 1),.int g,.bytes l] H) Q:=by
 have hlen : (l ++ List.replicate (4 - l.length) (0 : UInt8)).length = 4:=by rw [List.length_append,List.length_replicate];exact Nat.add_sub_cancel' h4
 have kl : ∀ {m : Nat} {Q1 : PV → Hp → Prop},Q1 (.int 4) H → S2 (zs PP (m + 3) (.bi 1) [.bytes (l ++ List.replicate (4 - l.length) 0)] H) Q1:=fun q1=>qq (k:=4) (by show some (l ++ List.replicate (4 - l.length) (0 : UInt8)).length = _;rw [hlen]) (by decide) q1
 refine zD rfl rfl<|zj<|ze rfl<|zn rfl<|zt2 _ _ h1 h4<|zu<|zj8<|zE<|zc rfl<|zc rfl ⟨_,zcc g,zE<|zo<|zo<|zc rfl<|zc rfl<|yP (.inl (by decide))<|ze rfl<|zn rfl<|kl<|yc<|zc rfl ⟨false,?_,zf<|jA<|zc rfl ⟨z5 (z5 (z5 (z5 (fun x=>none) 75 (.bytes l)) 104 (.int g)) 18 (.loc (c + 1))) 214 (.bytes (l ++ List.replicate (4 - l.length) 0)),H.set (c + 2) (.barr (rp o g l)),?_,zf (q _ (R.set (zg8 R.len hg h4)).1 (R.set (zg8 R.len hg h4)).2)⟩⟩⟩
 ·show some (decide ((64 : Int) < 4 * (g : Int) + 4)) = _
  rw [decide_eq_false (by lia)]
 ·have a1 : ∀ {LL : Loc} {k : Nat},LL 18 = some (.loc (c + 1)) → evE PP (k + 2) (.attr (.loc 18) 75) LL H = some (.loc (c + 2),H):=fun h=>zfc<|zte h R ⟨rfl,rfl⟩
  have a2 : ∀ {LL : Loc} {k : Nat},LL 104 = some (.int g) → evE PP (k + 6) (.bin .Mult (.cint 4) (.loc 104)) LL H = some (.int (4 * (g : Int)),H):=fun h=>zfc<|zo<|zc rfl<|zh h<|yP (.inl (by decide)) ⟨rfl,rfl⟩
  have a3 : ∀ {LL : Loc} {k : Nat},LL 104 = some (.int g) → LL 214 = some (.bytes (l ++ List.replicate (4 - l.length) 0)) → evE PP (k + 16) (.bin .Add (.bin .Mult (.cint 4) (.loc 104)) (.call (.glob 84) [.loc 214])) LL H = some (.int (4 * (g : Int) + 4),H):=fun h h'=>zfc<|zo<|zc (a2 h)<|ze rfl<|za<|zh h'<|zi<|kl<|yc ⟨rfl,rfl⟩
  have hl:=R.len
  have h2 : (0 : Int) ≤ 4 * (g : Int) ∧ 4 * (g : Int) ≤ 4 * (g : Int) + 4 ∧ 4 * (g : Int) + 4 ≤ (o.length : Int) ∧ ((l ++ List.replicate (4 - l.length) (0 : UInt8)).length : Int) = 4 * (g : Int) + 4 - 4 * (g : Int) ∧ o.length ≤ 1000:=by rw [hlen];lia
  exact (zI (a1 rfl)).trans ((zI (a2 rfl)).trans ((zI (a3 rfl rfl)).trans (zr ((zr (vY R.v)).trans ((zA h2).trans rfl)))))
theorem zt0 (m : Nat) (q : ∀ H',Rg H' H.length (List.replicate 64 0) → (∀ i ob,i < H.length → H[i]? = some ob → H'[i]? = some ob) → Q (.loc (H.length + 1)) H') : S2 (zs PP (m + 30) (.fn 483) [] H) Q:=by
 refine zaz rfl rfl<|zD rfl rfl<|vC<|ze rfl<|zn rfl<|kx (r:=.loc (H.length + 2)) (H1:=H ++ [.ns [],.inst 483 H.length] ++ [.barr (List.replicate 64 0)]) ?_ ⟨rfl,yl (zY (k:=1) rfl),yl (zY (k:=0) rfl),rfl,by decide,zf ⟨rfl,?_⟩⟩
 ·have e : zfn PP 5 (.int 64) (H ++ [MObj.ns [],.inst 483 H.length]) = some (PV.loc (H ++ [MObj.ns [],.inst 483 H.length]).length,(H ++ [MObj.ns [],.inst 483 H.length]) ++ [MObj.barr (List.replicate 64 0)]):=rfl
  rw [e,List.length_append];rfl
 ·have e : (H ++ [MObj.ns [],.inst 483 H.length] ++ [MObj.barr (List.replicate 64 0)]).set (H.length + 0) (.ns (dictSet 75 (.loc (H.length + 2)) [])) = H ++ [MObj.ns [(75,.loc (H.length + 2))],.inst 483 H.length,.barr (List.replicate 64 0)]:=by
   rw [List.append_assoc];exact zgu (k:=0)
  rw [e]
  refine q _ ⟨zY (k:=1) rfl,zY (k:=0) rfl,zY (k:=2) rfl,by decide⟩ fun i ob h1 h2=>yl h2
end Mine
namespace Mine
open PySem
theorem yd {x s : Nat} (h : x < 256 ^ s) : zw (zK x s) = x:=by rw [zau,Nat.mod_eq_of_lt h]
theorem y9 {l : List UInt8} {s : Nat} (h : l.length = s) : zK (zw l) s = l:=by subst h;exact zas l
theorem jP (s : Nat) : (256 : Nat) ^ s = 2 ^ (8 * s):=by rw [Nat.pow_mul]
theorem zk8 (a b : Nat) : UInt8.ofNat (a &&& b) = UInt8.ofNat a &&& UInt8.ofNat b:=by
 apply UInt8.toNat_inj.mp
 rw [UInt8.toNat_and,UInt8.toNat_ofNat',UInt8.toNat_ofNat',UInt8.toNat_ofNat',Nat.and_mod_two_pow]
theorem zk7 (a b : Nat) : UInt8.ofNat (a ^^^ b) = UInt8.ofNat a ^^^ UInt8.ofNat b:=by
 apply UInt8.toNat_inj.mp
 rw [UInt8.toNat_xor,UInt8.toNat_ofNat',UInt8.toNat_ofNat',UInt8.toNat_ofNat',Nat.xor_mod_two_pow]
theorem zsa (a b k : Nat) : (a &&& b) / 2 ^ k = (a / 2 ^ k) &&& (b / 2 ^ k):=by
 rw [← Nat.shiftRight_eq_div_pow,← Nat.shiftRight_eq_div_pow,← Nat.shiftRight_eq_div_pow,Nat.shiftRight_and_distrib]
theorem zr9 (a b k : Nat) : (a ^^^ b) / 2 ^ k = (a / 2 ^ k) ^^^ (b / 2 ^ k):=by
 rw [← Nat.shiftRight_eq_div_pow,← Nat.shiftRight_eq_div_pow,← Nat.shiftRight_eq_div_pow,Nat.shiftRight_xor_distrib]
theorem qI (x y : Nat) : ∀ s,zK (x &&& y) s = List.zipWith (· &&& ·) (zK x s) (zK y s)
 | 0=>rfl
 | s + 1=>by rw [zK,zK,zK,List.zipWith_cons_cons,qI x y s,jP,zsa,zk8]
theorem qH (x y : Nat) : ∀ s,zK (x ^^^ y) s = List.zipWith (· ^^^ ·) (zK x s) (zK y s)
 | 0=>rfl
 | s + 1=>by rw [zK,zK,zK,List.zipWith_cons_cons,qH x y s,jP,zr9,zk7]
theorem zvf (o ho x m y s : Nat) : zK ((zw (cB o ho x s) &&& zw (cB o ho m s)) ^^^ zw (cB o ho y s)) s = cB o ho ((x &&& m) ^^^ y) s:=by
 have k : ∀ {A B C : List UInt8},A.length = s → B.length = s → C.length = s → zK ((zw A &&& zw B) ^^^ zw C) s = List.zipWith (· ^^^ ·) (List.zipWith (· &&& ·) A B) C:=fun h1 h2 h3=>by
  rw [qH,qI,y9 h1,y9 h2,y9 h3]
 have r : ∀ n,(zK n s).reverse.length = s:=fun n=>by rw [List.length_reverse,zz]
 unfold cB
 split
 ·rw [k (zz ..) (zz ..) (zz ..),qH,qI]
 ·split
  ·rw [k (r _) (r _) (r _),qH,qI,List.reverse_zipWith,List.reverse_zipWith]
   ·rw [zz,zz]
   ·rw [List.length_zipWith,zz,zz,zz,Nat.min_self]
  ·rw [k (zz ..) (zz ..) (zz ..),qH,qI]
theorem cB86 (ho x s : Nat) : cB 86 ho x s = zK x s:=rfl
theorem zmj (ho x s : Nat) (h : Ho ho) : cB 70 ho (zw (cB 70 ho x s)) s = zK x s:=by
 rcases h with rfl | rfl
 ·skip
  exact y9 (zz ..)
 ·show (zK (zw (zK x s).reverse) s).reverse = _
  rw [y9 (by rw [List.length_reverse,zz]),List.reverse_reverse]
theorem zkg {ho x s : Nat} (hx : x < 256 ^ s) : cB 70 ho (zw (zK x s)) s = cB 70 ho x s:=by rw [yd hx]
theorem zvd {o ho x y s : Nat} (hx : x < 256 ^ s) (hy : y < 256 ^ s) (h : zw (cB o ho x s) = zw (cB o ho y s)) : x = y:=by
 have e : cB o ho x s = cB o ho y s:=by
  have l : ∀ z,(cB o ho z s).length = s:=fun z=>by unfold cB;split;exact zz ..;split;rw [List.length_reverse,zz];exact zz ..
  rw [← y9 (l x),h,y9 (l y)]
 have e2 : zK x s = zK y s:=by
  unfold cB at e
  split at e
  ·exact e
  ·split at e
   ·exact List.reverse_inj.mp e
   ·exact e
 rw [← yd hx,e2,yd hy]
theorem xT (x b j : Nat) : x &&& ((2 ^ b - 1) * 2 ^ j) = (x / 2 ^ j % 2 ^ b) * 2 ^ j:=by
 rw [← Nat.and_two_pow_sub_one_eq_mod,← Nat.shiftLeft_eq,← Nat.shiftLeft_eq,← Nat.shiftRight_eq_div_pow]
 apply Nat.eq_of_testBit_eq
 intro i
 rw [Nat.testBit_and,Nat.testBit_shiftLeft,Nat.testBit_shiftLeft,Nat.testBit_and,Nat.testBit_shiftRight]
 by_cases h : j ≤ i
 ·rw [show j + (i - j) = i by lia];simp [h]
 ·simp [h]
theorem zsc (x b j : Nat) : (x &&& ((2 ^ b - 1) * 2 ^ j)) / 2 ^ j = x / 2 ^ j % 2 ^ b:=by
 rw [xT,Nat.mul_div_cancel _ (Nat.pow_pos (by decide))]
theorem zq9 {x lo hi b j : Nat} (hx : x < 2 ^ b) (hj : j ≤ b) (h1 : hi + 1 = lo + 2 ^ j) (h2 : lo % 2 ^ j = 0) : (x &&& (2 ^ b - 2 ^ j) = lo) ↔ (lo ≤ x ∧ x ≤ hi):=by
 have hp : 0 < 2 ^ j:=Nat.pow_pos (by decide)
 have e : 2 ^ b - 2 ^ j = (2 ^ (b - j) - 1) * 2 ^ j:=by
  rw [Nat.sub_mul,← Nat.pow_add,Nat.one_mul,show b - j + j = b by lia]
 have e2 : x / 2 ^ j % 2 ^ (b - j) = x / 2 ^ j:=by
  apply Nat.mod_eq_of_lt
  apply Nat.div_lt_of_lt_mul
  rw [← Nat.pow_add,show j + (b - j) = b by lia];exact hx
 rw [e,xT,e2]
 have d1:=Nat.div_add_mod x (2 ^ j)
 have d2:=Nat.div_add_mod lo (2 ^ j)
 have d3:=Nat.mod_lt x hp
 rw [h2,Nat.add_zero] at d2
 constructor
 ·intro h
  replace h:=(Nat.mul_comm ..) ▸ h
  lia
 ·rintro ⟨h3,h4⟩
  have : x / 2 ^ j = lo / 2 ^ j:=by
   apply Nat.div_eq_of_lt_le
   ·rw [Nat.mul_comm,d2];exact h3
   ·rw [Nat.succ_mul,Nat.mul_comm (lo / 2 ^ j),d2];lia
  rw [this,Nat.mul_comm,d2]
theorem wi (a b : List UInt8) : zw (a ++ b) = zw a * 256 ^ b.length + zw b:=by
 unfold zw
 rw [List.foldl_append,wI];rfl
theorem zhe (d : List UInt8) (a k : Nat) (h : a + k ≤ d.length) : zw ((d.take (a + k)).drop a) = zw d / 256 ^ (d.length - a - k) % 256 ^ k:=by
 have l1 : ((d.take (a + k)).drop a).length = k:=yz h
 have l2 : (d.drop (a + k)).length = d.length - a - k:=by rw [List.length_drop];lia
 have e1 : d = d.take a ++ ((d.take (a + k)).drop a ++ d.drop (a + k)):=by
  rw [← List.append_assoc]
  have : d.take a ++ (d.take (a + k)).drop a = d.take (a + k):=by
   have:=List.take_append_drop a (d.take (a + k))
   rwa [List.take_take,Nat.min_eq_left (Nat.le_add_right a k)] at this
  rw [this,List.take_append_drop]
 have hn : zw d = (zw (d.take a) * 256 ^ k + zw ((d.take (a + k)).drop a)) * 256 ^ (d.length - a - k) + zw (d.drop (a + k)):=by
  have:=congrArg zw e1
  rw [wi,wi,List.length_append,l1,l2] at this
  rw [this,Nat.pow_add,Nat.add_mul,Nat.mul_assoc,Nat.add_assoc]
 have h1:=jm (d.drop (a + k))
 have h2:=jm ((d.take (a + k)).drop a)
 rw [l2] at h1
 rw [l1] at h2
 rw [hn,Nat.add_comm _ (zw (d.drop (a + k))),Nat.add_mul_div_right _ _ (Nat.pow_pos (by decide)),Nat.div_eq_of_lt h1,Nat.zero_add,Nat.mul_add_mod_self_right,Nat.mod_eq_of_lt h2]
theorem q_le {q s m : Nat} (h1 : 8 * s ≤ m + 7) (h2 : 8 * q + m ≤ 96) : q + s ≤ 12:=by lia
theorem zq8 {q s u r b t : Nat} (h1 : 12 = q + s + u) (h2 : 8 * s = r + (b + t)) : 96 = 8 * u + r + (8 * q + t + b):=by lia
theorem piece (d : List UInt8) (hd : d.length = 12) (f b : Nat) (hb : 1 ≤ b) (h : f + b ≤ 96) :
  zw ((d.take (f / 8 + (f % 8 + b + 7) / 8)).drop (f / 8)) / 2 ^ (8 * ((f % 8 + b + 7) / 8) - f % 8 - b) % 2 ^ b = zw d / 2 ^ (96 - f - b) % 2 ^ b:=by
 have hf:=Nat.div_add_mod f 8
 have hc:=zj4 (f % 8 + b)
 have hq : f / 8 + (f % 8 + b + 7) / 8 ≤ 12:=q_le (Nat.mul_div_le _ 8) (by rw [← Nat.add_assoc,hf];exact h)
 rw [zhe _ _ _ (hd ▸ hq),hd,jP,jP]
 generalize f % 8 = t at *
 generalize f / 8 = q at *
 generalize (t + b + 7) / 8 = s at *
 have e2 : 8 * s = (8 * s - t - b) + (b + t):=by rw [Nat.sub_sub,Nat.add_comm b t,Nat.sub_add_cancel hc]
 generalize 8 * s - t - b = r at *
 obtain ⟨u,hu⟩:=Nat.exists_eq_add_of_le hq
 have e1 : 8 * (12 - q - s) + r = 96 - f - b:=by
  rw [Nat.sub_sub,Nat.sub_sub,← hf]
  exact (congrArg (fun x=>8 * x + r) (Nat.sub_eq_of_eq_add (Nat.add_comm u _ ▸ hu))).trans (Nat.sub_eq_of_eq_add (zq8 hu e2)).symm
 rw [e2,Nat.pow_add 2 r,Nat.mod_mul_right_div_self,Nat.div_div_eq_div_mul,← Nat.pow_add,e1,Nat.pow_add 2 b,Nat.mod_mul_right_mod]
end Mine
namespace Mine
open PySem
variable {n : Nat} {L : Loc} {H H' : Hp} {Q : PV → Hp → Prop} {c : Nat} {o o' : List UInt8}
structure En where
 s : Nat
 sn : Nat
 od : Nat
 sd : Nat
 p : Nat
 pn : Nat
 pd : Nat
 pm : Nat
 fl : Nat
 ho : Nat
 mark : Nat
 iif : Nat
 data : List UInt8
 B : Nat
noncomputable def zne : List (Nat × PV):=[(66,.fn 564),(111,.fn 571),(118,.fn 536),(119,.fn 543),(114,.fn 522),(106,.fn 550),(81,.fn 529),(291,.fn 585),(292,.fn 592),(219,.fn 515)]
structure EnvH (H : Hp) (E : En) : Prop where
 i : H[E.s]? = some (.inst 427 E.sn)
 n : ∃ es,H[E.sn]? = some (.ns es) ∧ dictGet 69 es = some (.str E.ho) ∧ dictGet 171 es = some (.loc E.p) ∧ dictGet 191 es = some (.loc E.od) ∧ dictGet 95 es = some (.loc E.sd) ∧ dictGet 51 es = some (.loc E.fl) ∧ dictGet 181 es = some (.int 0) ∧ es.length ≤ 30
 od : H[E.od]? = some (.dict zne)
 pi : H[E.p]? = some (.inst 384 E.pn)
 pn : ∃ es,H[E.pn]? = some (.ns es) ∧ dictGet 165 es = some (.loc E.pd) ∧ dictGet 111 es = some (.loc E.pm)
 pd : H[E.pd]? = some (.barr E.data)
 pm : ∃ es,H[E.pm]? = some (.dict es) ∧ dictGet 155 es = some (.int E.mark) ∧ dictGet 162 es = some (.int E.iif)
 ho : Ho E.ho
 ml : E.mark < 256 ^ 4
 il : E.iif < 256 ^ 2
 dl : E.data.length = 12
 lt : E.s < E.B ∧ E.sn < E.B ∧ E.od < E.B ∧ E.p < E.B ∧ E.pn < E.B ∧ E.pd < E.B ∧ E.pm < E.B
 ne : E.pn ≠ E.sn
variable {E : En}
theorem EnvH.keep (h : EnvH H E) (k : ∀ i ob,i < E.B → H[i]? = some ob → H'[i]? = some ob) : EnvH H' E:=by
 refine cp fun nq=>?_
 obtain ⟨i,⟨es,n1,n2⟩,od,pi,⟨es2,p1,p2⟩,pd,⟨es3,q1,q2⟩,a,b1,b2,d,⟨l1,l2,l3,l4,l5,l6,l7⟩,ne⟩:=h
 refine nq ?_
 exact ⟨k _ _ l1 i,⟨es,k _ _ l2 n1,n2⟩,k _ _ l3 od,k _ _ l4 pi,⟨es2,k _ _ l5 p1,p2⟩,k _ _ l6 pd,⟨es3,k _ _ l7 q1,q2⟩,a,b1,b2,d,⟨l1,l2,l3,l4,l5,l6,l7⟩,ne⟩
theorem EnvH.kp (h : EnvH H E) (hB : E.B ≤ c) (k : Kp c H H') : EnvH H' E:=h.keep fun i ob h1 h2=>k i ob (by exact zn6 h1 hB) h2
noncomputable def brk : PV:=.tup [.str 225,.str 226]
noncomputable def goV : Bool → PV
 | true=>.none
 | false=>brk
theorem zkv (m : Nat) (t : Bool) (q : Q (goV t) H) : S2 (zs PP (m + 12) (.fn 508) [.bool t] H) Q:=by
 cases t with
 | true=>exact zku m q
 | false=>exact zg4 m q
noncomputable def CmpR (op a b : Nat) (r : Bool) : Prop:=(op = 115 ∧ r = decide (a = b)) ∨ (op = 142 ∧ r = !decide (a = b)) ∨ (op = 202 ∧ r = decide (b ≤ a)) ∨ (op = 204 ∧ r = decide (a ≤ b))
theorem qQ (a b : Nat) : decide ((a : Int) = (b : Int)) = decide (a = b):=decide_eq_decide.mpr Int.ofNat_inj
theorem kT (a b : Nat) : decide ((a : Int) ≤ (b : Int)) = decide (a ≤ b):=decide_eq_decide.mpr Int.ofNat_le
theorem zpg (a b : Nat) : decide ((a : Int) < (b : Int)) = decide (a < b):=decide_eq_decide.mpr Int.ofNat_lt
theorem zg6 (m op a b : Nat) (r : Bool) (h : CmpR op a b r) (q : Q (.bool r) H) : S2 (zs PP (m + 20) (.fn 445) [.str op,.int a,.int b] H) Q:=by
 have e1 : ∀ x y : Bool,eqD (.bool x) (.bool y) = (x == y):=fun x y=>rfl
 rcases h with ⟨rfl,rfl⟩ | ⟨rfl,rfl⟩ | ⟨rfl,rfl⟩ | ⟨rfl,rfl⟩
 ·refine zD rfl rfl<|zu<|zx rfl<|zt<|yL<|yL<|zc rfl<|zc rfl ⟨_,rfl,zc rfl ⟨decide (a = b),?_,q⟩⟩
  show some (decide ((a : Int) = (b : Int)) == true) = _
  rw [qQ]
  cases decide (a = b) <;> rfl
 ·refine zD rfl rfl<|zu<|zx rfl<|zt<|yL<|yL<|zc rfl<|zc rfl ⟨_,rfl,zc rfl ⟨!decide (a = b),?_,q⟩⟩
  show some (decide ((a : Int) = (b : Int)) == false) = _
  rw [qQ]
  cases decide (a = b) <;> rfl
 ·refine zD rfl rfl<|zu<|zx rfl<|zf<|zu<|zx rfl<|zt<|yL<|yL<|zc rfl<|zc rfl ⟨_,rfl,zc rfl ⟨decide (b ≤ a),?_,q⟩⟩
  show some (decide ((a : Int) < (b : Int)) == false) = _
  by_cases h : b ≤ a
  ·rw [decide_eq_true h,decide_eq_false (by lia)];rfl
  ·rw [decide_eq_false h,decide_eq_true (by lia)];rfl
 ·refine zD rfl rfl<|zu<|zx rfl<|zf<|zu<|zx rfl<|zf<|zu<|zx rfl<|zt<|yL<|yL<|zc rfl<|zc rfl ⟨_,rfl,zc rfl ⟨decide (a ≤ b),?_,q⟩⟩
  show some (decide ((b : Int) < (a : Int)) == false) = _
  by_cases h : a ≤ b
  ·rw [decide_eq_true h,decide_eq_false (by lia)];rfl
  ·rw [decide_eq_false h,decide_eq_true (by lia)];rfl
noncomputable abbrev Op (E : En) (H : Hp) (c rw : Nat) (f : Nat) (m : Nat) (row : PV) (Q : PV → Hp → Prop) : Prop:=S2 (zs PP (m + 120) (.fn f) [.loc E.s,.loc (c + 1),row,.loc rw] H) Q
noncomputable abbrev Put (H : Hp) (c : Nat) (o : List UInt8) (Q : PV → Hp → Prop) : Prop:=∀ H',Rg H' c o → Kp c H H' → Q .none H'
theorem vT {g s : Nat} {a b : ME} (hL : L 217 = some (.loc (c + 1))) (R : Rg H c o) (hg : g ≤ 15) (hs : s ≤ 4) (ha : SL (yO PP (n + 30) [a,b] L H) fun vs H1=>vs = [.int g,.int s] ∧ H1 = H) (q : Q (.bytes (rg o g s)) H) : S2 (evE PP (n + 31) (.meth (.loc 217) 3 [a,b]) L H) Q:=by
 refine vm rfl rfl (zh hL ⟨rfl,R.i,R.n,rfl,?_⟩)
 refine cp fun nq=>?_
 obtain ⟨vs,H1,h1,rfl,rfl⟩:=ha
 refine nq ?_
 exact ⟨_,_,h1,s_get _ _ _ hg hs R q⟩
theorem vS {g : Nat} {l : List UInt8} {a b : ME} (hL : L 217 = some (.loc (c + 1))) (R : Rg H c o) (hg : g ≤ 15) (h1 : 1 ≤ l.length) (h4 : l.length ≤ 4) (ha : SL (yO PP (n + 60) [a,b] L H) fun vs H1=>vs = [.int g,.bytes l] ∧ H1 = H) (q : ∀ H',Rg H' c (rp o g l) → Kp c H H' → Q .none H') : S2 (evE PP (n + 61) (.meth (.loc 217) 213 [a,b]) L H) Q:=by
 refine vm rfl rfl (zh hL ⟨rfl,R.i,R.n,rfl,?_⟩)
 obtain ⟨vs,H1,h1',rfl,rfl⟩:=ha
 exact ⟨_,_,h1',s_put _ _ _ hg h1 h4 R q⟩
theorem o_cmp (m rw op g : Nat) (x : List UInt8) (r : Bool) (hg : g ≤ 15) (hx : x.length ≤ 4) (R : Rg H c o) (hr : CmpR op (zw (rg o g x.length)) (zw x) r) (q : Q (goV r) H) : Op E H c rw 522 m (zk0 op g x) Q:=by
 have hl:=vJ R.len hg hx
 exact zD rfl rfl<|zj<|ze rfl<|za<|vT rfl R hg hx (za<|zc rfl<|za<|ze rfl<|zn rfl<|qq rfl (by exact zu2 hx rfl)<|zi ⟨rfl,rfl⟩)<|zi<|yj _ _ (by lia)<|zt<|ze rfl<|za<|ze rfl<|za<|zc rfl<|za<|zc rfl<|za<|ze rfl<|zn rfl<|yj _ x (by exact zu2 hx rfl)<|zi<|zg6 _ _ _ _ r hr<|zi<|zkv _ _ q
theorem zrd (m rw op g : Nat) (x y : List UInt8) (hop : op = 115 ∨ op = 142) (hg : g ≤ 15) (hx : x.length ≤ 4) (hy : y.length ≤ 4) (R : Rg H c o) (q : Q (goV (decide (zw x ≤ zw (rg o g x.length) ∧ zw (rg o g x.length) ≤ zw y) == Nat.beq op 115)) H) : Op E H c rw 529 m (rRng op g x y) Q:=by
 have hl:=vJ R.len hg hx
 have fin : ∀ {L1 : Loc} {k : Nat} (t u : Bool),L1 231 = some (.bool t) → L1 218 = some (rRng op g x y) → Q (goV (t == Nat.beq op 115)) H →
   SX (execs PP (k + 30) [.ret (.call (.glob 223) [.cmp .Eq (.loc 231) (.cmp .Eq (.sub (.loc 218) (.cint 1)) (.cstr 115))])] L1 H) (FnQ Q):=by
  intro L1 k t u h1 h2 q1
  refine zt<|ze rfl<|za<|yL<|zh h1<|yL<|zZ<|zh h2<|zc rfl ⟨.str op,rfl,zc rfl ⟨_,rfl,_,rfl,zi<|zkv _ _ q1⟩⟩
 refine zD rfl rfl<|zj<|ze rfl<|za<|vT rfl R hg hx (za<|zc rfl<|za<|ze rfl<|zn rfl<|qq rfl (by exact zu2 hx rfl)<|zi ⟨rfl,rfl⟩)<|zi<|yj _ _ (by lia)<|zj<|zh5<|yL<|ze rfl<|zn rfl<|yj _ x (by exact zu2 hx rfl)<|zc rfl ⟨decide (zw x ≤ zw (rg o g x.length)),by show some (decide ((zw x : Int) ≤ (zw (rg o g x.length) : Int))) = _;rw [kT],_,rfl,?_⟩
 by_cases h1 : zw x ≤ zw (rg o g x.length)
 ·rw [decide_eq_true h1]
  refine yL<|zc rfl<|ze rfl<|zn rfl<|yj _ y (by exact zu2 hy rfl) ⟨decide (zw (rg o g x.length) ≤ zw y),by show some (decide ((zw (rg o g x.length) : Int) ≤ (zw y : Int))) = _;rw [kT],_,rfl,fin _ true rfl rfl ?_⟩
  have e : decide (zw x ≤ zw (rg o g x.length) ∧ zw (rg o g x.length) ≤ zw y) = decide (zw (rg o g x.length) ≤ zw y):=by simp [h1]
  rw [e] at q;exact q
 ·rw [decide_eq_false h1]
  refine fin false true rfl rfl ?_
  have e : decide (zw x ≤ zw (rg o g x.length) ∧ zw (rg o g x.length) ≤ zw y) = false:=by simp [h1]
  rw [e] at q;exact q
theorem zb4 (s : Nat) : (256 : Nat) ^ s = 2 ^ (8 * s):=by rw [Nat.pow_mul]
theorem o_bit (m rw g : Nat) (x y : List UInt8) (hg : g ≤ 15) (h1 : 1 ≤ x.length) (hx : x.length ≤ 4) (hy : y.length = x.length) (R : Rg H c o) (q : Put H c (rp o g (zK ((zw (rg o g x.length) &&& zw x) ^^^ zw y) x.length)) Q) : Op E H c rw 536 m (zk1 g x y) Q:=by
 have hl:=vJ R.len hg hx
 have b1 : (zw (rg o g x.length) &&& zw x) < 2 ^ (8 * x.length):=Nat.and_lt_two_pow _ (by rw [← zb4];exact jm x)
 have b2 : zw y < 2 ^ (8 * x.length):=by rw [← zb4,← hy];exact jm y
 have b3 : (zw (rg o g x.length) &&& zw x) ^^^ zw y < 256 ^ x.length:=by rw [zb4];exact Nat.xor_lt_two_pow b1 b2
 refine zD rfl rfl<|zj<|ze rfl<|zn rfl<|qq rfl (by exact zu2 hx rfl)<|zj<|zo<|ze rfl<|za<|vT rfl R hg hx (zn rfl ⟨rfl,rfl⟩)<|zi<|yj _ _ (by lia)<|ze rfl<|zn rfl<|yj _ x (by exact zu2 hx rfl)<|zf7 ?_
 rw [ku]
 refine zy<|vS rfl R hg (by rw [zz];exact h1) (by rw [zz];exact hx) (za<|zc rfl<|za<|ze rfl<|za<|zo<|zc rfl<|ze rfl<|zn rfl<|yj _ y (by lia)<|ztj ?_) fun H1 R1 K1=>zt<|zc rfl<|q _ R1 K1
 rw [zi2]
 exact zn rfl<|qB _ _ _ (by exact zu2 hx rfl) b3<|zi ⟨rfl,rfl⟩
theorem o_shr (m rw g s k : Nat) (hg : g ≤ 15) (h1 : 1 ≤ s) (hs : s ≤ 4) (R : Rg H c o) (q : Put H c (rp o g (zK (zw (rg o g s) / 2 ^ k) s)) Q) : Op E H c rw 543 m (zha g s k) Q:=by
 have hl:=vJ R.len hg hs
 have hb : zw (rg o g s) < 256 ^ s:=by have:=jm (rg o g s);rwa [hl] at this
 refine zD rfl rfl<|zj<|ze rfl<|za<|vT rfl R hg hs (zn rfl ⟨rfl,rfl⟩)<|zi<|yj _ _ (by lia)<|zu<|zE<|zc rfl<|zo<|zc rfl<|zc rfl<|yP (.inl (by decide)) ⟨decide (8 * s ≤ k),?_,?_⟩
 ·show some (decide ((8 : Int) * (s : Int) ≤ (k : Int))) = _
  by_cases h : 8 * s ≤ k
  ·rw [decide_eq_true h,decide_eq_true (by exact Int.ofNat_le.mpr h)]
  ·rw [decide_eq_false h,decide_eq_false (by lia)]
 ·by_cases h : 8 * s ≤ k
  ·rw [decide_eq_true h]
   have e0 : zw (rg o g s) / 2 ^ k = 0:=Nat.div_eq_of_lt (Nat.lt_of_lt_of_le hb (by rw [zb4];exact Nat.pow_le_pow_right (by decide) h))
   rw [e0] at q
   exact zj<|zc rfl<|zf<|zy<|vS rfl R hg (by rw [zz];exact h1) (by rw [zz];exact hs) (za<|zc rfl<|za<|ze rfl<|zn rfl<|qB _ 0 s (by exact zu2 hs rfl) (Nat.pow_pos (by decide))<|zi ⟨rfl,rfl⟩) fun H1 R1 K1=>zt<|zc rfl<|q _ R1 K1
  ·rw [decide_eq_false h]
   refine zu<|zx rfl<|zj<|zo<|zc rfl<|zc rfl<|zfu (by exact Int.natCast_nonneg _) ?_
   rw [Int.toNat_natCast,k8]
   exact zf<|zf<|zy<|vS rfl R hg (by rw [zz];exact h1) (by rw [zz];exact hs) (za<|zc rfl<|za<|ze rfl<|zn rfl<|qB _ _ s (by exact zu2 hs rfl) (Nat.lt_of_le_of_lt (Nat.div_le_self _ _) hb)<|zi ⟨rfl,rfl⟩) fun H1 R1 K1=>zt<|zc rfl<|q _ R1 K1
theorem yr (o' ho x s : Nat) : (cB o' ho x s).length = s:=by
 unfold cB
 split
 ·exact zz x s
 ·split
  ·rw [List.length_reverse];exact zz x s
  ·exact zz x s
theorem kg (hL : L 206 = some (.loc E.s)) (h : EnvH H E) (q : Q (.str E.ho) H) : S2 (evE PP (n + 2) (.attr (.loc 206) 69) L H) Q:=by
 obtain ⟨es,n1,n2,_⟩:=h.n
 exact yh hL h.i n1 rfl n2 q
theorem zjd (m x s ho : Nat) (hh : Ho ho) (hs : s ≤ 8) (hx : x < 256 ^ s) (q : Q (.bytes (cB 70 ho x s)) H) : S2 (zs PP (m + 60) (.fn 199) [.int x,.int s,.str ho] H) Q:=by
 rcases hh with rfl | rfl
 ·exact qD _ _ _ hs hx q
 ·exact qC _ _ _ hs hx q
theorem zni (m rw g s : Nat) (hg : g ≤ 15) (h1 : 1 ≤ s) (hs : s ≤ 4) (h : EnvH H E) (R : Rg H c o) (q : Put H c (rp o g (cB 70 E.ho (zw (rg o g s)) s)) Q) : Op E H c rw 550 m (wg g s) Q:=by
 have hl:=vJ R.len hg hs
 have hb : zw (rg o g s) < 256 ^ s:=by have:=jm (rg o g s);rwa [hl] at this
 exact zD rfl rfl<|zj<|ze rfl<|za<|vT rfl R hg hs (zn rfl ⟨rfl,rfl⟩)<|zi<|yj _ _ (by lia)<|zy<|vS rfl R hg (by rw [yr];exact h1) (by rw [yr];exact hs) (za<|zc rfl<|za<|ze rfl<|za<|zc rfl<|za<|zc rfl<|za<|kg rfl h<|zi<|zjd _ _ _ _ h.ho (by exact zu2 hs rfl) hb<|zi ⟨rfl,rfl⟩) fun H1 R1 K1=>zt<|zc rfl<|q _ R1 K1
theorem zat (m rw : Nat) (v : PV) (q : Q v H) : Op E H c rw 515 m (.tup [.str 219,v]) Q:=zD rfl rfl<|zt<|zc rfl q
end Mine
namespace Mine
open PySem
variable {n : Nat} {L : Loc} {H H' : Hp} {Q : PV → Hp → Prop} {c : Nat} {o o' : List UInt8} {E : En}
theorem xB (hL : L 206 = some (.loc E.s)) (h : EnvH H E) (q : Q (.loc E.p) H) : S2 (evE PP (n + 2) (.attr (.loc 206) 171) L H) Q:=by
 refine cp fun nq=>?_
 obtain ⟨es,n1,_,n2,_⟩:=h.n
 refine nq ?_
 exact yh hL h.i n1 rfl n2 q
theorem zt8 (m : Nat) (h : EnvH H E) (q : Q (.tup [.loc E.pd,.int 0]) H) : S2 (zs PP (m + 20) (.fn 402) [.loc E.p,.str 174] H) Q:=by
 refine cp fun nq=>?_
 obtain ⟨es,n1,n2,_⟩:=h.pn
 refine nq ?_
 exact zD rfl rfl<|zu<|zx rfl<|zt<|z8<|za<|yh rfl h.pi n1 rfl n2<|zn rfl q
noncomputable def znb (data : List UInt8) (at' many : Nat) : PV:=match decide (at' + many ≤ 12) with
 | true=>.bytes ((data.take (at' + many)).drop at')
 | false=>.none
theorem zt1 (m a k : Nat) (h : EnvH H E) (q : Q (znb E.data a k) H) : S2 (zs PP (m + 60) (.fn 409) [.loc E.p,.str 174,.int a,.int k] H) Q:=by
 have hl:=h.dl
 refine zD rfl rfl<|zj<|ze rfl<|zn rfl<|zt8 _ h<|zu<|zj8<|zx rfl<|zE<|zc rfl<|zc rfl ⟨_,zcc a,zf<|zj<|zo<|zc rfl<|zc rfl<|yc<|zu<|zE<|zo<|zc rfl<|zc rfl<|yc<|ze rfl<|zn rfl<|qq (k:=12) ((zr h.pd).trans ((zA (hl ▸ by decide)).trans (congrArg some hl))) (by decide) ⟨!decide (a + k ≤ 12),?_,?_⟩⟩
 ·show some (decide ((12 : Int) < 0 + (a : Int) + (k : Int))) = _
  by_cases h1 : a + k ≤ 12
  ·rw [decide_eq_true h1,decide_eq_false (by lia)];rfl
  ·rw [decide_eq_false h1,decide_eq_true (by lia)];rfl
 ·unfold znb at q
  cases h1 : decide (a + k ≤ 12) with
  | false=>rw [h1] at q;exact zt<|zc rfl q
  | true =>
   rw [h1] at q
   have h1:=of_decide_eq_true h1
   refine zf<|zt<|ze rfl<|za<|qi<|zc rfl<|zc rfl<|zo<|zc rfl<|zc rfl<|yc<|zc rfl ⟨.barr ((E.data.take (a + k)).drop a),?_,zi<|kx (r:=.bytes ((E.data.take (a + k)).drop a)) (H1:=H) ?_ q⟩
   ·show wQ (.loc E.pd) (.int (0 + (a : Int))) (.int (0 + (a : Int) + (k : Int))) .none H = _
    have h2 : (0 : Int) ≤ 0 + (a : Int) ∧ 0 + (a : Int) ≤ 0 + (a : Int) + (k : Int) ∧ 0 + (a : Int) + (k : Int) ≤ (E.data.length : Int) ∧ E.data.length ≤ 1000:=by lia
    refine (zr (vY h.pd)).trans ((zA h2).trans ?_)
    rw [show (0 + (a : Int)).toNat = a by exact Nat.zero_add _,show (0 + (a : Int) + (k : Int)).toNat = a + k by lia]
   ·have : ((E.data.take (a + k)).drop a).length ≤ 1000:=Nat.le_trans (Nat.le_of_eq (yz (by rw [hl];exact h1))) (zu2 (Nat.le_trans (Nat.le_add_left _ _) h1) rfl)
    exact zr (zA this)
theorem zs5 (m rw g b f : Nat) (hg : g ≤ 15) (h1 : 1 ≤ Fd.sz (.pay b f)) (hs : Fd.sz (.pay b f) ≤ 4) (h : EnvH H E) (R : Rg H c o) (q1 : f / 8 + Fd.sz (.pay b f) ≤ 12 → Put H c (rp o g ((E.data.take (f / 8 + Fd.sz (.pay b f))).drop (f / 8))) Q) (q2 : ¬ f / 8 + Fd.sz (.pay b f) ≤ 12 → Q brk H) : Op E H c rw 564 m (zm7 g (.pay b f)) Q:=by
 have hl:=h.dl
 refine zD rfl rfl<|zj<|ze rfl<|za<|xB rfl h<|zn rfl<|zt1 _ _ _ h ?_
 unfold znb
 by_cases hh : f / 8 + Fd.sz (.pay b f) ≤ 12
 ·have e : decide (f / 8 + (f % 8 + b + 7) / 8 ≤ 12) = true:=decide_eq_true hh
  rw [e]
  have hn : ((E.data.take (f / 8 + Fd.sz (.pay b f))).drop (f / 8)).length = Fd.sz (.pay b f):=yz (by rw [hl];exact hh)
  exact zu<|zx rfl<|zf<|zy<|vS (l:=(E.data.take (f / 8 + Fd.sz (.pay b f))).drop (f / 8)) rfl R hg (by lia) (by lia) (zn rfl ⟨rfl,rfl⟩) fun H1 R1 K1=>zt<|zc rfl<|q1 hh _ R1 K1
 ·have e : decide (f / 8 + (f % 8 + b + 7) / 8 ≤ 12) = false:=decide_eq_false hh
  rw [e]
  exact zu<|zx rfl<|zt<|zc rfl<|q2 hh
theorem zt3 (m key x : Nat) (hk : (key = 155 ∧ x = E.mark) ∨ (key = 162 ∧ x = E.iif)) (h : EnvH H E) (q : Q (.int x) H) : S2 (zs PP (m + 40) (.fn 452) [.loc E.s,.str key] H) Q:=by
 refine cp fun nq=>?_
 obtain ⟨es,n1,_,n2⟩:=h.pn
 obtain ⟨es2,m1,m2,m3⟩:=h.pm
 refine nq ?_
 rcases hk with ⟨rfl,rfl⟩ | ⟨rfl,rfl⟩
 ·exact zD rfl rfl<|zj<|xB rfl h<|zu<|zx rfl<|zf<|zu<|zx rfl<|zf<|zu<|zx rfl<|zf<|zt<|yw<|yh rfl h.pi n1 rfl n2 ⟨rfl,m1,(by show (1 : Nat) ≠ 4;decide),zn rfl ⟨_,m1,rfl,_,_,zeu m2,q⟩⟩
 ·exact zD rfl rfl<|zj<|xB rfl h<|zu<|zx rfl<|zf<|zu<|zx rfl<|zf<|zu<|zx rfl<|zf<|zt<|yw<|yh rfl h.pi n1 rfl n2 ⟨rfl,m1,(by show (1 : Nat) ≠ 4;decide),zn rfl ⟨_,m1,rfl,_,_,zeu m3,q⟩⟩
theorem znj (m rw g key s x : Nat) (hk : (key = 155 ∧ x = E.mark) ∨ (key = 162 ∧ x = E.iif)) (hx : x < 256 ^ s) (hg : g ≤ 15) (h1 : 1 ≤ s) (hs : s ≤ 4) (h : EnvH H E) (R : Rg H c o) (q : Put H c (rp o g (cB 70 E.ho x s)) Q) : Op E H c rw 571 m (.tup [.str 111,.int g,.str key,.int s,.str 70]) Q:=by
 refine zD rfl rfl<|zt<|ze rfl<|za<|zc rfl<|za<|zc rfl<|za<|zc rfl<|za<|ze rfl<|za<|zc rfl<|za<|zc rfl<|zi<|zt3 _ key x hk h<|zn rfl<|zD rfl rfl<|zu<|zx rfl<|zf<|zy<|vS rfl R hg (by rw [yr];exact h1) (by rw [yr];exact hs) (za<|zc rfl<|za<|ze rfl<|za<|zc rfl<|za<|zc rfl<|za<|ze rfl<|za<|zc rfl<|za<|kg rfl h<|zi<|wd _ _<|zi<|zjd _ _ _ _ h.ho (by exact zu2 hs rfl) hx<|zi ⟨rfl,rfl⟩) fun H1 R1 K1=>zt<|zc rfl<|q _ R1 K1
end Mine
namespace Mine
open PySem
variable {n : Nat} {L : Loc} {H H' : Hp} {Q : PV → Hp → Prop} {c : Nat} {o o' : List UInt8} {E : En} {I : Hp → Prop} {rw' : Nat} {row v : PV} {rows : List PV}
noncomputable def Step (E : En) (I : Hp → Prop) (rw' c : Nat) (row : PV) (o : List UInt8) (v : PV) (o' : List UInt8) : Prop :=
 ∃ k r f,row = .tup (.str k :: r) ∧ r.length ≤ 10 ∧ dictGet k zne = some (.fn f) ∧ ∀ (H : Hp) (m : Nat) (Q : PV → Hp → Prop),EnvH H E → I H → Rg H c o → (∀ H',Rg H' c o' → Kp c H H' → Q v H') → Op E H c rw' f m row Q
theorem get0 {x : PV} {r : List PV} (h : r.length ≤ 10) : qr (.tup (x :: r)) (.int 0) H = some x:=by
 exact vc (k:=0) rfl (Nat.succ_le_of_lt (Nat.lt_of_le_of_lt h (by decide)))
set_option genCtorIdx false in
inductive Run (E : En) (I : Hp → Prop) (rw' c : Nat) : List PV → List UInt8 → PV → Prop
 | nil (o : List UInt8) : Run E I rw' c [] o .none
 | go {row : PV} {rows : List PV} {o o' : List UInt8} {v : PV} (h : Step E I rw' c row o .none o') (k : Run E I rw' c rows o' v) : Run E I rw' c (row :: rows) o v
 | stop {row y : PV} {rows : List PV} {o : List UInt8} {a : Nat} (h : Step E I rw' c row o (.tup [.str a,y]) o) (ha : a ≠ 220) : Run E I rw' c (row :: rows) o (.tup [.str a,y])
noncomputable def Goes (E : En) (I : Hp → Prop) (rw' c : Nat) (rows : List PV) (o o' : List UInt8) : Prop:=∀ rest v,Run E I rw' c rest o' v → Run E I rw' c (rows ++ rest) o v
theorem Goes.refl : Goes E I rw' c [] o o:=fun uu uu h=>h
theorem Goes.trans {r1 r2 : List PV} {o1 o2 o3 : List UInt8} (h : Goes E I rw' c r1 o1 o2) (k : Goes E I rw' c r2 o2 o3) : Goes E I rw' c (r1 ++ r2) o1 o3:=fun rest v h3=>by
 rw [List.append_assoc];exact h _ _ (k _ _ h3)
theorem Goes.one (h : Step E I rw' c row o .none o') : Goes E I rw' c [row] o o':=fun uu uu k=>.go h k
noncomputable def Stops (E : En) (I : Hp → Prop) (rw' c : Nat) (rows : List PV) (o : List UInt8) (v : PV) : Prop:=∀ rest,Run E I rw' c (rows ++ rest) o v
theorem Goes.stops {r1 r2 : List PV} {o1 o2 : List UInt8} (h : Goes E I rw' c r1 o1 o2) (k : Stops E I rw' c r2 o2 v) : Stops E I rw' c (r1 ++ r2) o1 v:=fun rest=>by
 rw [List.append_assoc];exact h _ _ (k _)
theorem Stops.more {r1 : List PV} (k : Stops E I rw' c r1 o v) (r2 : List PV) : Stops E I rw' c (r1 ++ r2) o v:=fun rest=>by
 rw [List.append_assoc];exact k _
theorem Stops.one {a : Nat} {y : PV} (h : Step E I rw' c row o (.tup [.str a,y]) o) (ha : a ≠ 220) : Stops E I rw' c [row] o (.tup [.str a,y]):=fun uu=>.stop h ha
set_option tactic.hygienic true in
theorem zm5 (b j m : Nat) (hI : ∀ H H',Kp c H H' → I H → I H') (hB : E.B ≤ c) (hj : j < c) (all : List PV) (QX : Fl → Loc → Hp → Prop) (H0 : Hp) : ∀ (rows : List PV) (i k : Nat) (o : List UInt8) (v : PV) (L : Loc) (H : Hp),
  Run E I rw' c rows o v → all.drop i = rows → rows.length < k → Rg H c o → EnvH H E → I H → H[j]? = some (.list all) → Kp c H0 H → L 206 = some (.loc E.s) → L 217 = some (.loc (c + 1)) → L 216 = some (.loc rw') →
  (∀ f L' H',(f = .next ∧ v = .none ∨ f = .ret v) → Kp c H0 H' → QX f L' H') →
  SX (zco (fun L H=>execs PP (m + 140) [.assign (.name 141) (.meth (.attr (.loc 206) 191) 3 [.sub (.loc 218) (.cint 0)]),.ifs (.cmp .Is (.loc 141) .cnone) [.stuck] [],.assign (.name 219) (.call (.loc 141) [.loc 206,.loc 217,.loc 218,.loc 216]),.ifs (.bool true [.cmp .IsNot (.loc 219) .cnone,.cmp .NotEq (.sub (.loc 219) (.cint 0)) (.cstr 220)]) [.ret (.loc 219)] []] L H) [218] j k i L H) QX:=by
 intro rows
 induction rows with
 | nil =>
  intro i k o v L H hr hd hk R hE hi hl hK a1 a2 a3 q
  cases hr
  obtain ⟨k,rfl⟩ : ∃ k',k = k' + 1:=⟨k - 1,by simp only [List.length_nil] at hk;lia⟩
  exact zoz hl (List.getElem?_eq_none (List.drop_eq_nil_iff.mp hd)) (q _ _ _ (.inl ⟨rfl,rfl⟩) hK)
 | cons row rows ih =>
  intro i k o v L H hr hd hk R hE hi hl hK a1 a2 a3 q
  refine cp fun nq=>?_
  obtain ⟨k,rfl⟩ : ∃ k',k = k' + 1:=⟨k - 1,by simp only [List.length_cons] at hk;lia⟩
  have hget : all[i]? = some row:=by
   have:=congrArg (·[0]?) hd
   simpa using this
  have hd2 : all.drop (i + 1) = rows:=by
   have:=congrArg (List.drop 1) hd
   simpa [List.drop_drop] using this
  obtain ⟨es,n1,_,_,n4,_⟩:=hE.n
  refine nq ?_
  cases hr with
  | go h kk =>
   rename_i o'
   obtain ⟨kk0,r,f,rfl,hlr,hf,h⟩:=h
   refine zoy hl hget rfl<|zj<|yw<|yh a1 hE.i n1 rfl n4 ⟨rfl,hE.od,(by show (1 : Nat) ≠ 4;decide),za<|zZ<|zc rfl<|zc rfl ⟨.str kk0,get0 hlr,zi ⟨_,hE.od,rfl,.fn f,H,zeu hf,zu<|zx rfl<|zf<|zj<|ze rfl<|za<|zh a1<|za<|zh a2<|za<|zc rfl<|za<|zh a3<|zi<|h H _ _ hE hi R fun H1 R1 K1=>?_⟩⟩⟩
   exact zu<|zx rfl<|zf<|zf<|ih _ _ _ _ _ _ kk hd2 (Nat.lt_of_succ_lt_succ hk) R1 (hE.kp hB K1) (hI _ _ K1 hi) (K1 _ _ (by exact zn1 hj) hl) (hK.trans K1) a1 a2 a3 q
  | stop h ha =>
   rename_i y a
   obtain ⟨kk0,r,f,rfl,hlr,hf,h⟩:=h
   refine zoy hl hget rfl<|zj<|yw<|yh a1 hE.i n1 rfl n4 ⟨rfl,hE.od,(by show (1 : Nat) ≠ 4;decide),za<|zZ<|zc rfl<|zc rfl ⟨.str kk0,get0 hlr,zi ⟨_,hE.od,rfl,.fn f,H,zeu hf,zu<|zx rfl<|zf<|zj<|ze rfl<|za<|zh a1<|za<|zh a2<|za<|zc rfl<|za<|zh a3<|zi<|h H _ _ hE hi R fun H1 R1 K1=>?_⟩⟩⟩
   have hb : Nat.beq a 220 = false:=by
    cases h : Nat.beq a 220 with
    | false=>rfl
    | true=>exact absurd (Nat.eq_of_beq_eq_true h) ha
   refine zu<|zdb<|zx rfl<|zE<|zZ<|zc rfl<|zc rfl ⟨.str a,rfl,zc rfl ⟨true,?_,zt<|zc rfl<|q _ _ _ (.inr rfl) (hK.trans K1)⟩⟩
   show some (!(Nat.beq a 220)) = _
   exact hb ▸ rfl
theorem zm0 (m b : Nat) {ns : List (Nat × PV)} (h1 : H[b + 1]? = some (.inst 237 b)) (h2 : H[b]? = some (.ns ns)) (h3 : dictGet 94 ns = some (.loc (b + 2))) (h4 : H[b + 2]? = some (.list rows)) (hl : rows.length ≤ 1000) (hE : EnvH H E) (hB : E.B ≤ H.length) (hi : I H) (hI : ∀ H1 H',(∀ i ob,i < H.length → H1[i]? = some ob → H'[i]? = some ob) → I H1 → I H')
  (hr : Run E I (b + 1) H.length rows (List.replicate 64 0) v) (q : ∀ H',(∀ i ob,i < H.length → H[i]? = some ob → H'[i]? = some ob) → Q v H') : S2 (zs PP (m + 160) (.fn 494) [.loc E.s,.loc (b + 1)] H) Q:=by
 refine zD rfl rfl<|zu<|zE<|yh rfl h1 h2 rfl h3<|zc rfl ⟨false,rfl,zf<|zj<|ze rfl<|zi<|zt0 _ fun H1 R1 K1=>zme<|za<|yh rfl (K1 _ _ (List.getElem?_eq_some_iff.mp h1).1 h1) (K1 _ _ (List.getElem?_eq_some_iff.mp h2).1 h2) rfl h3<|zi ⟨b + 2,?_,?_⟩⟩
 ·exact zi7 (K1 _ _ (List.getElem?_eq_some_iff.mp h4).1 h4)
 ·refine zm5 b (b + 2) (m + 13) (c:=H.length) (fun H1 H2 k hh=>hI H1 H2 (fun i ob a1 a2=>k i ob (by exact zn1 a1) a2) hh) hB (List.getElem?_eq_some_iff.mp h4).1 rows _ H1 rows 0 qK _ v _ H1 hr rfl (by unfold qK;exact zu4 hl rfl) R1 (hE.keep fun i ob a1 a2=>K1 i ob (by exact Nat.lt_of_lt_of_le a1 hB) a2) (hI _ _ K1 hi) (K1 _ _ (List.getElem?_eq_some_iff.mp h4).1 h4) Kp.refl rfl rfl rfl ?_
  intro f L' H' hf hK
  have kk : ∀ i ob,i < H.length → H[i]? = some ob → H'[i]? = some ob:=fun i ob a1 a2=>hK i ob (by exact zn1 a1) (K1 i ob a1 a2)
  rcases hf with ⟨rfl,rfl⟩ | rfl
  ·exact zt<|zc rfl<|q _ kk
  ·exact q _ kk
end Mine
namespace Mine
open PySem
variable {H H' : Hp} {Q : PV → Hp → Prop} {c g s x : Nat} {o o' l l2 : List UInt8} {E : En} {I : Hp → Prop} {rw' : Nat} {row v : PV} {rows r1 r2 : List PV} {f : Fd}
noncomputable def GoesTo (E : En) (I : Hp → Prop) (rw' c : Nat) (rows : List PV) (o : List UInt8) (g s : Nat) (l : List UInt8) : Prop:=∃ o',o'.length = 64 ∧ rg o' g s = l ∧ Goes E I rw' c rows o o'
theorem GoesTo.then (h : GoesTo E I rw' c r1 o g s l) (k : ∀ o',o'.length = 64 → rg o' g s = l → GoesTo E I rw' c r2 o' g s l2) : GoesTo E I rw' c (r1 ++ r2) o g s l2:=by
 refine cp fun nq=>?_
 obtain ⟨o1,h1,h2,h3⟩:=h
 obtain ⟨o2,k1,k2,k3⟩:=k o1 h1 h2
 refine nq ?_
 exact ⟨o2,k1,k2,h3.trans k3⟩
theorem GoesTo.none (h : o.length = 64) (hr : rg o g s = l) : GoesTo E I rw' c [] o g s l:=⟨o,h,hr,Goes.refl⟩
theorem kK {l : List UInt8} (h : o.length = 64) (hg : g ≤ 15) (hl : l.length = s) (hs : s ≤ 4) (st : Step E I rw' c row o .none (rp o g l)) : GoesTo E I rw' c [row] o g s l:=by
 subst hl
 exact ⟨_,zg8 h hg hs,rg_rp h hg hs,Goes.one st⟩
theorem xu {od m y ho : Nat} (h : o.length = 64) (hg : g ≤ 15) (h1 : 1 ≤ s) (h4 : s ≤ 4) (hr : rg o g s = cB od ho x s) : GoesTo E I rw' c [zk1 g (cB od ho m s) (cB od ho y s)] o g s (cB od ho ((x &&& m) ^^^ y) s):=by
 have lm:=yr od ho m s
 have e : zK ((zw (rg o g (cB od ho m s).length) &&& zw (cB od ho m s)) ^^^ zw (cB od ho y s)) (cB od ho m s).length = cB od ho ((x &&& m) ^^^ y) s:=by
  rw [lm,hr,zvf]
 refine kK h hg (yr ..) h4 ⟨118,_,536,rfl,Nat.le_of_ble_eq_true rfl,rfl,fun H m' Q hE hi R q=>o_bit m' rw' g _ _ hg (by lia) (by lia) (by rw [lm,yr]) R ?_⟩
 rw [e];exact q
theorem xt {k : Nat} (h : o.length = 64) (hg : g ≤ 15) (h1 : 1 ≤ s) (h4 : s ≤ 4) (hx : x < 256 ^ s) (hr : rg o g s = zK x s) : GoesTo E I rw' c [zha g s k] o g s (zK (x / 2 ^ k) s):=by
 refine kK h hg (zz ..) h4 ⟨119,_,543,rfl,Nat.le_of_ble_eq_true rfl,rfl,fun H m' Q hE hi R q=>o_shr m' rw' g s k hg h1 h4 R ?_⟩
 rw [hr,yd hx];exact q
theorem za6 (h : o.length = 64) (hg : g ≤ 15) (h1 : 1 ≤ s) (h4 : s ≤ 4) (hh : Ho E.ho) (hr : rg o g s = cB 70 E.ho x s) : GoesTo E I rw' c [wg g s] o g s (zK x s):=by
 refine kK h hg (zz ..) h4 ⟨106,_,550,rfl,Nat.le_of_ble_eq_true rfl,rfl,fun H m' Q hE hi R q=>zni m' rw' g s hg h1 h4 hE R ?_⟩
 rw [hr,zmj _ _ _ hh];exact q
theorem zlh (h : o.length = 64) (hg : g ≤ 15) (h1 : 1 ≤ s) (h4 : s ≤ 4) (hx : x < 256 ^ s) (hr : rg o g s = zK x s) : GoesTo E I rw' c [wg g s] o g s (cB 70 E.ho x s):=by
 refine kK h hg (yr ..) h4 ⟨106,_,550,rfl,Nat.le_of_ble_eq_true rfl,rfl,fun H m' Q hE hi R q=>zni m' rw' g s hg h1 h4 hE R ?_⟩
 rw [hr,zkg hx];exact q
noncomputable def Fd.val (E : En) : Fd → Option Nat
 | .mark=>some E.mark
 | .iif=>some E.iif
 | .pay b f=>match decide (f + b ≤ 96) with
  | true=>some (zw E.data / 2 ^ (96 - f - b) % 2 ^ b)
  | false=>none
structure EnOk (E : En) : Prop where
 ho : Ho E.ho
 ml : E.mark < 2 ^ 32
 il : E.iif < 2 ^ 16
 dl : E.data.length = 12
theorem zkb (hf : FdOk f) : f.bits ≤ 8 * f.sz:=by
 cases f with
 | mark=>decide
 | iif=>decide
 | pay b ff=>exact Nat.le_trans (Nat.le_add_left _ _) (zj4 _)
theorem zs7 (hf : FdOk f) {x : Nat} (hx : x < 2 ^ f.bits) : x < 256 ^ f.sz:=by
 rw [jP];exact Nat.lt_of_lt_of_le hx (Nat.pow_le_pow_right (by decide) (zkb hf))
theorem jY (b ff : Nat) : (Fd.pay b ff).val E = match decide (ff + b ≤ 96) with
  | true=>some (zw E.data / 2 ^ (96 - ff - b) % 2 ^ b)
  | false=>none:=rfl
theorem qy (hE : EnOk E) {x : Nat} (h : f.val E = some x) : x < 2 ^ f.bits:=by
 cases f with
 | mark=>cases h;exact hE.ml
 | iif=>cases h;exact hE.il
 | pay b ff =>
  rw [jY] at h
  split at h
  ·cases h;exact Nat.mod_lt _ (Nat.pow_pos (by decide))
  ·cases h
theorem za8 (hE : EnOk E) (hf : FdOk f) (hg : g ≤ 15) (h : o.length = 64) (hv : f.val E = some x) : GoesTo E I rw' c (ldR g f) o g f.sz (cB f.ord E.ho x f.sz):=by
 cases f with
 | mark =>
  cases hv
  exact kK h hg (yr ..) (by decide) ⟨111,_,571,rfl,Nat.le_of_ble_eq_true rfl,rfl,fun H m' Q hE' hi R q=>znj m' rw' g 155 4 E.mark (.inl ⟨rfl,rfl⟩) (by have:=hE.ml;rw [jP];exact this) hg (by decide) (by decide) hE' R q⟩
 | iif =>
  cases hv
  exact kK h hg (yr ..) (by decide) ⟨111,_,571,rfl,Nat.le_of_ble_eq_true rfl,rfl,fun H m' Q hE' hi R q=>znj m' rw' g 162 2 E.iif (.inr ⟨rfl,rfl⟩) (by have:=hE.il;rw [jP];exact this) hg (by decide) (by decide) hE' R q⟩
 | pay b ff =>
  obtain ⟨hs1,hs4⟩:=ji hf
  obtain ⟨b1,b2,b3⟩:=hf
  rw [jY] at hv
  cases hd : decide (ff + b ≤ 96) with
  | false=>rw [hd] at hv;cases hv
  | true =>
   rw [hd] at hv
   cases hv
   have hd:=of_decide_eq_true hd
   have hq : ff / 8 + Fd.sz (.pay b ff) ≤ 12:=by show ff / 8 + (ff % 8 + b + 7) / 8 ≤ 12;lia
   have hdl:=hE.dl
   have hS : ((E.data.take (ff / 8 + Fd.sz (.pay b ff))).drop (ff / 8)).length = Fd.sz (.pay b ff):=yz (by rw [hdl];exact hq)
   have hp:=piece E.data hE.dl ff b b1 hd
   have hN:=jm ((E.data.take (ff / 8 + Fd.sz (.pay b ff))).drop (ff / 8))
   rw [hS] at hN
   show GoesTo E I rw' c ([zm7 g (.pay b ff)] ++ zfi g (Fd.sz (.pay b ff)) (ff % 8) b) o g (Fd.sz (.pay b ff)) (zK _ _)
   refine GoesTo.then (kK (l:=(E.data.take (ff / 8 + Fd.sz (.pay b ff))).drop (ff / 8)) h hg hS hs4 ⟨66,_,564,rfl,Nat.le_of_ble_eq_true rfl,rfl,fun H m' Q hE' hi R q=>zs5 m' rw' g b ff hg hs1 hs4 hE' R (fun uu=>q) fun hn=>absurd hq hn⟩) fun o1 ho1 hr1=>?_
   rw [← hp]
   have hbs : ff % 8 + b ≤ 8 * Fd.sz (.pay b ff):=zj4 _
   change GoesTo E I rw' c (zfi g (Fd.sz (.pay b ff)) (ff % 8) b) o1 g (Fd.sz (.pay b ff)) (zK (zw ((E.data.take (ff / 8 + Fd.sz (.pay b ff))).drop (ff / 8)) / 2 ^ (8 * Fd.sz (.pay b ff) - ff % 8 - b) % 2 ^ b) (Fd.sz (.pay b ff)))
   generalize (E.data.take (ff / 8 + Fd.sz (.pay b ff))).drop (ff / 8) = S at *
   generalize Fd.sz (.pay b ff) = s at *
   have hr2 : rg o1 g s = zK (zw S) s:=by rw [y9 hS];exact hr1
   unfold zfi
   have bit : GoesTo E I rw' c [zk1 g (zK ((2 ^ b - 1) * 2 ^ (8 * s - ff % 8 - b)) s) (zK 0 s)] o1 g s (zK (zw S &&& ((2 ^ b - 1) * 2 ^ (8 * s - ff % 8 - b))) s):=by
    have z:=xu (E:=E) (I:=I) (rw':=rw') (c:=c) (od:=86) (ho:=86) (m:=(2 ^ b - 1) * 2 ^ (8 * s - ff % 8 - b)) (y:=0) ho1 hg hs1 hs4 (x:=zw S) hr2
    rw [Nat.xor_zero] at z
    exact z
   cases hr : decide (0 < 8 * s - ff % 8 - b) with
   | true =>
    rw [Bool.or_true]
    refine bit.then fun o2 ho2 hr3=>?_
    have z:=xt (E:=E) (I:=I) (rw':=rw') (c:=c) (k:=8 * s - ff % 8 - b) ho2 hg hs1 hs4 (Nat.lt_of_le_of_lt Nat.and_le_left hN) hr3
    rw [zsc] at z
    exact z
   | false =>
    have hr:=of_decide_eq_false hr
    have e0 : 8 * s - ff % 8 - b = 0:=by lia
    rw [Bool.or_false]
    rw [e0] at bit ⊢
    cases ha : decide (0 < ff % 8) with
    | true =>
     rw [List.append_nil]
     have e : (zw S &&& ((2 ^ b - 1) * 2 ^ 0)) = zw S / 2 ^ 0 % 2 ^ b:=by rw [xT];simp
     rw [e] at bit
     exact bit
    | false =>
     have ha:=of_decide_eq_false ha
     have e : zw S / 2 ^ 0 % 2 ^ b = zw S:=by
      rw [Nat.pow_zero,Nat.div_one]
      exact Nat.mod_eq_of_lt (by rw [jP] at hN;rwa [show b = 8 * s by lia])
     rw [e]
     exact GoesTo.none ho1 hr2
theorem jZ (hE : EnOk E) (hf : FdOk f) (hg : g ≤ 15) (hv : f.val E = none) : Stops E I rw' c (ldR g f) o brk:=by
 cases f with
 | mark=>cases hv
 | iif=>cases hv
 | pay b ff =>
  obtain ⟨hs1,hs4⟩:=ji hf
  obtain ⟨b1,b2,b3⟩:=hf
  rw [jY] at hv
  cases hd : decide (ff + b ≤ 96) with
  | true=>rw [hd] at hv;cases hv
  | false =>
   have hd:=of_decide_eq_false hd
   have hq : ¬ ff / 8 + Fd.sz (.pay b ff) ≤ 12:=by show ¬ ff / 8 + (ff % 8 + b + 7) / 8 ≤ 12;lia
   exact Stops.more (r1:=[zm7 g (.pay b ff)]) (Stops.one ⟨66,_,564,rfl,Nat.le_of_ble_eq_true rfl,rfl,fun H m' Q hE' hi R q=>zs5 m' rw' g b ff hg hs1 hs4 hE' R (fun hn=>absurd hn hq) fun uu=>q _ R Kp.refl⟩ (by decide)) _
end Mine
namespace Mine
open PySem
variable {H H' : Hp} {Q : PV → Hp → Prop} {c g s x : Nat} {o o' l l2 : List UInt8} {E : En} {I : Hp → Prop} {rw' : Nat} {row v : PV} {rows r1 r2 : List PV} {f : Fd} {e : Ex} {t : Bool}
noncomputable def exV : Ex → Nat → Nat
 | .fld,x=>x
 | .shr k,x=>x / 2 ^ k
 | .mask k,x=>x &&& k
 | .xor k,x=>x ^^^ k
noncomputable def ExOk (f : Fd) : Ex → Prop
 | .xor k=>k < 256 ^ f.sz
 | _=>True
theorem vP (hf : FdOk f) (he : ExOk f e) (hx : x < 2 ^ f.bits) : exV e x < 2 ^ zG f e:=by
 cases e with
 | fld=>exact hx
 | shr k=>exact Nat.lt_of_le_of_lt (Nat.div_le_self _ _) hx
 | mask k=>exact Nat.lt_of_le_of_lt Nat.and_le_left hx
 | xor k =>
  refine Nat.xor_lt_two_pow ?_ ?_
  ·show x < 2 ^ (8 * f.sz)
   rw [← jP];exact zs7 hf hx
  ·show k < 2 ^ (8 * f.sz)
   rw [← jP];exact he
theorem q9 (hf : FdOk f) : zG f e ≤ 8 * f.sz:=by
 cases e <;> first | exact zkb hf | exact Nat.le_refl _
theorem zhx (hf : FdOk f) (he : ExOk f e) (hx : x < 2 ^ f.bits) : exV e x < 256 ^ f.sz:=by
 rw [jP];exact Nat.lt_of_lt_of_le (vP hf he hx) (Nat.pow_le_pow_right (by decide) (q9 hf))
theorem zqe {x k s : Nat} (hx : x < 256 ^ s) : x &&& (k % 256 ^ s) = x &&& k:=by
 rw [jP] at *
 have h1:=Nat.and_mod_two_pow (a:=x) (b:=k) (n:=8 * s)
 rw [Nat.mod_eq_of_lt hx,Nat.mod_eq_of_lt (Nat.lt_of_le_of_lt Nat.and_le_left hx)] at h1
 exact h1.symm
theorem za7 {k : Nat} {od : Nat} (h : o.length = 64) (hg : g ≤ 15) (h1 : 1 ≤ s) (h4 : s ≤ 4) (hx : x < 256 ^ s) (hr : rg o g s = cB od E.ho x s) : GoesTo E I rw' c [zlz g od E.ho s 55 k] o g s (cB od E.ho (x &&& k) s):=by
 have z:=xu (E:=E) (I:=I) (rw':=rw') (c:=c) (od:=od) (ho:=E.ho) (m:=k % 256 ^ s) (y:=0) h hg h1 h4 hr
 rw [Nat.xor_zero,zqe hx] at z
 exact z
theorem zjt (hE : EnOk E) (hf : FdOk f) (he : ExOk f e) (hg : g ≤ 15) (h : o.length = 64) (hx : x < 2 ^ f.bits) (hr : rg o g f.sz = cB f.ord E.ho x f.sz) : GoesTo E I rw' c (exR g f E.ho e) o g f.sz (cB f.ord E.ho (exV e x) f.sz):=by
 obtain ⟨hs1,hs4⟩:=ji hf
 have hx':=zs7 hf hx
 cases e with
 | fld=>exact GoesTo.none h hr
 | mask k=>exact za7 h hg hs1 hs4 hx' hr
 | xor k =>
  have z:=xu (E:=E) (I:=I) (rw':=rw') (c:=c) (od:=f.ord) (ho:=E.ho) (m:=256 ^ f.sz - 1) (y:=k % 256 ^ f.sz) h hg hs1 hs4 hr
  have e1 : x &&& (256 ^ f.sz - 1) = x:=by rw [jP,Nat.and_two_pow_sub_one_eq_mod,← jP,Nat.mod_eq_of_lt hx']
  have hk : k % 256 ^ f.sz = k:=Nat.mod_eq_of_lt he
  rw [e1] at z
  rw [show exV (.xor k) x = x ^^^ (k % 256 ^ f.sz) by rw [hk];rfl]
  exact z
 | shr k =>
  show GoesTo E I rw' c (shR g f k) o g f.sz (cB f.ord E.ho (x / 2 ^ k) f.sz)
  unfold shR
  rcases qa (f:=f) with ho | ho <;> rw [ho] at hr ⊢
  ·refine GoesTo.then (r1:=[wg g f.sz]) (za6 h hg hs1 hs4 hE.ho hr) fun o1 h1 r1=>?_
   refine GoesTo.then (r1:=[zha g f.sz k]) (xt h1 hg hs1 hs4 hx' r1) fun o2 h2 r2=>?_
   exact zlh h2 hg hs1 hs4 (Nat.lt_of_le_of_lt (Nat.div_le_self _ _) hx') r2
  ·exact xt h hg hs1 hs4 hx' hr
theorem zcl (hE : EnOk E) (hf : FdOk f) (hg : g ≤ 15) (h : o.length = 64) (hr : rg o g f.sz = cB f.ord E.ho x f.sz) : GoesTo E I rw' c (tnR f g) o g f.sz (zK x f.sz):=by
 obtain ⟨hs1,hs4⟩:=ji hf
 unfold tnR
 rcases qa (f:=f) with ho | ho <;> rw [ho] at hr ⊢
 ·exact za6 h hg hs1 hs4 hE.ho hr
 ·exact GoesTo.none h hr
noncomputable def Ends (E : En) (I : Hp → Prop) (rw' c : Nat) (rows : List PV) (o : List UInt8) : Bool → Prop
 | true=>∃ o',o'.length = 64 ∧ Goes E I rw' c rows o o'
 | false=>Stops E I rw' c rows o brk
theorem GoesTo.ends (h : GoesTo E I rw' c r1 o g s l) (k : ∀ o',o'.length = 64 → rg o' g s = l → Ends E I rw' c r2 o' t) : Ends E I rw' c (r1 ++ r2) o t:=by
 obtain ⟨o1,h1,h2,h3⟩:=h
 have k:=k o1 h1 h2
 cases t with
 | true=>obtain ⟨o2,k1,k2⟩:=k;exact ⟨o2,k1,h3.trans k2⟩
 | false=>exact h3.stops k
theorem zjx (h : o.length = 64) (st : Step E I rw' c row o (goV t) o) : Ends E I rw' c [row] o t:=by
 cases t with
 | true=>exact ⟨o,h,Goes.one st⟩
 | false=>exact Stops.one st (by decide)
theorem vj {op : Nat} {y : List UInt8} (h : o.length = 64) (hy : y.length = s) (h4 : s ≤ 4) (hr : rg o 0 s = l) (ht : CmpR op (zw l) (zw y) t) : Ends E I rw' c [zk0 op 0 y] o t:=by
 subst hy
 exact zjx h ⟨114,_,522,rfl,Nat.le_of_ble_eq_true rfl,rfl,fun H m' Q hE hi R q=>o_cmp m' rw' op 0 y t (by decide) h4 R (by rw [hr];exact ht) (q _ R Kp.refl)⟩
theorem zc0 {od ho op a b : Nat} (ha : a < 256 ^ s) (hb : b < 256 ^ s) (hop : op = 115 ∨ op = 142) (h : CmpR op a b t) : CmpR op (zw (cB od ho a s)) (zw (cB od ho b s)) t:=by
 have e : decide (zw (cB od ho a s) = zw (cB od ho b s)) = decide (a = b):=decide_eq_decide.mpr ⟨zvd ha hb,fun h=>h ▸ rfl⟩
 rcases h with ⟨h1,h2⟩ | ⟨h1,h2⟩ | ⟨h1,h2⟩ | ⟨h1,h2⟩
 ·exact .inl ⟨h1,by rw [e];exact h2⟩
 ·exact .inr (.inl ⟨h1,by rw [e];exact h2⟩)
 ·rcases hop with h | h <;> (rw [h] at h1;cases h1)
 ·rcases hop with h | h <;> (rw [h] at h1;cases h1)
noncomputable def MtR (op : Nat) (r : Rt) (n : Nat) (t : Bool) : Prop:=match r with
 | .num y=>CmpR op n y t
 | .span lo hi=>t = (decide (lo ≤ n ∧ n ≤ hi) == Nat.beq op 115)
theorem zo6 {op y n : Nat} (hE : EnOk E) (hf : FdOk f) (h : o.length = 64) (hn : n < 256 ^ f.sz) (hy : y < 256 ^ f.sz) (hr : rg o 0 f.sz = cB f.ord E.ho n f.sz) (ht : CmpR op n y t) : Ends E I rw' c (mnR op f E.ho y) o t:=by
 obtain ⟨hs1,hs4⟩:=ji hf
 have big : GoesTo E I rw' c (tnR f 0) o 0 f.sz (zK n f.sz):=zcl hE hf (by decide) h hr
 have ht' : CmpR op (zw (zK n f.sz)) (zw (cB 86 E.ho y f.sz)) t:=by
  show CmpR op (zw (zK n f.sz)) (zw (zK y f.sz)) t
  rw [yd hn,yd hy];exact ht
 have two : Ends E I rw' c (tnR f 0 ++ [zk0 op 0 (cB 86 E.ho y f.sz)]) o t:=big.ends fun o1 h1 r1=>vj h1 (yr ..) hs4 r1 ht'
 unfold mnR
 have hop : op = 115 ∨ op = 142 ∨ (Nat.beq op 115 || Nat.beq op 142) = false:=by
  rcases ht with ⟨rfl,_⟩ | ⟨rfl,_⟩ | ⟨rfl,_⟩ | ⟨rfl,_⟩
  ·exact .inl rfl
  ·exact .inr (.inl rfl)
  ·exact .inr (.inr rfl)
  ·exact .inr (.inr rfl)
 rcases hop with rfl | rfl | e
 ·exact vj h (yr ..) hs4 hr (zc0 hn hy (.inl rfl) ht)
 ·exact vj h (yr ..) hs4 hr (zc0 hn hy (.inr rfl) ht)
 ·rw [e];exact two
theorem zlk {op lo hi n : Nat} {new : List PV} (hE : EnOk E) (hf : FdOk f) (hop : op = 115 ∨ op = 142) (h : o.length = 64) (hn : n < 2 ^ zG f e) (hlh : lo ≤ hi) (hy : hi < 256 ^ f.sz) (hr : rg o 0 f.sz = cB f.ord E.ho n f.sz) (hm : Msp op f E.ho e lo hi new) (ht : t = (decide (lo ≤ n ∧ n ≤ hi) == Nat.beq op 115)) : Ends E I rw' c new o t:=by
 obtain ⟨hs1,hs4⟩:=ji hf
 have hn' : n < 256 ^ f.sz:=by rw [jP];exact Nat.lt_of_lt_of_le hn (Nat.pow_le_pow_right (by decide) (q9 hf))
 rcases hm with ⟨j,j1,j2,j3,j4,j5,rfl⟩ | rfl
 ·refine GoesTo.ends (r1:=[zlz 0 f.ord E.ho f.sz 55 (2 ^ zG f e - 2 ^ j)]) (za7 h (by decide) hs1 hs4 hn' hr) fun o1 h1 r1=>vj h1 (yr ..) hs4 r1 ?_
  refine zc0 (Nat.lt_of_le_of_lt Nat.and_le_left hn') (by exact Nat.lt_of_le_of_lt hlh hy) hop ?_
  have e1 : decide ((n &&& (2 ^ zG f e - 2 ^ j)) = lo) = decide (lo ≤ n ∧ n ≤ hi):=decide_eq_decide.mpr (zq9 hn (by exact Nat.le_of_lt j2) j3 j4)
  rcases hop with rfl | rfl
  ·refine .inl ⟨rfl,?_⟩
   rw [e1,ht];cases decide (lo ≤ n ∧ n ≤ hi) <;> rfl
  ·refine .inr (.inl ⟨rfl,?_⟩)
   rw [e1,ht];cases decide (lo ≤ n ∧ n ≤ hi) <;> rfl
 ·refine GoesTo.ends (zcl hE hf (by decide) h hr) fun o1 h1 r1=>zjx h1 ?_
  subst ht
  refine ⟨81,_,529,rfl,Nat.le_of_ble_eq_true rfl,rfl,fun H m' Q hE' hi' R q=>zrd m' rw' op 0 _ _ hop (by decide) (by rw [yr];exact hs4) (by rw [yr];exact hs4) R ?_⟩
  have e2 : zw (cB 86 E.ho lo f.sz) = lo:=yd (by exact Nat.lt_of_le_of_lt hlh hy)
  have e3 : zw (cB 86 E.ho hi f.sz) = hi:=yd hy
  rw [yr,r1,e2,e3,yd hn']
  exact q _ R Kp.refl
theorem zh2 {op : Nat} {r : Rt} {new : List PV} (hE : EnOk E) (hf : FdOk f) (he : ExOk f e) (hv : f.val E = some x) (h : o.length = 64) (hok : RtOk op f r) (hop : ∀ lo hi,r = .span lo hi → op = 115 ∨ op = 142) (hm : Mt op f E.ho e r new) (ht : MtR op r (exV e x) t) : Ends E I rw' c new o t:=by
 have hx:=qy hE hv
 have ld : GoesTo E I rw' c (ldR 0 f ++ exR 0 f E.ho e) o 0 f.sz (cB f.ord E.ho (exV e x) f.sz):=(za8 hE hf (by decide) h hv).then fun o1 h1 r1=>zjt hE hf he (by decide) h1 hx r1
 cases r with
 | num y =>
  subst hm
  exact ld.ends fun o1 h1 r1=>zo6 hE hf h1 (zhx hf he hx) hok.1 r1 ht
 | span lo hi =>
  obtain ⟨n2,hm,rfl⟩:=hm
  exact ld.ends fun o1 h1 r1=>zlk hE hf (hop _ _ rfl) h1 (vP hf he hx) hok.1 hok.2 r1 hm ht
theorem zd2 {op : Nat} {r : Rt} {new : List PV} (hE : EnOk E) (hf : FdOk f) (hv : f.val E = none) (hm : Mt op f E.ho e r new) : Stops E I rw' c new o brk:=by
 cases r with
 | num y=>subst hm;exact ((jZ hE hf (by decide) hv).more _).more _
 | span lo hi=>obtain ⟨n2,_,rfl⟩:=hm;exact ((jZ hE hf (by decide) hv).more _).more _
end Mine
namespace Mine
open PySem
variable {n : Nat} {L : Loc} {H H' T : Hp} {Q : PV → Hp → Prop} {QX : Fl → Loc → Hp → Prop} {c g s x : Nat} {o : List UInt8} {E : En} {I : Hp → Prop} {rw' fl ho : Nat} {v : PV} {rows : List PV} {f : Fd} {e : Ex} {a : ME} {ss : List MS}
theorem yy {m C : Nat} {es : List (Nat × PV)} (h : S2 (evE PP (n + 2) a L (H ++ T)) fun v H1=>∃ T1,H1 = H ++ T1 ∧ L 18 = some (.loc (H.length + 1)) ∧ T1[1]? = some (.inst C H.length) ∧ T1[0]? = some (.ns es) ∧ xZ PP C m = true ∧ es.length < 1000 ∧ SX (execs PP (n + 3) ss L (H ++ T1.set 0 (.ns (dictSet m v es)))) QX) :
  SX (execs PP (n + 4) (.assign (.attr (.loc 18) m) a :: ss) L (H ++ T)) QX:=by
 refine vC (i:=H.length + 1) (C:=C) (d:=H.length + 0) (es:=es) (h.mono fun v H1 k=>?_)
 obtain ⟨T1,rfl,k⟩:=k
 refine ⟨k.1,zY (k:=1) k.2.1,zY (k:=0) k.2.2.1,k.2.2.2.1,k.2.2.2.2.1,?_⟩
 rw [zgu (k:=0)];exact k.2.2.2.2.2
theorem zcv (q : Q (.loc (H.length + T.length)) (H ++ (T ++ [.list []]))) : S2 (evE PP (n + 2) (.lst []) L (H ++ T)) Q:=by
 refine ⟨_,_,rfl,?_⟩
 rw [List.length_append,List.append_assoc];exact q
theorem jg (q : Q (.loc (H.length + T.length)) (H ++ (T ++ [.dict []]))) : S2 (evE PP (n + 2) (.dict [] []) L (H ++ T)) Q:=by
 refine ⟨_,_,rfl,?_⟩
 rw [List.length_append,List.append_assoc];exact q
noncomputable def zkx (b fl ho : Nat) : Hp:=[.ns (zs2 b fl ho),.inst 237 b,.list [],.dict [],.dict [],.dict [],.dict []]
theorem wW (m : Nat) (q : Q (.loc (H.length + 1)) (H ++ zkx H.length fl ho)) : S2 (zs PP (m + 40) (.fn 237) [.loc fl,.str 295,.str ho,.str 296] H) Q :=
 zaz rfl rfl<|zD rfl rfl<|yy<|zc rfl ⟨_,rfl,rfl,rfl,rfl,rfl,by decide,yy<|zc rfl ⟨_,rfl,rfl,rfl,rfl,rfl,Nat.le_of_ble_eq_true rfl,yy<|zc rfl ⟨_,rfl,rfl,rfl,rfl,rfl,Nat.le_of_ble_eq_true rfl,yy<|zc rfl ⟨_,rfl,rfl,rfl,rfl,rfl,Nat.le_of_ble_eq_true rfl,yy<|zcv ⟨_,rfl,rfl,rfl,rfl,rfl,Nat.le_of_ble_eq_true rfl,yy<|jg ⟨_,rfl,rfl,rfl,rfl,rfl,Nat.le_of_ble_eq_true rfl,yy<|jg ⟨_,rfl,rfl,rfl,rfl,rfl,Nat.le_of_ble_eq_true rfl,yy<|jg ⟨_,rfl,rfl,rfl,rfl,rfl,Nat.le_of_ble_eq_true rfl,yy<|jg ⟨_,rfl,rfl,rfl,rfl,rfl,Nat.le_of_ble_eq_true rfl,zf ⟨rfl,q⟩⟩⟩⟩⟩⟩⟩⟩⟩⟩
theorem zg7 (hd : H[fl]? = some (.dict [(271,f.pv)])) : Rw (H ++ zkx H.length fl ho) H.length fl ho f [] :=
 ⟨zY (k:=1) rfl,zY (k:=0) rfl,yl hd,zY (k:=2) rfl,⟨[],zY (k:=4) rfl,.inl rfl⟩,(List.getElem?_eq_some_iff.mp hd).1,by decide⟩
set_option genCtorIdx false in
inductive St where
 | mt (op : Nat) (r : Rt) | vd (v : PV)
noncomputable def St.pv (e : Ex) : St → PV
 | .mt op r=>.tup [.str 297,e.pv,.str op,r.pv]
 | .vd v=>.tup [.str 219,v]
noncomputable def SayOk (f : Fd) : St → Prop
 | .mt op r=>RtOk op f r ∧ ∀ lo hi,r = .span lo hi → op = 115 ∨ op = 142
 | .vd v=>∃ a y,v = .tup [.str a,y] ∧ a ≠ 220
noncomputable def Rows (f : Fd) (ho : Nat) (e : Ex) : List St → List PV → Prop
 | [],rows=>rows = []
 | .mt op r :: l,rows=>∃ n1 n2,Mt op f ho e r n1 ∧ Rows f ho e l n2 ∧ rows = n1 ++ n2
 | .vd v :: l,rows=>∃ n2,Rows f ho e l n2 ∧ rows = .tup [.str 219,v] :: n2
noncomputable def Rt.sat (op : Nat) : Rt → Nat → Bool
 | .num y,n=>match Nat.beq op 115 with
  | true=>decide (n = y)
  | false=>match Nat.beq op 142 with
   | true=>!decide (n = y)
   | false=>match Nat.beq op 202 with
    | true=>decide (y ≤ n)
    | false=>decide (n ≤ y)
 | .span lo hi,n=>decide (lo ≤ n ∧ n ≤ hi) == Nat.beq op 115
theorem ztw {op : Nat} {r : Rt} {n : Nat} (h : RtOk op f r) : MtR op r n (r.sat op n):=by
 cases r with
 | num y =>
  obtain ⟨_,h⟩:=h
  rcases h with rfl | rfl | rfl | rfl
  ·exact .inl ⟨rfl,rfl⟩
  ·exact .inr (.inl ⟨rfl,rfl⟩)
  ·exact .inr (.inr (.inl ⟨rfl,rfl⟩))
  ·exact .inr (.inr (.inr ⟨rfl,rfl⟩))
 | span lo hi=>rfl
noncomputable def zgx (n : Nat) : List St → PV
 | []=>.none
 | .mt op r :: l=>match r.sat op n with
  | true=>zgx n l
  | false=>brk
 | .vd v :: _=>v
theorem zje (hE : EnOk E) (hf : FdOk f) (he : ExOk f e) (hv : f.val E = some x) : ∀ (l : List St) (rows : List PV) (o : List UInt8),(∀ st ∈ l,SayOk f st) → Rows f E.ho e l rows → o.length = 64 → Run E I rw' c rows o (zgx (exV e x) l)
 | [],rows,o,hl,hr,ho=>by cases hr;exact .nil o
 | .mt op r :: l,rows,o,hl,hr,ho=>by
  obtain ⟨n1,n2,hm,h2,rfl⟩:=hr
  obtain ⟨h3,h4⟩:=hl _ (List.mem_cons_self ..)
  have z:=zh2 (I:=I) (rw':=rw') (c:=c) hE hf he hv ho h3 h4 hm (ztw h3)
  show Run E I rw' c (n1 ++ n2) o (match r.sat op (exV e x) with | true=>zgx (exV e x) l | false=>brk)
  cases hs : r.sat op (exV e x) with
  | true =>
   rw [hs] at z
   obtain ⟨o',h5,h6⟩:=z
   exact h6 _ _ (zje hE hf he hv l n2 o' (fun st h=>hl st (List.mem_cons_of_mem _ h)) h2 h5)
  | false=>rw [hs] at z;exact z _
 | .vd v :: l,rows,o,hl,hr,ho=>by
  refine cp fun nq=>?_
  obtain ⟨n2,h2,rfl⟩:=hr
  obtain ⟨a,y,rfl,ha⟩:=hl _ (List.mem_cons_self ..)
  refine nq ?_
  exact .stop ⟨219,_,515,rfl,Nat.le_of_ble_eq_true rfl,rfl,fun H m' Q hE hi R q=>zat m' rw' _ (q _ R Kp.refl)⟩ ha
theorem zjf (hE : EnOk E) (hf : FdOk f) (hv : f.val E = none) {op : Nat} {r : Rt} {l : List St} (hr : Rows f E.ho e (.mt op r :: l) rows) : Run E I rw' c rows o brk:=by
 refine cp fun nq=>?_
 obtain ⟨n1,n2,hm,h2,rfl⟩:=hr
 refine nq ?_
 exact zd2 hE hf hv hm _
theorem Mt_len {op : Nat} {r : Rt} {n1 : List PV} (h : Mt op f ho e r n1) : n1.length ≤ 10:=by
 have h1:=qY 0 f
 have h2:=vh 0 f ho e
 have h3:=qW f 0
 cases r with
 | num y =>
  subst h
  have : (mnR op f ho y).length ≤ 2:=by unfold mnR;split <;> simp only [List.length_append,List.length_cons,List.length_nil] <;> lia
  simp only [List.length_append];lia
 | span lo hi =>
  obtain ⟨n2,h,rfl⟩:=h
  have : n2.length ≤ 2:=by rcases h with ⟨j,_,_,_,_,_,rfl⟩ | rfl <;> simp only [List.length_append,List.length_cons,List.length_nil] <;> lia
  simp only [List.length_append];lia
theorem wV {b : Nat} (m : Nat) (hf : FdOk f) (hho : Ho ho) (H0 : Hp) : ∀ (l : List St) (rows : List PV) (L : Loc) (H : Hp),(∀ st ∈ l,SayOk f st) → rows.length + 10 * l.length ≤ 600 → Rw H b fl ho f rows → Same b H0 H → L 101 = some (.loc (b + 1)) → L 206 = some (.loc s) →
  (∀ L' H' new,L' 101 = some (.loc (b + 1)) → L' 206 = some (.loc s) → Rows f ho e l new → Rw H' b fl ho f (rows ++ new) → Same b H0 H' → QX .next L' H') →
  SX (kQ (fun L H=>execs PP (m + 270) [.ifs (.cmp .Eq (.sub (.loc 138) (.cint 0)) (.cstr 297)) [.expr (.call (.glob 146) [.loc 101,.loc 138,.cint 0])] [.expr (.call (.glob 137) [.loc 101,.loc 138,.cint 0])]] L H) [138] (l.map (St.pv e)) L H) QX
 | [],rows,L,H,hl,hn,R,S,a1,a2,q=>jw (q _ _ [] a1 a2 rfl (R.as (List.append_nil _).symm) S)
 | .mt op r :: l,rows,L,H,hl,hn,R,S,a1,a2,q=>by
  replace hn:=List.length_cons ▸ hn
  refine zV rfl<|zu<|zx rfl<|zy<|ze rfl<|za<|zh a1<|za<|zc rfl<|za<|zc rfl<|zi<|zb0 _ op e r hf (hl _ (List.mem_cons_self ..)).1 R (by lia) hho fun n1 hm H1 R1 S1=>zf<|zf ?_
  have hlen:=Mt_len hm
  refine wV m hf hho H0 l _ _ _ (fun st h=>hl st (List.mem_cons_of_mem _ h)) (by rw [List.length_append];lia) R1 (S.trans S1) a1 a2 fun L' H' new b1 b2 hr R2 S2=>q _ _ (n1 ++ new) b1 b2 ⟨n1,new,hm,hr,rfl⟩ (R2.as (List.append_assoc ..)) S2
 | .vd v :: l,rows,L,H,hl,hn,R,S,a1,a2,q=>by
  replace hn:=List.length_cons ▸ hn
  refine zV rfl<|zu<|zx rfl<|zy<|ze rfl<|za<|zh a1<|za<|zc rfl<|za<|zc rfl<|zi<|zgy _ _ R (by lia) fun H1 R1 S1=>zf<|zf ?_
  refine wV m hf hho H0 l _ _ _ (fun st h=>hl st (List.mem_cons_of_mem _ h)) (by rw [List.length_append];simp only [List.length_cons,List.length_nil];lia) R1 (S.trans S1) a1 a2 fun L' H' new b1 b2 hr R2 S2=>q _ _ (_ :: new) b1 b2 ⟨new,hr,rfl⟩ (R2.as (by rw [List.append_assoc];rfl)) S2
theorem zh3 (hL : L 206 = some (.loc E.s)) (h : EnvH H E) (q : Q (.loc E.fl) H) : S2 (evE PP (n + 2) (.attr (.loc 206) 51) L H) Q:=by
 refine cp fun nq=>?_
 obtain ⟨es,n1,_,_,_,_,n2,_⟩:=h.n
 refine nq ?_
 exact yh hL h.i n1 rfl n2 q
noncomputable abbrev Keeps (H H' : Hp) : Prop:=∀ i ob,i < H.length → H[i]? = some ob → H'[i]? = some ob
theorem ztz (m : Nat) (l : List St) (hf : FdOk f) (hl : ∀ st ∈ l,SayOk f st) (hn : l.length ≤ 20) (hE : EnvH H E) (hB : E.B ≤ H.length) (hd : H[E.fl]? = some (.dict [(271,f.pv)])) (hr : ∀ (c rw' : Nat) rows o,Rows f E.ho e l rows → o.length = 64 → Run E (fun uu=>True) rw' c rows o v) (q : ∀ H',Keeps H H' → Q v H') :
  S2 (zs PP (m + 300) (.fn 757) [.loc E.s,.lst (l.map (St.pv e))] H) Q:=by
 refine zD rfl rfl<|zj<|ze rfl<|za<|zh3 rfl hE<|za<|zc rfl<|za<|kg rfl hE<|za<|zc rfl<|zi<|wW _<|jN<|zn rfl ⟨_,rfl,?_⟩
 have Rn:=zg7 (ho:=E.ho) hd
 refine wV (m + 24) hf hE.ho _ l [] _ _ hl (by simp only [List.length_nil];lia) Rn Same.refl rfl rfl fun L' H' new b1 b2 hrs R2 S2=>?_
 have K : Keeps H H':=fun i ob h1 h2=>S2 i ob (by lia) (by lia) (yl h2)
 have hlt : H.length + 6 < H'.length:=(List.getElem?_eq_some_iff.mp (S2 (H.length + 6) _ (by lia) (by lia) (zY (k:=6) rfl))).1
 refine zt<|ze rfl<|za<|zh b2<|za<|zh b1<|zi<|zm0 _ H.length R2.i R2.n rfl R2.r R2.len (hE.keep fun i ob h1 h2=>K i ob (by lia) h2) (by lia) (I:=fun uu=>True) trivial (fun uu uu uu uu=>trivial) (hr _ _ _ _ hrs (by decide)) fun H2 K2=>q _ fun i ob h1 h2=>K2 i ob (by lia) (K i ob h1 h2)
end Mine
namespace Mine
open PySem
variable {n : Nat} {L : Loc} {H H' T : Hp} {Q : PV → Hp → Prop} {QX : Fl → Loc → Hp → Prop} {v : PV}
structure El where
 lo : Nat
 hi : Nat
 data : PV
 a : Nat
noncomputable def zpx (x : El) : PV:=.tup [.tup [.int x.lo,.int x.hi]]
noncomputable def zlm (x : El) : List (Nat × PV):=[(246,zpx x),(165,x.data),(247,.int 0),(248,.int 0),(249,.str 226),(250,.loc (x.a + 2))]
structure ElAt (H : Hp) (x : El) : Prop where
 i : H[x.a + 1]? = some (.inst 610 x.a)
 n : H[x.a]? = some (.ns (zlm x))
structure StAt (H : Hp) (sb : Nat) (els : List El) : Prop where
 i : H[sb + 1]? = some (.inst 701 sb)
 n : H[sb]? = some (.ns [(253,.loc (sb + 2))])
 l : H[sb + 2]? = some (.list (els.map fun x=>.loc (x.a + 1)))
 e : ∀ x ∈ els,ElAt H x
 len : els.length ≤ 10
theorem StAt.keep {sb : Nat} {els : List El} (h : StAt H sb els) (k : Keeps H H') : StAt H' sb els :=
 ⟨k _ _ (List.getElem?_eq_some_iff.mp h.i).1 h.i,k _ _ (List.getElem?_eq_some_iff.mp h.n).1 h.n,k _ _ (List.getElem?_eq_some_iff.mp h.l).1 h.l,fun x hx=>⟨k _ _ (List.getElem?_eq_some_iff.mp (h.e x hx).i).1 (h.e x hx).i,k _ _ (List.getElem?_eq_some_iff.mp (h.e x hx).n).1 (h.e x hx).n⟩,h.len⟩
theorem vf {i k : Nat} {l : List PV} {v : PV} (h : H[i]? = some (.list l)) (hl : l.length ≤ 1000) (hk : l[k]? = some v) : qr (.loc i) (.int k) H = some v:=by
 exact (zr h).trans (vc hk hl)
theorem zjm {a b : Nat} : jd .Lt (.int a) (.int b) H = some (decide (a < b)):=by
 show some (decide ((a : Int) < (b : Int))) = _
 rw [zpg]
noncomputable def IsPl (els : List El) (n ans : Nat) : Prop:=ans ≤ els.length ∧ ∀ i x,els[i]? = some x → (x.hi < n ↔ i < ans)
theorem zq7 {il n ans : Nat} {els : List El} (m : Nat) (hl : H[il]? = some (.list (els.map fun x=>.loc (x.a + 1)))) (he : ∀ x ∈ els,ElAt H x) (hlen : els.length ≤ 10) (ha : IsPl els n ans) : ∀ (k lo hi : Nat) (L : Loc),hi - lo < k → lo ≤ ans → ans ≤ hi → hi ≤ els.length → L 253 = some (.loc il) → L 102 = some (.int n) → L 11 = some (.int lo) → L 12 = some (.int hi) →
  (∀ L',L' 11 = some (.int ans) → QX .next L' H) →
  SX (xV (fun L H=>evC PP (m + 30) (.cmp .Lt (.loc 11) (.loc 12)) L H) (fun L H=>execs PP (m + 30) [.assign (.name 254) (.bin .FloorDiv (.bin .Add (.loc 11) (.loc 12)) (.cint 2)),.ifs (.cmp .Lt (.sub (.sub (.attr (.sub (.loc 253) (.loc 254)) 246) (.cint 0)) (.cint 1)) (.loc 102)) [.assign (.name 11) (.bin .Add (.loc 254) (.cint 1))] [.assign (.name 12) (.loc 254)]] L H) k L H) QX:=by
 intro k
 induction k with
 | zero=>intro lo hi L h;lia
 | succ k ih =>
  intro lo hi L h h1 h2 h3 a1 a2 a3 a4 q
  by_cases hh : lo < hi
  ·have hm : (lo + hi) / 2 < els.length:=by lia
   obtain ⟨x,hx⟩ : ∃ x,els[(lo + hi) / 2]? = some x:=⟨_,List.getElem?_eq_getElem hm⟩
   have hx':=he x (List.mem_of_getElem? hx)
   have hiff:=ha.2 _ _ hx
   have hg : qr (.loc il) (.int ((lo + hi) / 2 : Nat)) H = some (.loc (x.a + 1)):=vf hl (by rw [List.length_map];lia) (by rw [List.getElem?_map,hx];rfl)
   refine zmi<|zE<|zh a3<|zh a4 ⟨_,zjm,decide_eq_true hh,zj<|zo<|zo<|zh a3<|zh a4<|yc<|zc rfl<|yW (by decide) ?_⟩
   have e1 : ((lo : Int) + (hi : Int)).fdiv 2 = (((lo + hi) / 2 : Nat) : Int):=by rw [← jc];rfl
   rw [e1]
   refine zu<|zE<|zZ<|zZ<|zh4<|zZ<|zh a1<|zh (v:=.int ((lo + hi) / 2 : Nat)) rfl ⟨_,hg,zpx x,zcn hx'.i hx'.n rfl rfl,zc rfl ⟨.tup [.int x.lo,.int x.hi],rfl,zc rfl ⟨.int x.hi,rfl,zh a2 ⟨_,zjm,?_⟩⟩⟩⟩
   by_cases hc : x.hi < n
   ·rw [decide_eq_true hc]
    have:=hiff.mp hc
    exact zj<|zo<|zc rfl<|zc rfl<|yc<|zf<|zf ⟨rfl,ih ((lo + hi) / 2 + 1) hi _ (by lia) (by lia) h2 h3 a1 a2 rfl a4 q⟩
   ·rw [decide_eq_false hc]
    have : ¬ (lo + hi) / 2 < ans:=fun h=>hc (hiff.mpr h)
    exact zj<|zc rfl<|zf<|zf ⟨rfl,ih lo ((lo + hi) / 2) _ (by lia) h1 (by lia) (by lia) a1 a2 a3 rfl q⟩
  ·refine kY<|zE<|zh a3<|zh a4 ⟨_,zjm,decide_eq_false hh,q _ ?_⟩
   rw [a3,show lo = ans by lia]
theorem zjc (m : Nat) {il n ans : Nat} {els : List El} (hl : H[il]? = some (.list (els.map fun x=>.loc (x.a + 1)))) (he : ∀ x ∈ els,ElAt H x) (hlen : els.length ≤ 10) (ha : IsPl els n ans) (q : Q (.int ans) H) : S2 (zs PP (m + 40) (.fn 628) [.loc il,.int n] H) Q:=by
 have e0 : ((els.length : Nat) : Int) = (els.length : Int):=rfl
 refine zD rfl rfl<|zj<|zc rfl<|zj<|ze rfl<|zn rfl<|qq (k:=els.length) ((len_list hl).trans (congrArg some (List.length_map _))) (by lia)<|kW ?_
 exact zq7 (m + 3) hl he hlen ha qK 0 els.length _ (by unfold qK;lia) (Nat.zero_le _) ha.1 (Nat.le_refl _) rfl rfl rfl rfl fun L' h1=>zt<|zh h1 q
theorem zt4 (m : Nat) {x : El} (hx : ElAt H x) (q : Q (.bool true) H) : S2 (zs PP (m + 20) (.fn 621) [.loc (x.a + 1),.int 0] H) Q :=
 zD rfl rfl<|zt<|e_or2<|yL<|yh rfl hx.i hx.n rfl rfl<|zc rfl ⟨true,rfl,true,rfl,q⟩
theorem qj {sb : Nat} {els : List El} (hL : L 18 = some (.loc (sb + 1))) (h : StAt H sb els) (q : Q (.loc (sb + 2)) H) : S2 (evE PP (n + 2) (.attr (.loc 18) 253) L H) Q:=yh hL h.i h.n rfl rfl q
theorem zax {sb : Nat} {els : List El} {m : Nat} (h : StAt H sb els) (q : Q (.int els.length) H) : S2 (zs PP (m + 3) (.bi 1) [.loc (sb + 2)] H) Q :=
 qq (k:=els.length) ((len_list h.l).trans (congrArg some (List.length_map _))) (by have:=h.len;lia) q
theorem zt6 (m : Nat) {sb n ans : Nat} {els : List El} (h : StAt H sb els) (ha : IsPl els n ans) (q1 : els[ans]? = none → Q .none H) (q2 : ∀ x,els[ans]? = some x → n < x.lo → Q .none H) (q3 : ∀ x,els[ans]? = some x → x.lo ≤ n → Q (.loc (x.a + 1)) H) :
  S2 (zs PP (m + 80) (.fn 670) [.loc (sb + 1),.tup [.int n],.int 0] H) Q:=by
 have hlen:=h.len
 refine zD rfl rfl<|zj<|ze rfl<|za<|qj rfl h<|zn rfl<|zjc _ h.l h.e h.len ha<|zu<|zE<|zc rfl<|ze rfl<|za<|qj rfl h<|zi<|zax h ⟨decide (ans = els.length),?_,?_⟩
 ·show some (decide ((ans : Int) = (els.length : Int))) = _
  rw [qQ]
 ·by_cases hh : ans = els.length
  ·rw [decide_eq_true hh]
   exact zt<|zc rfl<|q1 (List.getElem?_eq_none (by lia))
  ·rw [decide_eq_false hh]
   have hlt : ans < els.length:=by have:=ha.1;lia
   obtain ⟨x,hx⟩ : ∃ x,els[ans]? = some x:=⟨_,List.getElem?_eq_getElem hlt⟩
   have hx':=h.e x (List.mem_of_getElem? hx)
   have hg : qr (.loc (sb + 2)) (.int ans) H = some (.loc (x.a + 1)):=vf h.l (by rw [List.length_map];lia) (by rw [List.getElem?_map,hx];rfl)
   refine zf<|zj<|zZ<|qj rfl h<|zc rfl ⟨_,hg,zu<|zj8<|zE<|zZ<|zZ<|yh rfl hx'.i hx'.n rfl rfl<|zc rfl ⟨.tup [.int x.lo,.int x.hi],rfl,zc rfl ⟨.int x.lo,rfl,zc rfl ⟨decide (n < x.lo),?_,?_⟩⟩⟩⟩
   ·show some (decide ((n : Int) < (x.lo : Int))) = _
    rw [zpg]
   ·by_cases hc : n < x.lo
    ·rw [decide_eq_true hc];exact zt<|zc rfl<|q2 x hx hc
    ·rw [decide_eq_false hc]
     exact zth<|c_e rfl<|ze rfl<|zn rfl<|zt4 _ hx' ⟨true,rfl,zf<|zt<|zc rfl<|q3 x hx (by lia)⟩
theorem zqx (m : Nat) (q : Q (.loc (H.length + 1)) (H ++ [.ns [(253,.loc (H.length + 2))],.inst 701 H.length,.list []])) : S2 (zs PP (m + 40) (.fn 701) [] H) Q :=
 zaz rfl rfl<|zD rfl rfl<|yy<|zcv ⟨_,rfl,rfl,rfl,rfl,rfl,Nat.le_of_ble_eq_true rfl,zf ⟨rfl,q⟩⟩
theorem s_el (m lo hi : Nat) (d : PV) (q : Q (.loc (H.length + 1)) (H ++ [.ns (zlm ⟨lo,hi,d,H.length⟩),.inst 610 H.length,.dict []])) : S2 (zs PP (m + 40) (.fn 610) [.tup [.tup [.int lo,.int hi]],d] H) Q :=
 zaz rfl rfl<|zD rfl rfl<|yy<|zc rfl ⟨_,rfl,rfl,rfl,rfl,rfl,by decide,yy<|zc rfl ⟨_,rfl,rfl,rfl,rfl,rfl,Nat.le_of_ble_eq_true rfl,yy<|zc rfl ⟨_,rfl,rfl,rfl,rfl,rfl,Nat.le_of_ble_eq_true rfl,yy<|zc rfl ⟨_,rfl,rfl,rfl,rfl,rfl,Nat.le_of_ble_eq_true rfl,yy<|zc rfl ⟨_,rfl,rfl,rfl,rfl,rfl,Nat.le_of_ble_eq_true rfl,yy<|jg ⟨_,rfl,rfl,rfl,rfl,rfl,Nat.le_of_ble_eq_true rfl,zf ⟨rfl,q⟩⟩⟩⟩⟩⟩⟩
theorem zmz (m : Nat) {sb : Nat} {x : El} {els : List El} (h : StAt H sb els) (hx : ElAt H x) (hlen : els.length < 10) (hxs : x.lo ≤ x.hi) (hlt : ∀ y ∈ els,x.hi < y.lo ∧ y.lo ≤ y.hi) (hne : sb + 2 ≠ x.a ∧ sb + 2 ≠ x.a + 1 ∧ ∀ y ∈ els,sb + 2 ≠ y.a ∧ sb + 2 ≠ y.a + 1)
  (q : ∀ H',StAt H' sb (x :: els) → (∀ i ob,i ≠ sb + 2 → H[i]? = some ob → H'[i]? = some ob) → H'.length = H.length → Q .none H') : S2 (zs PP (m + 100) (.fn 656) [.loc (sb + 1),.loc (x.a + 1),.int 0] H) Q:=by
 have ha : IsPl els x.lo 0:=⟨Nat.zero_le _,fun i y hy=>by have:=hlt y (List.mem_of_getElem? hy);lia⟩
 have fin : Q .none (H.set (sb + 2) (.list ((x :: els).map fun x=>.loc (x.a + 1)))):=by
  refine q _ ⟨yg h.i (by lia),yg h.n (by lia),kI h.l,fun y hy=>?_,by rw [List.length_cons];lia⟩ (fun i ob h1 h2=>yg h2 h1.symm) (by rw [List.length_set])
  rcases List.mem_cons.mp hy with rfl | hy
  ·exact ⟨yg hx.i hne.2.1,yg hx.n hne.1⟩
  ·exact ⟨yg (h.e y hy).i (hne.2.2 y hy).2,yg (h.e y hy).n (hne.2.2 y hy).1⟩
 have ins : ∀ {L1 : Loc} {k : Nat},L1 18 = some (.loc (sb + 1)) → L1 178 = some (.int (0 : Nat)) → L1 242 = some (.loc (x.a + 1)) →
   SX (execs PP (k + 10) [.expr (.meth (.attr (.loc 18) 253) 1 [.loc 178,.loc 242])] L1 H) (FnQ Q):=by
  intro L1 k a1 a2 a3
  refine zy<|yw<|qj a1 h ⟨rfl,h.l,(by show (0 : Nat) ≠ 4;decide),za<|zh a2<|za<|zh a3<|zi ⟨_,h.l,rfl,.none,_,?_,zf fin⟩⟩
  have hd : (0 : Int) ≤ ((0 : Nat) : Int) ∧ ((0 : Nat) : Int) ≤ ((els.map fun x=>PV.loc (x.a + 1)).length : Int) ∧ (els.map fun x=>PV.loc (x.a + 1)).length ≤ lim:=by rw [List.length_map];unfold lim;lia
  exact (zA hd).trans rfl
 refine zD rfl rfl<|jA<|zZ<|yh rfl hx.i hx.n rfl rfl<|zc rfl ⟨.tup [.int x.lo,.int x.hi],rfl,_,_,rfl,zj<|ze rfl<|za<|qj rfl h<|zn rfl<|zjc _ h.l h.e h.len ha<|zj<|zc rfl<|kW<|kY<|zdb<|zE<|zc rfl<|ze rfl<|za<|qj rfl h<|zi<|zax h ⟨_,zjm,?_⟩⟩
 have tail : ∀ {L1 : Loc} {k : Nat},L1 18 = some (.loc (sb + 1)) → L1 178 = some (.int (0 : Nat)) → L1 80 = some (.int (0 : Nat)) → L1 242 = some (.loc (x.a + 1)) →
   SX (execs PP (k + 30) [.ifs (.cmp .Gt (.loc 80) (.loc 178)) [.ifs (.cmp .Eq (.attr (.sub (.attr (.loc 18) 253) (.loc 178)) 246) (.attr (.loc 242) 246)) [.stuck] [],.stuck] [],.expr (.meth (.attr (.loc 18) 253) 1 [.loc 178,.loc 242])] L1 H) (FnQ Q):=by
  intro L1 k a1 a2 a3 a4
  exact zu<|zE<|zh a3<|zh a2 ⟨false,rfl,zf<|ins a1 a2 a4⟩
 cases els with
 | nil=>exact ⟨rfl,tail rfl rfl rfl rfl⟩
 | cons y r =>
  have hy:=h.e y (List.mem_cons_self ..)
  have hly:=hlt y (List.mem_cons_self ..)
  rw [decide_eq_true (show 0 < (y :: r).length by rw [List.length_cons];lia)]
  have hg : qr (.loc (sb + 2)) (.int (0 : Nat)) H = some (.loc (y.a + 1)):=vf h.l (by rw [List.length_map];lia) rfl
  refine zE<|zZ<|zZ<|zh4<|zZ<|qj rfl h<|zc rfl ⟨_,hg,zpx y,zcn hy.i hy.n rfl rfl,zc rfl ⟨.tup [.int y.lo,.int y.hi],rfl,zc rfl ⟨.int y.lo,rfl,zc rfl ⟨false,?_,rfl,tail rfl rfl rfl rfl⟩⟩⟩⟩
  show some (decide ((y.lo : Int) ≤ (x.hi : Int))) = _
  rw [decide_eq_false (by lia)]
end Mine
namespace Mine
open PySem
variable {n : Nat} {L : Loc} {H H' T : Hp} {Q : PV → Hp → Prop} {QX : Fl → Loc → Hp → Prop} {v : PV} {E : En} {c g s : Nat} {o : List UInt8} {els : List El} {sb rw' name : Nat}
noncomputable def Asc (els : List El) : Prop:=els.Pairwise (fun x y=>x.hi < y.lo) ∧ ∀ x ∈ els,x.lo ≤ x.hi
noncomputable def plOf (n : Nat) : List El → Nat
 | []=>0
 | x :: r=>match decide (x.hi < n) with
  | true=>plOf n r + 1
  | false=>0
theorem zjg (n : Nat) : ∀ els : List El,Asc els → IsPl els n (plOf n els)
 | [],_=>⟨Nat.le_refl _,fun i x h=>by cases h⟩
 | x :: r,h=>by
  have h1 : Asc r:=⟨(List.pairwise_cons.mp h.1).2,fun y hy=>h.2 y (List.mem_cons_of_mem _ hy)⟩
  have ih:=zjg n r h1
  unfold plOf
  by_cases hx : x.hi < n
  ·rw [decide_eq_true hx]
   refine ⟨Nat.succ_le_succ ih.1,fun i y hy=>?_⟩
   cases i with
   | zero=>cases hy;exact ⟨fun uu=>Nat.succ_pos _,fun uu=>hx⟩
   | succ i=>exact (ih.2 i y hy).trans ⟨Nat.succ_lt_succ,Nat.lt_of_succ_lt_succ⟩
  ·rw [decide_eq_false hx]
   refine ⟨Nat.zero_le _,fun i y hy=>⟨fun h2=>?_,fun h2=>absurd h2 (Nat.not_lt_zero _)⟩⟩
   exfalso
   cases i with
   | zero=>cases hy;exact hx h2
   | succ i =>
    have hm:=List.mem_of_getElem? (l:=r) hy
    have:=(List.pairwise_cons.mp h.1).1 y hm
    have:=h1.2 y hm
    lia
theorem zq3 (m : Nat) (h : StAt H sb els) (ha : Asc els) (q1 : (∀ x ∈ els,¬ (x.lo ≤ n ∧ n ≤ x.hi)) → Q .none H) (q2 : ∀ x ∈ els,x.lo ≤ n → n ≤ x.hi → Q (.loc (x.a + 1)) H) : S2 (zs PP (m + 80) (.fn 670) [.loc (sb + 1),.tup [.int n],.int 0] H) Q:=by
 have hp:=zjg n els ha
 refine zt6 m h hp (fun hn=>q1 fun x hx ⟨h1,h2⟩=>?_) (fun x hx hl=>q1 fun y hy ⟨h1,h2⟩=>?_) (fun x hx hl=>q2 x (List.mem_of_getElem? hx) hl ?_)
 ·obtain ⟨i,hi⟩:=List.getElem?_of_mem hx
  have:=(List.getElem?_eq_some_iff.mp hi).1
  have hle:=List.getElem?_eq_none_iff.mp hn
  have:=(hp.2 i x hi).mpr (by exact Nat.lt_of_lt_of_le this hle)
  lia
 ·obtain ⟨i,hi⟩:=List.getElem?_of_mem hy
  have hiff:=hp.2 i y hi
  have hlx:=ha.2 x (List.mem_of_getElem? hx)
  rcases Nat.lt_trichotomy i (plOf n els) with h3 | h3 | h3
  ·have:=hiff.mpr h3;lia
  ·subst h3
   rw [hi] at hx;cases hx;lia
  ·have l1:=(List.getElem?_eq_some_iff.mp hx).1
   have l2:=(List.getElem?_eq_some_iff.mp hi).1
   have:=List.pairwise_iff_getElem.mp ha.1 _ _ l1 l2 h3
   rw [(List.getElem?_eq_some_iff.mp hx).2,(List.getElem?_eq_some_iff.mp hi).2] at this
   lia
 ·have:=hp.2 _ x hx
  lia
theorem zt5 (m : Nat) (l : List UInt8) (hs : l.length ≤ 8) (q : Q (.int (zw l)) H) : S2 (zs PP (m + 60) (.fn 206) [.bytes l,.str 86] H) Q:=zg3 m l hs q
theorem zqz (m : Nat) (h1 : 1 ≤ s) (h4 : s ≤ 4) (q : Q (.int 1) H) : S2 (zs PP (m + 12) (.fn 248) [.int s] H) Q:=zja m _ (by
 have e : ((s : Int) + 3).fdiv 4 = 1:=by rw [Int.fdiv_eq_ediv_of_nonneg _ (by decide)];lia
 rw [e];exact q)
theorem Rg.keeps (R : Rg H c o) (k : Keeps H H') : Rg H' c o:=⟨k _ _ (List.getElem?_eq_some_iff.mp R.i).1 R.i,k _ _ (List.getElem?_eq_some_iff.mp R.n).1 R.n,k _ _ (List.getElem?_eq_some_iff.mp R.v).1 R.v,R.len⟩
theorem s_key (m : Nat) (hg : g ≤ 15) (h1 : 1 ≤ s) (h4 : s ≤ 4) (hE : EnvH H E) (hB : E.B ≤ c) (R : Rg H c o) (hx : n < 256 ^ s) (hr : rg o g s = zK n s) (q : ∀ H',Keeps H H' → Q (.tup [.int n]) H') : S2 (zs PP (m + 80) (.fn 501) [.loc E.s,.loc (c + 1),.int g,.tup [.tup [.int s,.str 86]]] H) Q:=by
 have R1 : Rg (H ++ [.list []]) c o:=R.keeps fun i ob uu h=>yl h
 have hE1 : EnvH (H ++ [.list []]) E:=hE.keep fun i ob uu h=>yl h
 have hl : (H ++ [MObj.list []])[H.length]? = some (.list []):=zY (k:=0) rfl
 have hl2:=kI (ob':=.list ([] ++ [PV.int n])) hl
 refine zD rfl rfl<|zj<|zc rfl<|jN<|zn rfl ⟨_,rfl,zV rfl<|zy<|zct rfl hl<|ze rfl<|za<|vT rfl R1 hg h4 (zn rfl ⟨rfl,rfl⟩)<|za<|ze rfl<|za<|zc rfl<|za<|kg rfl hE1<|zi<|wZ _ _<|zi<|zt5 _ _ (by rw [hr,zz];exact zu2 h4 rfl) ⟨[],hl,by decide,zsx (a:=(g : Int)) rfl<|ze rfl<|zn rfl<|zqz _ h1 h4 ⟨1,rfl,zf<|jw<|zt<|ze rfl<|zn rfl<|kx (r:=.tup [.int n]) (H1:=(H ++ [MObj.list []]).set H.length (.list ([] ++ [PV.int n]))) ?_<|q _ ?_⟩⟩⟩
 ·rw [hr,yd hx]
  exact zuo hl2 (Nat.le_of_ble_eq_true rfl)
 ·intro i ob h2 h3
  exact yg (yl h3) (by exact Nat.ne_of_gt h2)
structure Stores (E : En) (rw' name sb : Nat) (els : List El) (H : Hp) : Prop where
 w : ∃ rb rns rd,H[rw']? = some (.inst 237 rb) ∧ H[rb]? = some (.ns rns) ∧ dictGet 95 rns = some (.loc rd) ∧ H[rd]? = some (.dict [])
 d : ∃ sets,H[E.sd]? = some (.dict sets) ∧ dictGet name sets = some (.loc (sb + 1))
 st : StAt H sb els
theorem Stores.keep (h : Stores E rw' name sb els H) (k : Keeps H H') : Stores E rw' name sb els H':=by
 refine cp fun nq=>?_
 obtain ⟨⟨rb,rns,rd,w1,w2,w3,w4⟩,⟨sets,d1,d2⟩,st⟩:=h
 refine nq ?_
 have kk : ∀ {i ob},H[i]? = some ob → H'[i]? = some ob:=fun h=>k _ _ (List.getElem?_eq_some_iff.mp h).1 h
 exact ⟨⟨rb,rns,rd,kk w1,kk w2,w3,kk w4⟩,⟨sets,kk d1,d2⟩,st.keep k⟩
theorem zut (hL : L 206 = some (.loc E.s)) (h : EnvH H E) (q : Q (.loc E.sd) H) : S2 (evE PP (n + 2) (.attr (.loc 206) 95) L H) Q:=by
 obtain ⟨es,n1,_,_,_,n2,_⟩:=h.n
 exact yh hL h.i n1 rfl n2 q
theorem e_now (hL : L 206 = some (.loc E.s)) (h : EnvH H E) (q : Q (.int 0) H) : S2 (evE PP (n + 2) (.attr (.loc 206) 181) L H) Q:=by
 obtain ⟨es,n1,_,_,_,_,_,n2,_⟩:=h.n
 exact yh hL h.i n1 rfl n2 q
theorem s_set (m : Nat) (hE : EnvH H E) (hS : Stores E rw' name sb els H) (q : Q (.loc (sb + 1)) H) : S2 (zs PP (m + 30) (.fn 438) [.loc E.s,.str name] H) Q:=by
 refine cp fun nq=>?_
 obtain ⟨sets,d1,d2⟩:=hS.d
 refine nq ?_
 exact zD rfl rfl<|zj<|yw<|zut rfl hE ⟨rfl,d1,(by show (1 : Nat) ≠ 4;decide),zn rfl ⟨_,d1,rfl,.loc (sb + 1),H,zeu d2,zu<|zx rfl<|zf<|zt<|zc rfl q⟩⟩
theorem zap (m : Nat) (hg : g ≤ 15) (h1 : 1 ≤ s) (h4 : s ≤ 4) (hE : EnvH H E) (hB : E.B ≤ c) (R : Rg H c o) (hS : Stores E rw' name sb els H) (ha : Asc els) (hx : n < 256 ^ s) (hr : rg o g s = zK n s) (q1 : ∀ H',Keeps H H' → (∀ x ∈ els,¬ (x.lo ≤ n ∧ n ≤ x.hi)) → Q .none H') (q2 : ∀ H' x,Keeps H H' → x ∈ els → x.lo ≤ n → n ≤ x.hi → ElAt H' x → Q (.loc (x.a + 1)) H') :
  S2 (zs PP (m + 100) (.fn 578) [.loc E.s,.loc (c + 1),.loc rw',.int g,.tup [.tup [.int s,.str 86]],.str name] H) Q:=by
 refine cp fun nq=>?_
 obtain ⟨rb,rns,rd,w1,w2,w3,w4⟩:=hS.w
 refine nq ?_
 refine zD rfl rfl<|zj<|yw<|yh rfl w1 w2 rfl w3 ⟨rfl,w4,(by show (1 : Nat) ≠ 4;decide),zn rfl ⟨_,w4,rfl,.none,H,rfl,zu<|zx rfl<|zj<|ze rfl<|zn rfl<|s_set _ hE hS<|zf<|zt<|vm rfl rfl<|zc rfl ⟨rfl,hS.st.i,hS.st.n,rfl,za<|ze rfl<|zn rfl<|s_key _ hg h1 h4 hE hB R hx hr fun H1 K1=>za<|e_now rfl (hE.keep fun i ob uu h=>K1 i ob (List.getElem?_eq_some_iff.mp h).1 h)<|zi<|zq3 _ (hS.st.keep K1) ha (q1 _ K1) fun x hx a b=>q2 _ x K1 hx a b ((hS.st.keep K1).e x hx)⟩⟩⟩
theorem zuy {x : El} {k : Nat} (hL : L k = some (.loc (x.a + 1))) (h : ElAt H x) (q : Q x.data H) : S2 (evE PP (n + 2) (.attr (.loc k) 165) L H) Q:=yh hL h.i h.n rfl rfl q
theorem zoi (k : Keeps H H') : Kp c H H':=fun i ob uu h=>k i ob (List.getElem?_eq_some_iff.mp h).1 h
theorem zqr (hg : g ≤ 15) (h1 : 1 ≤ s) (h4 : s ≤ 4) (hB : E.B ≤ c) (ha : Asc els) (hx : n < 256 ^ s) (hr : rg o g s = zK n s) (hi : ∃ x ∈ els,x.lo ≤ n ∧ n ≤ x.hi) (hv : ∀ x ∈ els,x.lo ≤ n → n ≤ x.hi → x.data = v) :
  Step E (Stores E rw' name sb els) rw' c (.tup [.str 292,.int g,.tup [.tup [.int s,.str 86]],.str name]) o v o:=by
 refine ⟨292,_,592,rfl,Nat.le_of_ble_eq_true rfl,rfl,fun H m Q hE hS R q=>?_⟩
 refine zD rfl rfl<|zj<|ze rfl<|zn rfl<|zap _ hg h1 h4 hE hB R hS ha hx hr (fun H1 K1 hn=>?_) fun H1 x K1 hm a b hx=>zu<|zx rfl<|zf<|zt<|zuy rfl hx ?_
 ·obtain ⟨x,hm,a⟩:=hi;exact absurd a (hn x hm)
 ·rw [hv x hm a b];exact q _ (R.keeps K1) (zoi K1)
theorem zqs (isn t : Bool) (hg : g ≤ 15) (h1 : 1 ≤ s) (h4 : s ≤ 4) (hB : E.B ≤ c) (ha : Asc els) (hx : n < 256 ^ s) (hr : rg o g s = zK n s) (ht : t = true ↔ ∃ x ∈ els,x.lo ≤ n ∧ n ≤ x.hi) :
  Step E (Stores E rw' name sb els) rw' c (.tup [.str 291,.int g,.tup [.tup [.int s,.str 86]],.str name,.bool isn]) o (goV (t != isn)) o:=by
 refine ⟨291,_,585,rfl,Nat.le_of_ble_eq_true rfl,rfl,fun H m Q hE hS R q=>?_⟩
 refine zD rfl rfl<|zj<|ze rfl<|zn rfl<|zap _ hg h1 h4 hE hB R hS ha hx hr (fun H1 K1 hn=>?_) fun H1 x K1 hm a b hx=>?_
 ·have e : t = false:=by
   cases t with
   | false=>rfl
   | true=>obtain ⟨x,hm,a⟩:=ht.mp rfl;exact absurd a (hn x hm)
  subst e
  have q1:=q _ (R.keeps K1) (zoi K1)
  cases isn with
  | true=>exact zu<|zx rfl<|zt<|ze rfl<|zn rfl<|zkv _ true q1
  | false=>exact zu<|zx rfl<|zf<|zt<|ze rfl<|zn rfl<|zkv _ false q1
 ·have e : t = true:=ht.mpr ⟨x,hm,a,b⟩
  subst e
  have q1:=q _ (R.keeps K1) (zoi K1)
  cases isn with
  | true=>exact zu<|zx rfl<|zt<|ze rfl<|zn rfl<|zkv _ false q1
  | false=>exact zu<|zx rfl<|zf<|zt<|ze rfl<|zn rfl<|zkv _ true q1
end Mine
namespace Mine
open PySem
variable {L : Loc} {H H' T : Hp} {Q : PV → Hp → Prop} {QX : Fl → Loc → Hp → Prop} {v : PV} {E : En} {c g : Nat} {o : List UInt8} {els : List El} {sb rw' name : Nat} {f : Fd} {e : Ex} {I I' : Hp → Prop}
theorem EnvH.ok (h : EnvH H E) : EnOk E:=⟨h.ho,by have:=h.ml;rwa [jP] at this,by have:=h.il;rwa [jP] at this,h.dl⟩
theorem Step.mono {row : PV} {o' : List UInt8} (h : Step E I rw' c row o v o') (k : ∀ H,I' H → I H) : Step E I' rw' c row o v o':=by
 refine cp fun nq=>?_
 obtain ⟨a,r,f,h1,h2,h3,h4⟩:=h
 refine nq ?_
 exact ⟨a,r,f,h1,h2,h3,fun H m Q hE hi=>h4 H m Q hE (k H hi)⟩
noncomputable def zci (g : Nat) (f : Fd) (ho : Nat) (e : Ex) : List PV:=(ldR g f ++ exR g f ho e) ++ tnR f g
theorem zey {x : Nat} (hE : EnOk E) (hf : FdOk f) (he : ExOk f e) (hg : g ≤ 15) (hv : f.val E = some x) (h : o.length = 64) : GoesTo E I rw' c (zci g f E.ho e) o g f.sz (zK (exV e x) f.sz) :=
 ((za8 hE hf hg h hv).then fun o1 h1 r1=>zjt hE hf he hg h1 (qy hE hv) r1).then fun o2 h2 r2=>zcl hE hf hg h2 r2
noncomputable def yG (f : Fd) (e : Ex) (E : En) (v : Nat → PV) : PV:=match f.val E with
 | none=>brk
 | some x=>v (exV e x)
noncomputable def layP (f : Fd) : PV:=.tup [.tup [.int f.sz,.str 86]]
noncomputable def jp : PV:=.tup [.str 301,.str 226]
theorem zm4 {v : Nat → PV} (hE : EnOk E) (hf : FdOk f) (he : ExOk f e) (hg : g ≤ 15) (hB : E.B ≤ c) (ha : Asc els) (h : o.length = 64)
  (hv : ∀ n,n < 2 ^ zG f e → (∃ a y,v n = .tup [.str a,y] ∧ a ≠ 220) ∧ (∃ x ∈ els,x.lo ≤ n ∧ n ≤ x.hi) ∧ ∀ x ∈ els,x.lo ≤ n → n ≤ x.hi → x.data = v n) (hI : ∀ H,I H → Stores E rw' name sb els H) :
  Run E I rw' c (zci g f E.ho e ++ [.tup [.str 292,.int g,layP f,.str name]]) o (yG f e E v):=by
 refine cp fun nq=>?_
 obtain ⟨hs1,hs4⟩:=ji hf
 refine nq ?_
 unfold yG
 cases hx : f.val E with
 | none=>exact (((jZ hE hf hg hx).more _).more _) _
 | some x =>
  refine cp fun nq=>?_
  obtain ⟨o1,h1,r1,h2⟩:=zey (I:=I) (rw':=rw') (c:=c) (e:=e) hE hf he hg hx h
  refine nq ?_
  refine h2 _ _ ?_
  refine cp fun nq=>?_
  obtain ⟨⟨a,y,e1,ha2⟩,h3,h4⟩:=hv (exV e x) (vP hf he (qy hE hx))
  refine nq ?_
  have st:=zqr (name:=name) (sb:=sb) (rw':=rw') hg hs1 hs4 hB ha (zhx hf he (qy hE hx)) r1 h3 h4
  show Run E I rw' c _ o1 (v (exV e x))
  rw [e1] at st ⊢
  exact .stop (st.mono hI) ha2
theorem zm6 {isn : Bool} {t : Nat → Bool} (hE : EnOk E) (hf : FdOk f) (he : ExOk f e) (hg : g ≤ 15) (hB : E.B ≤ c) (ha : Asc els) (h : o.length = 64)
  (ht : ∀ n,n < 2 ^ zG f e → (t n = true ↔ ∃ x ∈ els,x.lo ≤ n ∧ n ≤ x.hi)) (hI : ∀ H,I H → Stores E rw' name sb els H) :
  Run E I rw' c ((zci g f E.ho e ++ [.tup [.str 291,.int g,layP f,.str name,.bool isn]]) ++ [.tup [.str 219,jp]]) o (yG f e E fun n=>match t n != isn with | true=>jp | false=>brk):=by
 refine cp fun nq=>?_
 obtain ⟨hs1,hs4⟩:=ji hf
 refine nq ?_
 unfold yG
 rw [List.append_assoc]
 cases hx : f.val E with
 | none=>exact (((jZ hE hf hg hx).more _).more _) _
 | some x =>
  refine cp fun nq=>?_
  obtain ⟨o1,h1,r1,h2⟩:=zey (I:=I) (rw':=rw') (c:=c) (e:=e) hE hf he hg hx h
  refine nq ?_
  refine h2 _ _ ?_
  have st:=zqs (name:=name) (sb:=sb) (rw':=rw') isn (t (exV e x)) hg hs1 hs4 hB ha (zhx hf he (qy hE hx)) r1 (ht _ (vP hf he (qy hE hx)))
  show Run E I rw' c _ o1 (match t (exV e x) != isn with | true=>jp | false=>brk)
  cases hb : (t (exV e x) != isn) with
  | true =>
   rw [hb] at st
   exact .go (st.mono hI) (.stop ⟨219,_,515,rfl,Nat.le_of_ble_eq_true rfl,rfl,fun H m' Q hE hi R q=>zat m' rw' _ (q _ R Kp.refl)⟩ (by decide))
  | false =>
   rw [hb] at st
   exact .stop (st.mono hI) (by decide)
theorem wl {b : Nat} {rns : List (Nat × PV)} {sets : List (Nat × PV)} (w1 : H[b + 1]? = some (.inst 237 b)) (w2 : H[b]? = some (.ns rns)) (w3 : dictGet 95 rns = some (.loc (b + 3))) (w4 : H[b + 3]? = some (.dict [])) (d1 : H[E.sd]? = some (.dict sets)) (d2 : dictGet name sets = some (.loc (sb + 1))) (hs : StAt H sb els) : Stores E (b + 1) name sb els H :=
 ⟨⟨b,rns,b + 3,w1,w2,w3,w4⟩,⟨sets,d1,d2⟩,hs⟩
theorem zb1 {sets : List (Nat × PV)} {v : Nat → PV} {is : Bool} (m : Nat) (hf : FdOk f) (he : ExOk f e) (hg : g ≤ 12) (hE : EnvH H E) (hB : E.B ≤ H.length) (hd : H[E.fl]? = some (.dict [(271,f.pv)])) (d1 : H[E.sd]? = some (.dict sets)) (d2 : dictGet 300 sets = some (.loc (sb + 1))) (hs : StAt H sb els) (ha : Asc els)
  (hv : ∀ n,n < 2 ^ zG f e → (∃ a y,v n = .tup [.str a,y] ∧ a ≠ 220) ∧ (∃ x ∈ els,x.lo ≤ n ∧ n ≤ x.hi) ∧ ∀ x ∈ els,x.lo ≤ n → n ≤ x.hi → x.data = v n) (q : ∀ H',Keeps H H' → Q (yG f e E v) H') :
  S2 (zs PP (m + 300) (.fn 764) [.loc E.s,e.pv,.int g,.str 300,.bool is] H) Q:=by
 refine zD rfl rfl<|zj<|ze rfl<|za<|zh3 rfl hE<|za<|zc rfl<|za<|kg rfl hE<|za<|zc rfl<|zi<|wW _ ?_
 have Rn:=zg7 (ho:=E.ho) hd
 have hb6 : H.length + 6 < (H ++ zkx H.length E.fl E.ho).length:=by rw [List.length_append];show H.length + 6 < H.length + 7;lia
 refine zj<|ze rfl<|zn rfl<|wY _ g e hg hf Rn hb6 (by decide) hE.ho fun H1 R1 S1=>?_
 have l1:=qY g f
 have l2:=vh g f E.ho e
 have l3:=qW f g
 have hln : ([] ++ ((ldR g f ++ exR g f E.ho e) ++ tnR f g)).length < 1000:=by rw [List.nil_append,List.length_append,List.length_append];lia
 refine zu<|zx rfl<|zy<|yf rfl R1 hln<|zc rfl ⟨rfl,fun R2 S2=>zf ?_⟩
 have K : Keeps H (H1.set (H.length + 2) (.list (([] ++ ((ldR g f ++ exR g f E.ho e) ++ tnR f g)) ++ [.tup [.str 292,.int g,layP f,.str 300]]))):=fun i ob h1 h2=>S2 i ob (by lia) (by lia) (S1 i ob (by lia) (by lia) (by lia) (yl h2))
 have hw4:=S2 (H.length + 3) (.dict []) (by lia) (by lia) (S1 _ _ (by lia) (by lia) (by lia) (zY (k:=3) rfl))
 have hlt:=(List.getElem?_eq_some_iff.mp hw4).1
 have kk : ∀ {i ob},H[i]? = some ob → (H1.set (H.length + 2) (.list (([] ++ ((ldR g f ++ exR g f E.ho e) ++ tnR f g)) ++ [.tup [.str 292,.int g,layP f,.str 300]])))[i]? = some ob:=fun h=>K _ _ (List.getElem?_eq_some_iff.mp h).1 h
 have hst:=wl R2.i R2.n rfl hw4 (kk d1) d2 (hs.keep K) (E:=E)
 exact zt<|ze rfl<|zn rfl<|zm0 _ H.length R2.i R2.n rfl R2.r R2.len (hE.keep fun i ob h1 h2=>K i ob (by lia) h2) (by lia) (I:=fun H3=>Keeps _ H3) (fun uu uu uu h=>h) (fun uu uu k1 k2 i ob h1 h2=>k1 i ob h1 (k2 i ob h1 h2)) (zm4 hE.ok hf he (by lia) (by lia) ha (by decide) hv fun H3 k3=>hst.keep k3) fun H4 K4=>q _ fun i ob h1 h2=>K4 i ob (by lia) (K i ob h1 h2)
theorem zeb {sets : List (Nat × PV)} {t : Nat → Bool} {isn : Bool} (m : Nat) (hf : FdOk f) (he : ExOk f e) (hg : g ≤ 12) (hE : EnvH H E) (hB : E.B ≤ H.length) (hd : H[E.fl]? = some (.dict [(271,f.pv)])) (d1 : H[E.sd]? = some (.dict sets)) (d2 : dictGet 304 sets = some (.loc (sb + 1))) (hs : StAt H sb els) (ha : Asc els)
  (ht : ∀ n,n < 2 ^ zG f e → (t n = true ↔ ∃ x ∈ els,x.lo ≤ n ∧ n ≤ x.hi)) (q : ∀ H',Keeps H H' → Q (yG f e E fun n=>match t n != isn with | true=>jp | false=>brk) H') :
  S2 (zs PP (m + 300) (.fn 764) [.loc E.s,e.pv,.int g,.str 304,.bool isn] H) Q:=by
 refine zD rfl rfl<|zj<|ze rfl<|za<|zh3 rfl hE<|za<|zc rfl<|za<|kg rfl hE<|za<|zc rfl<|zi<|wW _ ?_
 have Rn:=zg7 (ho:=E.ho) hd
 have hb6 : H.length + 6 < (H ++ zkx H.length E.fl E.ho).length:=by rw [List.length_append];show H.length + 6 < H.length + 7;lia
 refine zj<|ze rfl<|zn rfl<|wY _ g e hg hf Rn hb6 (by decide) hE.ho fun H1 R1 S1=>?_
 have l1:=qY g f
 have l2:=vh g f E.ho e
 have l3:=qW f g
 have hln : ([] ++ ((ldR g f ++ exR g f E.ho e) ++ tnR f g)).length < 900:=by rw [List.nil_append,List.length_append,List.length_append];lia
 refine zu<|zx rfl<|zy<|yf rfl R1 (by lia)<|zc rfl ⟨rfl,fun R2 S2=>zy<|yf rfl R2 (by rw [List.length_append];simp only [List.length_cons,List.length_nil];lia)<|zc rfl ⟨rfl,fun R3 S3=>zf ?_⟩⟩
 have K : ∀ i ob,i < (H ++ zkx H.length E.fl E.ho).length → i ≠ H.length + 2 → i ≠ H.length + 4 → (H ++ zkx H.length E.fl E.ho)[i]? = some ob → _:=fun i ob h1 h2 h3 h4=>(S2.trans S3) i ob h2 h3 (S1 i ob h1 h2 h3 h4)
 have hw4:=K (H.length + 3) (.dict []) (by lia) (by lia) (by lia) (zY (k:=3) rfl)
 have hlt:=(List.getElem?_eq_some_iff.mp hw4).1
 have kk : ∀ {i ob},H[i]? = some ob → _:=fun {i ob} h=>K i ob (by have:=(List.getElem?_eq_some_iff.mp h).1;lia) (by have:=(List.getElem?_eq_some_iff.mp h).1;lia) (by have:=(List.getElem?_eq_some_iff.mp h).1;lia) (yl h)
 have hst:=wl R3.i R3.n rfl hw4 (kk d1) d2 (hs.keep fun i ob uu h=>kk h) (E:=E)
 exact zt<|ze rfl<|zn rfl<|zm0 _ H.length R3.i R3.n rfl R3.r R3.len (hE.keep fun i ob h1 h2=>kk h2) (by lia) (I:=fun H3=>Keeps _ H3) (fun uu uu uu h=>h) (fun uu uu k1 k2 i ob h1 h2=>k1 i ob h1 (k2 i ob h1 h2)) (zm6 hE.ok hf he (by lia) (by lia) ha (by decide) ht fun H3 k3=>hst.keep k3) fun H4 K4=>q _ fun i ob h1 h2=>K4 i ob (by lia) (kk h2)
end Mine
namespace Mine
open PySem
variable {n : Nat} {L : Loc} {H H' T : Hp} {Q : PV → Hp → Prop} {QX : Fl → Loc → Hp → Prop} {v : PV} {els els2 : List El} {sb : Nat}
noncomputable abbrev Sp:=Nat × Nat
noncomputable def yi (s : Sp) : PV:=.tup [.int s.1,.int s.2]
noncomputable def spL (l : List Sp) : PV:=.lst (l.map yi)
noncomputable def SpAsc (l : List Sp) : Prop:=l.Pairwise (fun a b=>a.2 < b.1) ∧ ∀ s ∈ l,s.1 ≤ s.2
noncomputable def jj (k : Nat) : PV:=.tup [.str 305,.str (317 + k)]
noncomputable def evs : Nat → List Sp → List Sp
 | _,[]=>[]
 | k,s :: r=>match Nat.beq (k % 2) 0 with
  | true=>s :: evs (k + 1) r
  | false=>evs (k + 1) r
noncomputable def whs : Nat → List Sp → List (Sp × PV)
 | _,[]=>[]
 | k,s :: r=>(s,jj k) :: whs (k + 1) r
noncomputable def ky (x : El) : Sp:=(x.lo,x.hi)
theorem wK : ∀ (k : Nat) (l : List Sp),∀ s ∈ evs k l,s ∈ l
 | k,[],s,h=>h
 | k,a :: r,s,h=>by
  unfold evs at h
  split at h
  ·rcases List.mem_cons.mp h with rfl | h
   ·exact List.mem_cons_self ..
   ·exact List.mem_cons_of_mem _ (wK _ _ _ h)
  ·exact List.mem_cons_of_mem _ (wK _ _ _ h)
theorem wD : ∀ (k : Nat) (l : List Sp),(whs k l).map Prod.fst = l
 | k,[]=>rfl
 | k,a :: r=>by unfold whs;rw [List.map_cons,wD]
noncomputable def zcy : Nat → List PV
 | 0=>[]
 | j + 1=>.int j :: zcy j
theorem zln (len : Nat) : z7 (((len : Int) - 1) + 1).toNat (fun i=>((len : Int) - 1) - (i : Int)) = zcy len:=by
 have e : (((len : Int) - 1) + 1).toNat = len:=by lia
 rw [e]
 induction len with
 | zero=>rfl
 | succ j ih =>
  have ih:=ih (by lia)
  unfold z7 at ih ⊢
  rw [List.range_succ_eq_map,List.map_cons,List.map_map]
  congr 1
  ·skip
   congr 1
   lia
  ·rw [← ih]
   apply List.map_congr_left
   intro i _
   show PV.int _ = PV.int _
   congr 1
   simp only [Nat.succ_eq_add_one]
   lia
theorem zjz {k : Nat} {a : ME} {m : Nat} (hk : k < 4) (h : S2 (evE PP (m + 9) a L H) fun v H1=>v = .int k ∧ Q (.str (317 + k)) H1) : S2 (evE PP (m + 12) (.bin .Add (.cstr 306) (.call (.glob 307) [a])) L H) Q:=by
 refine zo<|zc rfl<|ze rfl<|za<|h.mono fun v H1 ⟨e,q⟩=>?_
 subst e
 have e : PP.ofInt k = some (321 + k):=lt4 (P:=fun k=>PP.ofInt k = some (321 + k)) rfl rfl rfl rfl k hk
 have e2 : PP.cat 306 (321 + k) = some (317 + k):=lt4 (P:=fun k=>PP.cat 306 (321 + k) = some (317 + k)) rfl rfl rfl rfl k hk
 exact zi<|kx (zr e) ⟨_,_,zr e2,q⟩
theorem StAt.other {j : Nat} (h : StAt H sb els) (hj : j ≠ sb ∧ j ≠ sb + 1 ∧ j ≠ sb + 2) (hx : ∀ x ∈ els,j ≠ x.a ∧ j ≠ x.a + 1) (k : ∀ i ob,i ≠ j → H[i]? = some ob → H'[i]? = some ob) : StAt H' sb els :=
 ⟨k _ _ hj.2.1.symm h.i,k _ _ hj.1.symm h.n,k _ _ hj.2.2.symm h.l,fun x hh=>⟨k _ _ (hx x hh).2.symm (h.e x hh).i,k _ _ (hx x hh).1.symm (h.e x hh).n⟩,h.len⟩
theorem zov {l : List Sp} {k : Nat} {s : Sp} (hl : l.length ≤ 1000) (h : l[k]? = some s) : qr (spL l) (.int k) H = some (yi s):=by
 exact vc (by rw [List.getElem?_map,h];rfl) (by rw [List.length_map];exact hl)
theorem ye : Keeps H (H ++ T):=fun i ob uu h=>yl h
theorem Keeps.trans {H1 H2 H3 : Hp} (h : Keeps H1 H2) (k : Keeps H2 H3) : Keeps H1 H3:=fun i ob a e=>k i ob (List.getElem?_eq_some_iff.mp (h i ob a e)).1 (h i ob a e)
theorem Keeps.len {H1 H2 : Hp} (h : Keeps H1 H2) : H1.length ≤ H2.length:=by
 by_cases h0 : H1.length = 0
 ·lia
 ·have hl : H1.length - 1 < H1.length:=by lia
  have:=(List.getElem?_eq_some_iff.mp (h _ _ hl (List.getElem?_eq_getElem hl))).1
  lia
structure StInv (H0 H : Hp) (w : Nat) (l : List Sp) (j : Nat) (e1 e2 : List El) : Prop where
 s1 : StAt H w e1
 s2 : StAt H (w + 3) e2
 m1 : e1.map (fun x=>(ky x,x.data)) = whs j (l.drop j)
 m2 : e2.map ky = evs j (l.drop j)
 b1 : ∀ x ∈ e1,w + 6 ≤ x.a
 b2 : ∀ x ∈ e2,w + 6 ≤ x.a
 k : ∀ i ob,i < w → H0[i]? = some ob → H[i]? = some ob
 lw : w + 6 ≤ H.length
theorem zpe {α : Type} {l : List α} {j : Nat} (h : j < l.length) : l.drop j = l[j] :: l.drop (j + 1):=List.drop_eq_getElem_cons h
theorem zbu {H0 : Hp} {w : Nat} {l : List Sp} (m : Nat) (hl : l.length ≤ 4) (ha : SpAsc l) : ∀ (j : Nat) (L : Loc) (H : Hp) (e1 e2 : List El),j ≤ l.length → StInv H0 H w l j e1 e2 → L 275 = some (.loc (w + 1)) → L 304 = some (.loc (w + 4)) → L 303 = some (spL l) →
  (∀ L' H' e1 e2,L' 275 = some (.loc (w + 1)) → L' 304 = some (.loc (w + 4)) → StInv H0 H' w l 0 e1 e2 → QX .next L' H') →
  SX (kQ (fun L H=>execs PP (m + 130) [.expr (.meth (.loc 275) 213 [.call (.glob 245) [.tup [.sub (.loc 303) (.loc 277)],.tup [.cstr 305,.bin .Add (.cstr 306) (.call (.glob 307) [.loc 277])]],.cint 0]),.ifs (.cmp .Eq (.bin .Mod (.loc 277) (.cint 2)) (.cint 0)) [.expr (.meth (.loc 304) 213 [.call (.glob 245) [.tup [.sub (.loc 303) (.loc 277)],.cnone],.cint 0])] []] L H) [277] (zcy j) L H) QX
 | 0,L,H,e1,e2,hj,I,a1,a2,a3,q=>jw (q _ _ _ _ a1 a2 I)
 | j + 1,L,H,e1,e2,hj,I,a1,a2,a3,q=>by
  have hjl : j < l.length:=by lia
  have hd:=zpe hjl
  obtain ⟨s,hs⟩ : ∃ s,l[j] = s:=⟨_,rfl⟩
  replace hd:=hs ▸ hd
  have hg : l[j]? = some s:=by rw [← hs];exact List.getElem?_eq_getElem hjl
  have hss : s.1 ≤ s.2:=ha.2 s (List.mem_of_getElem? hg)
  have hpw : ∀ y ∈ l.drop (j + 1),s.2 < y.1 ∧ y.1 ≤ y.2:=by
   have h1 : (l.drop j).Pairwise (fun a b=>a.2 < b.1):=ha.1.sublist (List.drop_sublist _ _)
   rw [hd] at h1
   exact fun y hy=>⟨(List.pairwise_cons.mp h1).1 y hy,ha.2 y (List.mem_of_mem_drop hy)⟩
  have hm1 : ∀ y ∈ e1,ky y ∈ l.drop (j + 1):=fun y hy=>by
   have h1 : (e1.map (fun x=>(ky x,x.data))).map Prod.fst = l.drop (j + 1):=by rw [I.m1,wD]
   rw [← h1,List.map_map]
   exact List.mem_map.mpr ⟨y,hy,rfl⟩
  have hm2 : ∀ y ∈ e2,ky y ∈ l.drop (j + 1):=fun y hy=>wK (j + 1) _ _ (I.m2 ▸ List.mem_map.mpr ⟨y,hy,rfl⟩)
  have hlen1 : e1.length ≤ 4:=by
   have:=congrArg List.length I.m1
   have h2:=congrArg List.length (wD (j + 1) (l.drop (j + 1)))
   rw [List.length_map] at this h2
   rw [List.length_drop] at h2
   lia
  have hlen2 : e2.length < 10:=by
   have h3 : ∀ (k : Nat) (l : List Sp),(evs k l).length ≤ l.length:=by
    intro k l
    induction l generalizing k with
    | nil=>exact Nat.le_refl _
    | cons a r ih=>unfold evs;split <;> simp only [List.length_cons] <;> have:=ih (k + 1) <;> lia
   have:=congrArg List.length I.m2
   have h2:=h3 (j + 1) (l.drop (j + 1))
   rw [List.length_map] at this
   rw [List.length_drop] at h2
   lia
  have lH : ∀ {T : Hp},H.length ≤ (H ++ T).length:=fun {T}=>by rw [List.length_append];lia
  have kp1 : Keeps H (H ++ [.ns (zlm ⟨s.1,s.2,jj j,H.length⟩),.inst 610 H.length,.dict []]):=ye
  have hx1 : ElAt (H ++ [.ns (zlm ⟨s.1,s.2,jj j,H.length⟩),.inst 610 H.length,.dict []]) ⟨s.1,s.2,jj j,H.length⟩:=⟨zY (k:=1) rfl,zY (k:=0) rfl⟩
  have lw:=I.lw
  refine zV rfl<|zy<|vm rfl rfl<|zh a1 ⟨rfl,I.s1.i,I.s1.n,rfl,za<|ze rfl<|za<|z8<|za<|zZ<|zh a3<|zc rfl ⟨_,zov (by lia) hg,zi<|za<|z8<|za<|zc rfl<|za<|zjz (by lia)<|zc rfl ⟨rfl,zi<|zi<|s_el _ _ _ _<|zn rfl<|zmz _ (x:=⟨s.1,s.2,jj j,H.length⟩) (I.s1.keep kp1) hx1 (by lia) hss (fun y hy=>hpw _ (hm1 y hy)) ⟨by show w + 2 ≠ H.length;lia,by show w + 2 ≠ H.length + 1;lia,fun y hy=>⟨by have:=I.b1 y hy;lia,by have:=I.b1 y hy;lia⟩⟩ fun H1 st1 k1 l1=>?_⟩⟩⟩
  have st2 : StAt H1 (w + 3) e2:=(I.s2.keep kp1).other ⟨by lia,by lia,by lia⟩ (fun y hy=>⟨by have:=I.b2 y hy;lia,by have:=I.b2 y hy;lia⟩) k1
  have l1' : H1.length = H.length + 3:=by rw [l1,List.length_append];rfl
  have K1 : ∀ i ob,i < w → H0[i]? = some ob → H1[i]? = some ob:=fun i ob h1 h2=>k1 i ob (by lia) (yl (I.k i ob h1 h2))
  have M1 : List.map (fun x=>(ky x,x.data)) (⟨s.1,s.2,jj j,H.length⟩ :: e1) = whs j (l.drop j):=by
   rw [hd];unfold whs;rw [List.map_cons,I.m1];rfl
  have B1 : ∀ x ∈ (⟨s.1,s.2,jj j,H.length⟩ : El) :: e1,w + 6 ≤ x.a:=fun x hx=>by
   rcases List.mem_cons.mp hx with rfl | hx
   ·exact lw
   ·exact I.b1 x hx
  refine zu<|zE<|zo<|zc rfl<|zc rfl<|yH (by decide)<|zc rfl ⟨Nat.beq (j % 2) 0,?_,?_⟩
  ·have e : ((j : Int)).fmod 2 = ((j % 2 : Nat) : Int):=yb j 2
   rw [e]
   rcases Nat.mod_two_eq_zero_or_one j with h | h <;> rw [h] <;> rfl
  ·cases hb : Nat.beq (j % 2) 0 with
   | false =>
    refine zf<|zf<|zbu m hl ha j _ _ _ _ (by lia) ⟨st1,st2,M1,?_,B1,I.b2,K1,by lia⟩ a1 a2 a3 q
    rw [hd];unfold evs;rw [hb];exact I.m2
   | true =>
    have hx2 : ElAt (H1 ++ [.ns (zlm ⟨s.1,s.2,.none,H1.length⟩),.inst 610 H1.length,.dict []]) ⟨s.1,s.2,.none,H1.length⟩:=⟨zY (k:=1) rfl,zY (k:=0) rfl⟩
    have kp2 : Keeps H1 (H1 ++ [.ns (zlm ⟨s.1,s.2,.none,H1.length⟩),.inst 610 H1.length,.dict []]):=ye
    refine zy<|vm rfl rfl<|zh a2 ⟨rfl,st2.i,st2.n,rfl,za<|ze rfl<|za<|z8<|za<|zZ<|zh a3<|zc rfl ⟨_,zov (by lia) hg,zi<|za<|zc rfl<|zi<|s_el _ _ _ _<|zn rfl<|zmz _ (x:=⟨s.1,s.2,.none,H1.length⟩) (st2.keep kp2) hx2 hlen2 hss (fun y hy=>hpw _ (hm2 y hy)) ⟨by show w + 3 + 2 ≠ H1.length;lia,by show w + 3 + 2 ≠ H1.length + 1;lia,fun y hy=>⟨by have:=I.b2 y hy;lia,by have:=I.b2 y hy;lia⟩⟩ fun H2 st3 k2 l2=>?_⟩⟩
    have st4 : StAt H2 w _:=(st1.keep kp2).other (j:=w + 3 + 2) ⟨by lia,by lia,by lia⟩ (fun y hy=>⟨by have:=B1 y hy;lia,by have:=B1 y hy;lia⟩) k2
    have l2' : H2.length = H1.length + 3:=by rw [l2,List.length_append];rfl
    refine zf<|zf<|zbu m hl ha j _ _ _ _ (by lia) ⟨st4,st3,M1,?_,B1,?_,fun i ob h1 h2=>k2 i ob (by lia) (yl (K1 i ob h1 h2)),by lia⟩ a1 a2 a3 q
    ·rw [hd];unfold evs;rw [hb,List.map_cons,I.m2];rfl
    ·intro x hx
     rcases List.mem_cons.mp hx with rfl | hx
     ·show w + 6 ≤ H1.length;lia
     ·exact I.b2 x hx
theorem zr6 {k1 k2 x1 x2 : Nat} {v1 v2 : PV} (h1 : L x1 = some v1) (h2 : L x2 = some v2) (hk : Nat.beq k1 k2 = false) (q : Q (.loc H.length) (H ++ [.dict [(k1,v1),(k2,v2)]])) : S2 (evE PP (n + 5) (.dict [k1,k2] [.loc x1,.loc x2]) L H) Q:=by
 have e1 : evE PP (n + 3) (.loc x1) L H = some (v1,H):=zfc<|zh h1 ⟨rfl,rfl⟩
 have e2 : evE PP (n + 2) (.loc x2) L H = some (v2,H):=zfc<|zh h2 ⟨rfl,rfl⟩
 have e3 : yO PP (n + 4) [.loc x1,.loc x2] L H = some ([v1,v2],H):=(zI e1).trans (zI ((zI e2).trans rfl))
 have e5 : zcg [k1,k2] [v1,v2] [] = some [(k1,v1),(k2,v2)]:=by
  show some (match Nat.beq k1 k2 with | true=>(k2,v2) :: [] | false=>(k1,v1) :: dictSet k2 v2 []) = _
  rw [hk];rfl
 exact ⟨_,_,(zI e3).trans (zr e5),q⟩
noncomputable def zgn (b : Nat) : Hp:=[.ns [(253,.loc (b + 2))],.inst 701 b,.list []]
theorem zd9 (m : Nat) (q : Q (.loc (H.length + 1)) (H ++ zgn H.length)) : S2 (zs PP (m + 40) (.fn 701) [] H) Q:=zqx m q
theorem zmy {l : List Sp} (m : Nat) (hl : l.length ≤ 4) (ha : SpAsc l) (q : ∀ H' d w e1 e2,Keeps H H' → H'[d]? = some (.dict [(300,.loc (w + 1)),(304,.loc (w + 4))]) → StAt H' w e1 → StAt H' (w + 3) e2 → e1.map (fun x=>(ky x,x.data)) = whs 0 l → e2.map ky = evs 0 l → H.length ≤ w → (∀ x ∈ e1,w + 6 ≤ x.a) → (∀ x ∈ e2,w + 6 ≤ x.a) → Q (.loc d) H') : S2 (zs PP (m + 160) (.fn 771) [spL l] H) Q:=by
 have e0 : (H ++ zgn H.length) ++ zgn (H ++ zgn H.length).length = H ++ (zgn H.length ++ zgn (H.length + 3)):=by
  rw [List.length_append,List.append_assoc];rfl
 refine zD rfl rfl<|jI<|za<|ze rfl<|zi<|zd9 _<|za<|ze rfl<|zi<|zd9 _ ?_
 rw [e0,show (H ++ zgn H.length).length = H.length + 3 by rw [List.length_append];rfl]
 refine zi ⟨_,rfl,jN<|za<|zc rfl<|za<|zo<|ze rfl<|zn rfl<|qq (k:=l.length) (by show some (l.map yi).length = _;rw [List.length_map]) (by lia)<|zc rfl<|yB<|zn rfl ⟨zcy l.length,?_,?_⟩⟩
 ·skip
  rw [← zln]
  exact zr (zA ⟨rfl,rfl,by lia,by lia⟩)
 ·refine zbu (H0:=H) (w:=H.length) (m + 24) hl ha l.length _ _ [] [] (Nat.le_refl _) ⟨⟨zY (k:=1) rfl,zY (k:=0) rfl,zY (k:=2) rfl,(fun x hx=>absurd hx List.not_mem_nil),by decide⟩,⟨zY (k:=4) rfl,zY (k:=3) rfl,zY (k:=5) rfl,(fun x hx=>absurd hx List.not_mem_nil),by decide⟩,?_,?_,(fun x hx=>absurd hx List.not_mem_nil),(fun x hx=>absurd hx List.not_mem_nil),fun i ob uu h=>yl h,by rw [List.length_append];exact Nat.le_refl _⟩ rfl rfl rfl fun L' H' e1 e2 a1 a2 I=>?_
  ·rw [List.drop_length];rfl
  ·rw [List.drop_length];rfl
  ·exact zt<|zr6 a1 a2 rfl<|q _ _ H.length e1 e2 (fun i ob h1 h2=>yl (I.k i ob h1 h2)) (zY (k:=0) rfl) (I.s1.keep ye) (I.s2.keep ye) I.m1 I.m2 (Nat.le_refl _) I.b1 I.b2
end Mine
namespace Mine
open PySem
variable {n : Nat} {L : Loc} {H H' T : Hp} {Q : PV → Hp → Prop} {QX : Fl → Loc → Hp → Prop} {v : PV} {E : En} {f : Fd} {e : Ex}
structure Cut (l : List Sp) (bits : Nat) : Prop where
 len : l.length ≤ 4
 asc : SpAsc l
 top : ∀ s ∈ l,s.2 < 2 ^ bits
 all : ∀ n,n < 2 ^ bits → ∃ s ∈ l,s.1 ≤ n ∧ n ≤ s.2
noncomputable def jU (n : Nat) (s : Sp) : Bool:=decide (s.1 ≤ n ∧ n ≤ s.2)
theorem wF {l : List Sp} (ha : SpAsc l) {i j : Nat} {s t : Sp} (hi : l[i]? = some s) (hj : l[j]? = some t) (h1 : jU n s = true) (h2 : jU n t = true) : i = j:=by
 have h1:=of_decide_eq_true h1
 have h2:=of_decide_eq_true h2
 have l1:=(List.getElem?_eq_some_iff.mp hi).1
 have l2:=(List.getElem?_eq_some_iff.mp hj).1
 have e1:=(List.getElem?_eq_some_iff.mp hi).2
 have e2:=(List.getElem?_eq_some_iff.mp hj).2
 rcases Nat.lt_trichotomy i j with h | h | h
 ·have:=List.pairwise_iff_getElem.mp ha.1 _ _ l1 l2 h
  rw [e1,e2] at this;lia
 ·exact h
 ·have:=List.pairwise_iff_getElem.mp ha.1 _ _ l2 l1 h
  rw [e1,e2] at this;lia
noncomputable def zQ (n : Nat) : Nat → List Sp → Nat
 | k,[]=>k
 | k,s :: r=>match jU n s with
  | true=>k
  | false=>zQ n (k + 1) r
theorem zjq : ∀ (l : List Sp) (k : Nat),(∃ s ∈ l,jU n s = true) → ∃ i s,zQ n k l = k + i ∧ l[i]? = some s ∧ jU n s = true
 | [],k,⟨s,h,_⟩=>by cases h
 | a :: r,k,⟨s,h,hs⟩=>by
  unfold zQ
  cases ha : jU n a with
  | true=>exact ⟨0,a,rfl,rfl,ha⟩
  | false =>
   rcases List.mem_cons.mp h with rfl | h
   ·rw [ha] at hs;cases hs
   ·refine cp fun nq=>?_
    obtain ⟨i,t,h1,h2,h3⟩:=zjq r (k + 1) ⟨s,h,hs⟩
    refine nq ?_
    exact ⟨i + 1,t,by show zQ n (k + 1) r = _;rw [h1];exact Nat.succ_add ..,h2,h3⟩
theorem vo {l : List Sp} {bits : Nat} (hc : Cut l bits) (hn : n < 2 ^ bits) : ∃ s,l[zQ n 0 l]? = some s ∧ jU n s = true:=by
 refine cp fun nq=>?_
 obtain ⟨s,hs,h1⟩:=hc.all n hn
 obtain ⟨i,t,h2,h3,h4⟩:=zjq l 0 ⟨s,hs,decide_eq_true h1⟩
 refine nq ?_
 rw [h2,Nat.zero_add]
 exact ⟨t,h3,h4⟩
noncomputable def zN (s : Sp) : Rt:=match decide (s.1 = s.2) with
 | true=>.num s.1
 | false=>.span s.1 s.2
theorem zty {s : Sp} : (zN s).sat 115 n = jU n s:=by
 unfold zN jU
 by_cases h : s.1 = s.2
 ·rw [decide_eq_true h]
  exact decide_eq_decide.mpr (by lia)
 ·rw [decide_eq_false h]
  show (decide (s.1 ≤ n ∧ n ≤ s.2) == true) = _
  cases decide (s.1 ≤ n ∧ n ≤ s.2) <;> rfl
theorem ztx {s : Sp} : (zN s).sat 142 n = !jU n s:=by
 unfold zN jU
 by_cases h : s.1 = s.2
 ·rw [decide_eq_true h]
  show (!decide (n = s.1)) = _
  congr 1
  exact decide_eq_decide.mpr (by lia)
 ·rw [decide_eq_false h]
  show (decide (s.1 ≤ n ∧ n ≤ s.2) == false) = _
  cases decide (s.1 ≤ n ∧ n ≤ s.2) <;> rfl
noncomputable def yD (l : List Sp) (k : Nat) (s : Sp) : List Sp:=((l ++ l)[k + 1]?).toList.filter fun o=>!decide (o = s)
noncomputable def qt (l : List Sp) (k : Nat) (s : Sp) : List St:=(yD l k s).map (fun o=>.mt 142 (zN o)) ++ [.mt 115 (zN s),.mt 202 (.num s.1),.mt 204 (.num s.2),.vd jp]
theorem zqw {l : List Sp} (ha : SpAsc l) {k h : Nat} {s t : Sp} (hk : l[k]? = some s) (hh : l[h]? = some t) (ht : jU n t = true) : zgx n (qt l k s) = match decide (k = h) with | true=>jp | false=>brk:=by
 have tail : zgx n [.mt 115 (zN s),.mt 202 (.num s.1),.mt 204 (.num s.2),.vd jp] = match decide (k = h) with | true=>jp | false=>brk:=by
  show (match (zN s).sat 115 n with | true=>zgx n [.mt 202 (.num s.1),.mt 204 (.num s.2),.vd jp] | false=>brk) = _
  rw [zty]
  by_cases hkh : k = h
  ·subst hkh
   rw [hk] at hh;cases hh
   rw [ht,decide_eq_true rfl]
   have ht:=of_decide_eq_true ht
   show (match decide (s.1 ≤ n) with | true=>(match decide (n ≤ s.2) with | true=>jp | false=>brk) | false=>brk) = _
   rw [decide_eq_true ht.1,decide_eq_true ht.2]
  ·rw [decide_eq_false hkh]
   cases hs : jU n s with
   | true=>exact absurd (wF ha hk hh hs ht) hkh
   | false=>rfl
 unfold qt
 cases ho : yD l k s with
 | nil=>exact tail
 | cons o r =>
  have hmem : o ∈ yD l k s:=by rw [ho];exact List.mem_cons_self ..
  have hr : r = []:=by
   have h1 : (yD l k s).length ≤ 1:=by
    refine Nat.le_trans (List.length_filter_le _ _) ?_
    cases (l ++ l)[k + 1]? <;> simp
   rw [ho,List.length_cons] at h1
   exact List.length_eq_zero_iff.mp (by lia)
  subst hr
  obtain ⟨h1,h2⟩:=List.mem_filter.mp hmem
  have h2 : o ≠ s:=by simpa using h2
  have ho' : o ∈ l:=by
   have : (l ++ l)[k + 1]? = some o:=by simpa using h1
   rcases List.mem_append.mp (List.mem_of_getElem? this) with h | h <;> exact h
  show (match (zN o).sat 142 n with | true=>zgx n [.mt 115 (zN s),.mt 202 (.num s.1),.mt 204 (.num s.2),.vd jp] | false=>brk) = _
  rw [ztx]
  cases hn : jU n o with
  | false=>exact tail
  | true =>
   by_cases hkh : k = h
   ·subst hkh
    rw [hk] at hh;cases hh
    obtain ⟨j,hj⟩:=List.getElem?_of_mem ho'
    have:=wF ha hj hk hn ht
    subst this
    rw [hk] at hj;cases hj
    exact absurd rfl h2
   ·rw [decide_eq_false hkh];rfl
theorem zs1 {s : Sp} {op : Nat} (hs : s.1 ≤ s.2) (ht : s.2 < 256 ^ f.sz) (hop : op = 115 ∨ op = 142) : SayOk f (.mt op (zN s)):=by
 unfold zN
 by_cases h : s.1 = s.2
 ·rw [decide_eq_true h]
  exact ⟨⟨by exact Nat.lt_of_le_of_lt hs ht,by rcases hop with h | h;exact .inl h;exact .inr (.inl h)⟩,fun lo hi h=>Rt.noConfusion h⟩
 ·rw [decide_eq_false h]
  exact ⟨⟨hs,ht⟩,fun uu uu uu=>hop⟩
theorem zqb {l : List Sp} {bits k : Nat} {s : Sp} (hc : Cut l bits) (hb : bits ≤ 8 * f.sz) (hk : l[k]? = some s) : ∀ st ∈ qt l k s,SayOk f st:=by
 have htop : ∀ s ∈ l,s.2 < 256 ^ f.sz:=fun s hs=>by rw [jP];exact Nat.lt_of_lt_of_le (hc.top s hs) (Nat.pow_le_pow_right (by decide) hb)
 have hs:=List.mem_of_getElem? hk
 have h1:=hc.asc.2 s hs
 have h2:=htop s hs
 intro st hst
 unfold qt at hst
 rcases List.mem_append.mp hst with h | h
 ·obtain ⟨o,ho,rfl⟩:=List.mem_map.mp h
  have ho' : o ∈ l:=by
   have h3:=(List.mem_filter.mp ho).1
   have : (l ++ l)[k + 1]? = some o:=by simpa using h3
   rcases List.mem_append.mp (List.mem_of_getElem? this) with h | h <;> exact h
  exact zs1 (hc.asc.2 o ho') (htop o ho') (.inr rfl)
 ·rcases List.mem_cons.mp h with rfl | h
  ·exact zs1 h1 h2 (.inl rfl)
  ·rcases List.mem_cons.mp h with rfl | h
   ·exact ⟨⟨by exact Nat.lt_of_le_of_lt h1 h2,.inr (.inr (.inl rfl))⟩,fun uu uu h=>Rt.noConfusion h⟩
   ·rcases List.mem_cons.mp h with rfl | h
    ·exact ⟨⟨h2,.inr (.inr (.inr rfl))⟩,fun uu uu h=>Rt.noConfusion h⟩
    ·rcases List.mem_cons.mp h with rfl | h
     ·exact ⟨301,.str 226,rfl,by decide⟩
     ·cases h
theorem zsv {l : List Sp} {k : Nat} {s : Sp} : (qt l k s).length ≤ 20:=by
 have h1 : (yD l k s).length ≤ 1:=by
  refine Nat.le_trans (List.length_filter_le _ _) ?_
  cases (l ++ l)[k + 1]? <;> simp
 unfold qt
 rw [List.length_append,List.length_map]
 simp only [List.length_cons,List.length_nil]
 exact zv6 h1 rfl
theorem zsu {l : List Sp} {k : Nat} {s : Sp} (hE : EnOk E) (hf : FdOk f) (he : ExOk f e) (hc : Cut l (zG f e)) (hk : l[k]? = some s) {c rw' : Nat} {rows : List PV} {o : List UInt8} (hr : Rows f E.ho e (qt l k s) rows) (ho : o.length = 64) :
  Run E (fun uu=>True) rw' c rows o (yG f e E fun n=>match decide (k = zQ n 0 l) with | true=>jp | false=>brk):=by
 unfold yG
 cases hx : f.val E with
 | none =>
  cases hl : yD l k s with
  | nil=>unfold qt at hr;rw [hl] at hr;exact zjf hE hf hx hr
  | cons a r=>unfold qt at hr;rw [hl] at hr;exact zjf hE hf hx hr
 | some x =>
  have hn:=vP hf he (qy hE hx)
  obtain ⟨t,ht1,ht2⟩:=vo hc hn
  have z:=zje (I:=fun uu=>True) (rw':=rw') (c:=c) hE hf he hx _ rows o (zqb hc (q9 hf) hk) hr ho
  rw [zqw hc.asc hk ht1 ht2] at z
  exact z
end Mine
namespace Mine
open PySem
variable {n : Nat} {L : Loc} {H H' T : Hp} {Q : PV → Hp → Prop} {QX : Fl → Loc → Hp → Prop} {v : PV} {E : En} {f : Fd} {e : Ex}
theorem zjb (m : Nat) (s : Sp) (q : Q (zN s).pv H) : S2 (zs PP (m + 20) (.fn 743) [yi s] H) Q:=by
 refine zD rfl rfl<|zt<|jx<|zE<|zc rfl<|zc rfl ⟨decide (s.1 = s.2),?_,?_⟩
 ·show some (decide ((s.1 : Int) = (s.2 : Int))) = _
  rw [qQ]
 ·unfold zN at q
  cases h : decide (s.1 = s.2) with
  | true=>rw [h] at q;exact zc rfl q
  | false=>rw [h] at q;exact zc rfl q
theorem eq_sp (s t : Sp) : zk2 (yi s) (yi t) = some (decide (s = t)):=by
 show some (decide ((s.1 : Int) = (t.1 : Int)) && (decide ((s.2 : Int) = (t.2 : Int)) && true)) = _
 rw [qQ,qQ,Bool.and_true,← Bool.decide_and]
 exact congrArg some (decide_eq_decide.mpr Prod.ext_iff.symm)
noncomputable def PickOne (k : Nat) (l : List Sp) : Prop:=yx (l.map yi ++ l.map yi) (some ((k : Int) + 1)) (some ((k : Int) + 2)) none = ((l ++ l)[k + 1]?).toList.map yi
theorem yZ {n k : Nat} (h : ∀ f : Nat → Sp,PickOne k ((List.range n).map f)) (l : List Sp) (e : l.length = n) : PickOne k l:=qd (0,0) h l e
theorem zm9 (l : List Sp) (hl : l.length ≤ 4) (k : Nat) (hk : k < l.length) : PickOne k l :=
 lt5 (P:=fun n=>∀ k,k < n → ∀ l : List Sp,l.length = n → PickOne k l) (fun k h=>absurd h (Nat.not_lt_zero k))
  (lt1 (yZ fun uu=>by unfold PickOne;kernel_rfl))
  (lt2 (yZ fun uu=>by unfold PickOne;kernel_rfl) (yZ fun uu=>by unfold PickOne;kernel_rfl))
  (lt3 (yZ fun uu=>by unfold PickOne;kernel_rfl) (yZ fun uu=>by unfold PickOne;kernel_rfl) (yZ fun uu=>by unfold PickOne;kernel_rfl))
  (lt4 (yZ fun uu=>by unfold PickOne;kernel_rfl) (yZ fun uu=>by unfold PickOne;kernel_rfl) (yZ fun uu=>by unfold PickOne;kernel_rfl) (yZ fun uu=>by unfold PickOne;kernel_rfl))
  _ (Nat.lt_succ_of_le hl) k hk l rfl
theorem zr4 {l : List Sp} {k m : Nat} {s : Sp} (hl : l.length ≤ 4) (hk : l[k]? = some s) (a1 : L 303 = some (spL l)) (a2 : L 277 = some (.int k)) (a3 : L 151 = some (yi s)) (a4 : L 54 = some e.pv) (q : Q (.lst ((yD l k s).map fun o=>(St.mt 142 (zN o)).pv e)) H) :
  S2 (evE PP (m + 60) (.comp (.tup [.cstr 297,.loc 54,.cstr 142,.call (.glob 288) [.loc 312]]) [312] 0 [.slice (.bin .Add (.loc 303) (.loc 303)) (.bin .Add (.loc 277) (.cint 1)) (.bin .Add (.loc 277) (.cint 2)) .cnone] [.cmp .NotEq (.loc 312) (.loc 151)]) L H) Q:=by
 have hkl:=(List.getElem?_eq_some_iff.mp hk).1
 have hlen : (l.map yi).length ≤ 4:=by rw [List.length_map];exact hl
 have unSp : ∃ u : PV → Sp,∀ s,u (yi s) = s:=⟨fun v=>match v with | .tup [.int a,.int b]=>(a.toNat,b.toNat) | _=>(0,0),fun s=>rfl⟩
 obtain ⟨u,hu⟩:=unSp
 have sl : (.lst (yx (l.map yi ++ l.map yi) (some ((k : Int) + 1)) (some ((k : Int) + 2)) none) : PV) = .lst (((l ++ l)[k + 1]?).toList.map yi):=by rw [zm9 l hl k hkl]
 refine vn (((l ++ l)[k + 1]?).toList.map yi) (fun v=>(St.mt 142 (zN (u v))).pv e) (fun v=>!decide (u v = s)) ?_ ?_ ?_ ?_ ?_
 ·refine za<|qi<|zo<|zh a1<|zh a1 ⟨.lst (l.map yi ++ l.map yi),H,?_,zo<|zh a2<|zc rfl<|yc<|zo<|zh a2<|zc rfl<|yc<|zc rfl ⟨.lst (((l ++ l)[k + 1]?).toList.map yi),?_,zi ⟨rfl,rfl⟩⟩⟩
  ·exact zA (by unfold lim;exact zw2 hlen hlen rfl)
  ·exact (zA ⟨by decide,by rw [List.length_append];unfold lim;exact zw2 hlen hlen rfl⟩).trans (congrArg some sl)
 ·rw [List.length_map]
  cases (l ++ l)[k + 1]? <;> (unfold lim;simp)
 ·intro v hv L1 b1 b2 H1
  refine cp fun nq=>?_
  obtain ⟨o,ho,rfl⟩:=List.mem_map.mp hv
  refine nq ?_
  refine zE<|zh b1<|zh (by rw [b2 151 (by decide)];exact a3) ⟨!decide (o = s),?_,?_,rfl⟩
  ·exact zr (f:=fun x=>some (!x)) (eq_sp o s)
  ·rw [hu]
 ·intro v hv hp L1 b1 b2 H1
  obtain ⟨o,ho,rfl⟩:=List.mem_map.mp hv
  refine z8<|za<|zc rfl<|za<|zh (by rw [b2 54 (by decide)];exact a4)<|za<|zc rfl<|za<|ze rfl<|za<|zh b1<|zi<|zjb _ o<|zi ⟨?_,rfl⟩
  rw [hu];rfl
 ·have : ((((l ++ l)[k + 1]?).toList.map yi).filter fun v=>!decide (u v = s)).map (fun v=>(St.mt 142 (zN (u v))).pv e) = (yD l k s).map fun o=>(St.mt 142 (zN o)).pv e:=by
   rw [List.filter_map,List.map_map]
   unfold yD
   have h1 : ((fun v=>!decide (u v = s)) ∘ yi) = fun o=>!decide (o = s):=funext fun o=>by show (!decide (u (yi o) = s)) = _;rw [hu]
   have h2 : ((fun v=>(St.mt 142 (zN (u v))).pv e) ∘ yi) = fun o=>(St.mt 142 (zN o)).pv e:=funext fun o=>by show (St.mt 142 (zN (u (yi o)))).pv e = _;rw [hu]
   rw [h1,h2]
  rw [this];exact q
theorem ztk {x y : List PV} (h : x.length + y.length ≤ 1000) (q : Q (.lst (x ++ y)) H) : S2 (kA PP .Add (.lst x) (.lst y) H) Q:=by
 exact ⟨_,_,zA (Nat.le_trans h (by decide)),q⟩
theorem zh0 {a b c d : Nat} : zk2 (.tup [.str a,.str c]) (.tup [.str b,.str d]) = some (Nat.beq a b && Nat.beq c d):=by
 show some (Nat.beq a b && (Nat.beq c d && true)) = _
 rw [Bool.and_true]
theorem jC {a c : Nat} : jd .NotEq (.tup [.str a,.str c]) (.tup [.str a,.str c]) H = some false:=by
 refine (zr (f:=fun x=>some (!x)) zh0).trans ?_
 rw [Nat.beq_refl,Nat.beq_refl];rfl
noncomputable def qu (f : Fd) (e : Ex) (E : En) : PV:=match f.val E with
 | none=>.none
 | some x=>.int (exV e x)
noncomputable def kH (l : List Sp) (f : Fd) (e : Ex) (E : En) : Int:=match f.val E with
 | none=>-1
 | some x=>(zQ (exV e x) 0 l : Nat)
noncomputable def vi : Nat → List Sp → List (PV × PV)
 | _,[]=>[]
 | k,s :: r=>(.int k,yi s) :: vi (k + 1) r
theorem zff : ∀ (k : Nat) (l : List Sp),jF k (l.map yi) = (vi k l).map fun x=>.tup [x.1,x.2]
 | k,[]=>rfl
 | k,s :: r=>by
  show PV.tup [.int k,yi s] :: jF (k + 1) (r.map yi) = PV.tup [.int k,yi s] :: (vi (k + 1) r).map fun x=>.tup [x.1,x.2]
  rw [zff (k + 1) r]
theorem zbe : ∀ (k : Nat) (l : List Sp) (v : PV × PV),v ∈ vi k l → ∃ i s,v = (.int (i : Nat),yi s) ∧ s ∈ l
 | k,[],v,h=>by cases h
 | k,s :: r,v,h=>by
  rcases List.mem_cons.mp h with rfl | h
  ·exact ⟨k,s,rfl,List.mem_cons_self ..⟩
  ·refine cp fun nq=>?_
   obtain ⟨i,t,h1,h2⟩:=zbe (k + 1) r v h
   refine nq ?_
   exact ⟨i,t,h1,List.mem_cons_of_mem _ h2⟩
theorem vQ : ∀ (k : Nat) (l : List Sp),(vi k l).length = l.length
 | k,[]=>rfl
 | k,s :: r=>by show (vi (k + 1) r).length + 1 = _;rw [vQ];rfl
noncomputable def pIn (n : Nat) (v : PV × PV) : Bool:=match v.2 with
 | .tup [.int a,.int b]=>decide (a ≤ (n : Int)) && decide ((n : Int) ≤ b)
 | _=>false
theorem zhc (a : PV) (s : Sp) : pIn n (a,yi s) = jU n s:=by
 show (decide ((s.1 : Int) ≤ (n : Int)) && decide ((n : Int) ≤ (s.2 : Int))) = decide (s.1 ≤ n ∧ n ≤ s.2)
 rw [kT,kT]
 by_cases h1 : s.1 ≤ n <;> by_cases h2 : n ≤ s.2 <;> simp [h1,h2]
theorem za5 : ∀ (k : Nat) (l : List Sp),(∃ s ∈ l,jU n s = true) → ∃ r,((vi k l).filter (pIn n)).map Prod.fst = .int (zQ n k l : Nat) :: r
 | k,[],⟨s,h,_⟩=>by cases h
 | k,a :: r,⟨s,h,hs⟩=>by
  unfold vi zQ
  cases ha : jU n a with
  | true=>rw [List.filter_cons_of_pos (by rw [zhc];exact ha)];exact ⟨_,rfl⟩
  | false =>
   rw [List.filter_cons_of_neg (by rw [zhc,ha];exact Bool.false_ne_true)]
   rcases List.mem_cons.mp h with rfl | h
   ·rw [ha] at hs;cases hs
   ·exact za5 (k + 1) r ⟨s,h,hs⟩
theorem zuv {l : List Sp} {m : Nat} (hl : l.length ≤ 4) (hc : ∀ x,f.val E = some x → ∃ s ∈ l,jU (exV e x) s = true) (a1 : L 303 = some (spL l)) (a2 : L 102 = some (qu f e E)) (q : Q (.int (kH l f e E)) H) :
  S2 (evE PP (m + 60) (.ite (.cmp .Is (.loc 102) .cnone) (.neg (.cint 1)) (.sub (.comp (.loc 277) [277,151] 2 [.glob 278,.loc 303] [.cmp2 .LtE .LtE (.sub (.loc 151) (.cint 0)) (.loc 102) (.sub (.loc 151) (.cint 1))]) (.cint 0))) L H) Q:=by
 unfold kH at q
 unfold qu at a2
 cases hx : f.val E with
 | none =>
  rw [hx] at q a2
  exact jx<|zE<|zh a2<|zc rfl ⟨true,rfl,zc rfl q⟩
 | some x =>
  rw [hx] at q a2
  obtain ⟨r,hr⟩:=za5 (n:=exV e x) 0 l (hc x hx)
  refine jx<|zE<|zh a2<|zc rfl ⟨false,rfl,zZ<|zcw (H2:=H) (by decide) (vi 0 l) Prod.fst (pIn (exV e x)) ?_ ?_ ?_ ?_ ?_⟩
  ·refine za<|zc rfl<|za<|zh a1<|zi ⟨rfl,?_⟩
   show some (Src.vals (jF 0 (l.map yi))) = _
   rw [zff]
  ·rw [vQ];unfold lim;exact zu2 hl rfl
  ·intro v hv L1 b1 b2 b3 H1
   obtain ⟨i,s,rfl,hs⟩:=zbe _ _ _ hv
   have b4 : L1 102 = some (.int (exV e x : Nat)):=by rw [b3 102 (by decide) (by decide)];exact a2
   refine c_e rfl<|zpc<|zZ<|zh b2<|zc rfl ⟨.int s.1,rfl,zh b4 ⟨decide (s.1 ≤ exV e x),?_,?_⟩⟩
   ·show some (decide ((s.1 : Int) ≤ (exV e x : Int))) = _
    rw [kT]
   ·rw [zhc];unfold jU
    by_cases h1 : s.1 ≤ exV e x
    ·rw [decide_eq_true h1]
     refine zZ<|zh b2<|zc rfl ⟨.int s.2,rfl,decide (exV e x ≤ s.2),?_,_,rfl,?_,rfl⟩
     ·show some (decide ((exV e x : Int) ≤ (s.2 : Int))) = _
      rw [kT]
     ·exact decide_eq_decide.mpr ⟨fun h=>⟨h1,h⟩,fun h=>h.2⟩
    ·rw [decide_eq_false h1]
     exact ⟨false,rfl,(decide_eq_false fun h=>h1 h.1).symm,rfl⟩
  ·intro v hv hp L1 b1 b2 b3 H1
   exact zh b1 ⟨rfl,rfl⟩
  ·rw [hr]
   have hlen : (PV.int (zQ (exV e x) 0 l : Nat) :: r).length ≤ 4:=by
    rw [← hr,List.length_map]
    refine Nat.le_trans (List.length_filter_le _ _) ?_
    rw [vQ];exact hl
   refine zc rfl ⟨_,?_,q⟩
   exact vc (k:=0) rfl (Nat.le_trans hlen (by decide))
end Mine
namespace Mine
open PySem
variable {n g : Nat} {L : Loc} {H H' T : Hp} {Q : PV → Hp → Prop} {QX : Fl → Loc → Hp → Prop} {v : PV} {E : En} {f : Fd} {e : Ex} {l : List Sp}
theorem kh {k j : Nat} {v : PV} (h : Nat.beq j k = false) : ∀ es : List (Nat × PV),dictGet k (dictSet j v es) = dictGet k es
 | []=>by
  show (match Nat.beq j k with | true=>some v | false=>none) = _
  exact h ▸ rfl
 | a :: r=>by
  unfold dictSet
  cases hb : Nat.beq a.1 j with
  | true =>
   have:=Nat.eq_of_beq_eq_true hb
   show (match Nat.beq j k with | true=>some v | false=>dictGet k r) = (match Nat.beq a.1 k with | true=>some a.2 | false=>dictGet k r)
   rw [this,h]
  | false =>
   show (match Nat.beq a.1 k with | true=>some a.2 | false=>dictGet k (dictSet j v r)) = (match Nat.beq a.1 k with | true=>some a.2 | false=>dictGet k r)
   rw [kh h r]
theorem zj0 {j : Nat} {v : PV} : ∀ es : List (Nat × PV),dictGet j (dictSet j v es) = some v
 | []=>by
  show (match Nat.beq j j with | true=>some v | false=>none) = _
  rw [Nat.beq_refl]
 | a :: r=>by
  unfold dictSet
  cases hb : Nat.beq a.1 j with
  | true =>
   show (match Nat.beq j j with | true=>some v | false=>dictGet j r) = _
   rw [Nat.beq_refl]
  | false =>
   show (match Nat.beq a.1 j with | true=>some a.2 | false=>dictGet j (dictSet j v r)) = _
   exact hb ▸ zj0 r
theorem zfg {j : Nat} {v : PV} : ∀ es : List (Nat × PV),(dictGet j es).isSome = true → (dictSet j v es).length = es.length
 | [],h=>by cases h
 | a :: r,h=>by
  unfold dictSet
  unfold dictGet at h
  cases hb : Nat.beq a.1 j with
  | true=>rfl
  | false=>rw [hb] at h;show (dictSet j v r).length + 1 = _;rw [zfg r h];rfl
noncomputable abbrev En.withSd (E : En) (d : Nat) : En:={ E with sd:=d }
theorem EnvH.setSd {d : Nat} {es : List (Nat × PV)} (h : EnvH H E) (hn : H[E.sn]? = some (.ns es)) : EnvH (H.set E.sn (.ns (dictSet 95 (.loc d) es))) (E.withSd d):=by
 refine cp fun nq=>?_
 obtain ⟨i,⟨es',n1,n2,n3,n4,n5,n6,n7,n8⟩,od,pi,⟨es2,p1,p2⟩,pd,⟨es3,q1,q2⟩,a,b1,b2,dl,lt,ne⟩:=h
 refine nq ?_
 replace hn:=n1 ▸ hn
 cases hn
 have hne : ∀ {j : Nat} {ob : MObj},H[j]? = some ob → jv ob ≠ 2 → E.sn ≠ j:=fun {j ob} h hk he=>by
  subst he;rw [n1] at h;cases h;exact hk rfl
 exact ⟨yg i (hne i (by show (4 : Nat) ≠ 2;decide)),⟨_,kI n1,by rw [kh rfl];exact n2,by rw [kh rfl];exact n3,by rw [kh rfl];exact n4,zj0 _,by rw [kh rfl];exact n6,by rw [kh rfl];exact n7,by rw [zfg _ (by rw [n5];rfl)];exact n8⟩,
  yg od (hne od (by show (1 : Nat) ≠ 2;decide)),yg pi (hne pi (by show (4 : Nat) ≠ 2;decide)),⟨es2,yg p1 ne.symm,p2⟩,yg pd (hne pd (by show (3 : Nat) ≠ 2;decide)),⟨es3,yg q1 (hne q1 (by show (1 : Nat) ≠ 2;decide)),q2⟩,a,b1,b2,dl,lt,ne⟩
theorem zgf {d : Nat} : f.val (E.withSd d) = f.val E:=by cases f <;> rfl
theorem zpw {d : Nat} {v : Nat → PV} : yG f e (E.withSd d) v = yG f e E v:=by unfold yG;rw [zgf]
theorem zqc {els : List El} (ha : SpAsc (els.map ky)) : Asc els:=⟨by have:=ha.1;rw [List.pairwise_map] at this;exact this,fun x hx=>ha.2 _ (List.mem_map.mpr ⟨x,hx,rfl⟩)⟩
theorem zhy : ∀ (k : Nat) (l : List Sp),(evs k l).Sublist l
 | k,[]=>List.Sublist.refl _
 | k,s :: r=>by
  unfold evs
  split
  ·exact (zhy (k + 1) r).cons_cons s
  ·exact (zhy (k + 1) r).cons s
theorem zrz {k : Nat} (ha : SpAsc l) : SpAsc (evs k l):=⟨ha.1.sublist (zhy k l),fun s hs=>ha.2 s (wK k l s hs)⟩
theorem zcq : ∀ (k : Nat) (l : List Sp) (s : Sp),s ∈ evs k l ↔ ∃ i,l[i]? = some s ∧ (k + i) % 2 = 0
 | k,[],s=>⟨fun h=>(nomatch h),fun ⟨i,h,_⟩=>(nomatch h)⟩
 | k,a :: r,s=>by
  have ih:=zcq (k + 1) r s
  have up : (∃ i,r[i]? = some s ∧ (k + 1 + i) % 2 = 0) → ∃ i,(a :: r)[i]? = some s ∧ (k + i) % 2 = 0:=fun ⟨i,h1,h2⟩=>⟨i + 1,h1,by lia⟩
  have dn : ∀ i,(a :: r)[i]? = some s ∧ (k + i) % 2 = 0 → (i = 0 ∧ a = s ∧ k % 2 = 0) ∨ ∃ i,r[i]? = some s ∧ (k + 1 + i) % 2 = 0:=fun i ⟨h1,h2⟩=>by
   cases i with
   | zero=>exact .inl ⟨rfl,by cases h1;rfl,h2⟩
   | succ i=>exact .inr ⟨i,h1,by lia⟩
  unfold evs
  cases hb : Nat.beq (k % 2) 0 with
  | true =>
   have hk:=Nat.eq_of_beq_eq_true hb
   constructor
   ·intro h
    rcases List.mem_cons.mp h with rfl | h
    ·exact ⟨0,rfl,hk⟩
    ·exact up (ih.mp h)
   ·rintro ⟨i,h⟩
    rcases dn i h with ⟨_,rfl,_⟩ | h
    ·exact List.mem_cons_self ..
    ·exact List.mem_cons_of_mem _ (ih.mpr h)
  | false =>
   have hk : k % 2 ≠ 0:=fun h=>by rw [h] at hb;cases hb
   constructor
   ·exact fun h=>up (ih.mp h)
   ·rintro ⟨i,h⟩
    rcases dn i h with ⟨_,_,h⟩ | h
    ·exact absurd h hk
    ·exact ih.mpr h
theorem zbr : ∀ (k : Nat) (l : List Sp) (p : Sp × PV),p ∈ whs k l ↔ ∃ i,l[i]? = some p.1 ∧ p.2 = jj (k + i)
 | k,[],p=>⟨fun h=>(nomatch h),fun ⟨i,h,_⟩=>(nomatch h)⟩
 | k,a :: r,p=>by
  have ih:=zbr (k + 1) r p
  constructor
  ·intro h
   rcases List.mem_cons.mp h with rfl | h
   ·exact ⟨0,rfl,rfl⟩
   ·refine cp fun nq=>?_
    obtain ⟨i,h1,h2⟩:=ih.mp h
    refine nq ?_
    exact ⟨i + 1,h1,by rw [h2];congr 1;exact Nat.succ_add ..⟩
  ·rintro ⟨i,h1,h2⟩
   cases i with
   | zero =>
    cases h1
    have : p = (p.1,jj k):=Prod.ext rfl h2
    exact this ▸ List.mem_cons_self ..
   | succ i=>exact List.mem_cons_of_mem _ (ih.mpr ⟨i,h1,by rw [h2];congr 1;exact (Nat.succ_add ..).symm⟩)
theorem zmg {e1 : List El} {bits : Nat} (hc : Cut l bits) (h1 : e1.map (fun x=>(ky x,x.data)) = whs 0 l) (hn : n < 2 ^ bits) : (∃ a y,jj (zQ n 0 l) = .tup [.str a,y] ∧ a ≠ 220) ∧ (∃ x ∈ e1,x.lo ≤ n ∧ n ≤ x.hi) ∧ ∀ x ∈ e1,x.lo ≤ n → n ≤ x.hi → x.data = jj (zQ n 0 l):=by
 obtain ⟨t,ht1,ht2⟩:=vo hc hn
 refine ⟨⟨305,_,rfl,by decide⟩,?_,fun x hx a b=>?_⟩
 ·have : (t,jj (zQ n 0 l)) ∈ whs 0 l:=(zbr 0 l _).mpr ⟨_,ht1,by rw [Nat.zero_add]⟩
  rw [← h1] at this
  obtain ⟨x,hx,e⟩:=List.mem_map.mp this
  have e1 : ky x = t:=congrArg Prod.fst e
  have:=of_decide_eq_true ht2
  rw [← e1] at this
  exact ⟨x,hx,this⟩
 ·have : (ky x,x.data) ∈ whs 0 l:=by rw [← h1];exact List.mem_map.mpr ⟨x,hx,rfl⟩
  obtain ⟨i,h2,h3⟩:=(zbr 0 l _).mp this
  have:=wF hc.asc h2 ht1 (decide_eq_true ⟨a,b⟩) ht2
  rw [Nat.zero_add,this] at h3
  exact h3
theorem zks {e2 : List El} {bits : Nat} (hc : Cut l bits) (h2 : e2.map ky = evs 0 l) (hn : n < 2 ^ bits) : decide (zQ n 0 l % 2 = 0) = true ↔ ∃ x ∈ e2,x.lo ≤ n ∧ n ≤ x.hi:=by
 obtain ⟨t,ht1,ht2⟩:=vo hc hn
 constructor
 ·intro h
  have h:=of_decide_eq_true h
  have : t ∈ evs 0 l:=(zcq 0 l t).mpr ⟨_,ht1,by rw [Nat.zero_add];exact h⟩
  replace this:=h2 ▸ this
  refine cp fun nq=>?_
  obtain ⟨x,hx,rfl⟩:=List.mem_map.mp this
  refine nq ?_
  exact ⟨x,hx,of_decide_eq_true ht2⟩
 ·rintro ⟨x,hx,a⟩
  have : ky x ∈ evs 0 l:=by rw [← h2];exact List.mem_map.mpr ⟨x,hx,rfl⟩
  refine cp fun nq=>?_
  obtain ⟨i,h3,h4⟩:=(zcq 0 l _).mp this
  refine nq ?_
  have:=wF hc.asc h3 ht1 (decide_eq_true a) ht2
  rw [Nat.zero_add,this] at h4
  exact decide_eq_true h4
structure LF (L : Loc) (E : En) (l : List Sp) (f : Fd) (e : Ex) (g : Nat) : Prop where
 s : L 206 = some (.loc E.s)
 x : L 54 = some e.pv
 k : L 303 = some (spL l)
 n : L 102 = some (qu f e E)
 r : L 104 = some (.int g)
 a : L 264 = some jp
 b : L 309 = some brk
 h : L 310 = some (.int (kH l f e E))
theorem zvl {k : Nat} {s : Sp} : (((yD l k s).map fun o=>(St.mt 142 (zN o)).pv e) ++ [.tup [.str 297,e.pv,.str 115,(zN s).pv],.tup [.str 297,e.pv,.str 202,.tup [.str 289,.int s.1]]]) ++ [.tup [.str 297,e.pv,.str 204,.tup [.str 289,.int s.2]],.tup [.str 219,jp]] = (qt l k s).map (St.pv e):=by
 unfold qt
 rw [List.map_append,List.map_map,List.append_assoc]
 rfl
theorem zrx {k : Nat} : (match decide ((k : Int) = kH l f e E) with | true=>jp | false=>brk) = yG f e E fun n=>match decide (k = zQ n 0 l) with | true=>jp | false=>brk:=by
 unfold kH yG
 cases hx : f.val E with
 | none=>rw [decide_eq_false (by show ¬ (k : Int) = -1;exact by simp)]
 | some x=>show (match decide ((k : Int) = (zQ (exV e x) 0 l : Nat)) with | true=>jp | false=>brk) = _;rw [qQ]
theorem ne_b (t : Bool) : jd .NotEq (match t with | true=>jp | false=>brk) (match t with | true=>jp | false=>brk) H = some false:=by cases t <;> exact jC
theorem zrp (m : Nat) (hf : FdOk f) (he : ExOk f e) (hc : Cut l (zG f e)) (H0 : Hp) (hE : EnvH H0 E) (hB : E.B ≤ H0.length) (hd : H0[E.fl]? = some (.dict [(271,f.pv)])) : ∀ (r : List Sp) (k : Nat) (L : Loc) (H : Hp),l.drop k = r → Keeps H0 H → LF L E l f e g → (∀ L' H',Keeps H0 H' → LF L' E l f e g → QX .next L' H') →
  SX (kQ (fun L H=>execs PP (m + 330) [.assign (.name 311) (.comp (.tup [.cstr 297,.loc 54,.cstr 142,.call (.glob 288) [.loc 312]]) [312] 0 [.slice (.bin .Add (.loc 303) (.loc 303)) (.bin .Add (.loc 277) (.cint 1)) (.bin .Add (.loc 277) (.cint 2)) .cnone] [.cmp .NotEq (.loc 312) (.loc 151)]),.assign (.name 311) (.bin .Add (.loc 311) (.lst [.tup [.cstr 297,.loc 54,.cstr 115,.call (.glob 288) [.loc 151]],.tup [.cstr 297,.loc 54,.cstr 202,.tup [.cstr 289,.sub (.loc 151) (.cint 0)]]])),.assign (.name 311) (.bin .Add (.loc 311) (.lst [.tup [.cstr 297,.loc 54,.cstr 204,.tup [.cstr 289,.sub (.loc 151) (.cint 1)]],.tup [.cstr 219,.loc 264]])),.ifs (.cmp .NotEq (.call (.glob 293) [.loc 206,.loc 311]) (.ite (.cmp .Eq (.loc 277) (.loc 310)) (.loc 264) (.loc 309))) [.ret (.cbool false)] []] L H) [277,151] (jF k (r.map yi)) L H) QX:=by
 intro r
 induction r with
 | nil=>intro k L H hk K F q;exact jw (q _ _ K F)
 | cons s r ih =>
  intro k L H hk K F q
  have hks : l[k]? = some s:=by
   have:=congrArg (·[0]?) hk
   simpa using this
  have hd2 : l.drop (k + 1) = r:=by
   have:=congrArg (List.drop 1) hk
   simpa [List.drop_drop] using this
  have hlo : (yD l k s).length ≤ 1:=by
   refine Nat.le_trans (List.length_filter_le _ _) ?_
   cases (l ++ l)[k + 1]? <;> simp
  refine zV (v:=.tup [.int k,yi s]) rfl<|zj<|zr4 hc.len hks F.k rfl rfl F.x<|zj<|zo<|zc rfl<|zo9<|za<|z8<|za<|zc rfl<|za<|zh F.x<|za<|zc rfl<|za<|ze rfl<|zn rfl<|zjb _ s<|zi<|za<|z8<|za<|zc rfl<|za<|zh F.x<|za<|zc rfl<|zn rfl<|zi<|ztk (by rw [List.length_map];simp only [List.length_cons,List.length_nil];exact zv6 hlo rfl)<|zj<|zo<|zc rfl<|zo9<|za<|z8<|za<|zc rfl<|za<|zh F.x<|za<|zc rfl<|zn rfl<|za<|z8<|za<|zc rfl<|za<|zh F.a<|zi<|zi<|ztk (by rw [List.length_append,List.length_map];simp only [List.length_cons,List.length_nil];exact zv6 hlo rfl) ?_
  refine zu<|zE<|ze rfl<|za<|zh F.s<|za (zc rfl (zi ?_))
  have hs:=zvl (l:=l) (e:=e) (k:=k) (s:=s)
  change S2 (zs PP _ (.fn 757) [.loc E.s,.lst ((((yD l k s).map fun o=>(St.mt 142 (zN o)).pv e) ++ [.tup [.str 297,e.pv,.str 115,(zN s).pv],.tup [.str 297,e.pv,.str 202,.tup [.str 289,.int s.1]]]) ++ [.tup [.str 297,e.pv,.str 204,.tup [.str 289,.int s.2]],.tup [.str 219,jp]])] H) _
  rw [hs]
  refine ztz _ (qt l k s) hf (zqb hc (q9 hf) hks) zsv (hE.keep fun i ob h1 h2=>K i ob (by exact Nat.lt_of_lt_of_le h1 hB) h2) (by have:=K.len;exact Nat.le_trans hB K.len) (K _ _ (List.getElem?_eq_some_iff.mp hd).1 hd) (fun c rw' rows o hr ho=>zsu hE.ok hf he hc hks hr ho) fun H1 K1=>?_
  refine jx<|zE<|zh (v:=.int k) rfl<|zh F.h ⟨decide ((k : Int) = kH l f e E),rfl,?_⟩
  have hx:=zrx (l:=l) (f:=f) (e:=e) (E:=E) (k:=k)
  cases hdk : decide ((k : Int) = kH l f e E) with
  | true =>
   rw [hdk] at hx
   exact zh F.a ⟨false,(congrArg (fun z=>jd .NotEq z jp H1) hx.symm).trans jC,zf<|zf<|ih _ _ _ hd2 (K.trans K1) ⟨F.s,F.x,F.k,F.n,F.r,F.a,F.b,F.h⟩ q⟩
  | false =>
   rw [hdk] at hx
   exact zh F.b ⟨false,(congrArg (fun z=>jd .NotEq z brk H1) hx.symm).trans jC,zf<|zf<|ih _ _ _ hd2 (K.trans K1) ⟨F.s,F.x,F.k,F.n,F.r,F.a,F.b,F.h⟩ q⟩
end Mine
namespace Mine
open PySem
variable {n g : Nat} {L : Loc} {H H' T : Hp} {Q : PV → Hp → Prop} {QX : Fl → Loc → Hp → Prop} {v : PV} {E : En} {f : Fd} {e : Ex} {l : List Sp}
theorem zuw {m : Nat} (hk : ∀ x,f.val E = some x → zQ (exV e x) 0 l < 4) (F : LF L E l f e g) (q : Q (yG f e E fun n=>jj (zQ n 0 l)) H) :
  S2 (evE PP (m + 40) (.ite (.cmp .Is (.loc 102) .cnone) (.loc 309) (.tup [.cstr 305,.bin .Add (.cstr 306) (.call (.glob 307) [.loc 310])])) L H) Q:=by
 have a2:=F.n
 have a3:=F.h
 unfold yG at q
 unfold qu at a2
 unfold kH at a3
 cases hx : f.val E with
 | none=>rw [hx] at q a2;exact jx<|zE<|zh a2<|zc rfl ⟨true,rfl,zh F.b q⟩
 | some x =>
  rw [hx] at q a2 a3
  exact jx<|zE<|zh a2<|zc rfl ⟨false,rfl,z8<|za<|zc rfl<|za<|zjz (hk x hx)<|zh a3 ⟨rfl,zi q⟩⟩
theorem ne_goto {k j : Nat} (h : jj k = v) : jd .NotEq v (jj k) H = some false:=by subst h;exact jC
theorem zns {w : Nat → PV} (h : ∀ n,∃ a c,w n = .tup [.str a,.str c]) : jd .NotEq (yG f e E w) (yG f e E w) H = some false:=by
 unfold yG
 cases f.val E with
 | none=>exact jC
 | some x =>
  refine cp fun nq=>?_
  obtain ⟨a,c,e1⟩:=h (exV e x)
  refine nq ?_
  show jd .NotEq (w (exV e x)) (w (exV e x)) H = _
  rw [e1];exact jC
noncomputable def zhh (f : Fd) (e : Ex) (E : En) (l : List Sp) (isn : Bool) : Bool:=match f.val E with
 | none=>false
 | some x=>decide (zQ (exV e x) 0 l % 2 = 0) != isn
theorem e_met {m : Nat} {isn : Bool} (F : LF L E l f e g) (a1 : L 299 = some (.bool isn)) (q : Q (.bool (zhh f e E l isn)) H) : S2 (evE PP (m + 30) (.bool true [.cmp .IsNot (.loc 102) .cnone,.cmp .Eq (.cmp .Eq (.bin .Mod (.loc 310) (.cint 2)) (.cint 1)) (.loc 299)]) L H) Q:=by
 have a2:=F.n
 have a3:=F.h
 unfold zhh at q
 unfold qu at a2
 unfold kH at a3
 cases hx : f.val E with
 | none=>rw [hx] at q a2;exact zh5<|yL<|zh a2<|zc rfl ⟨false,rfl,false,rfl,q⟩
 | some x =>
  rw [hx] at q a2 a3
  refine zh5<|yL<|zh a2<|zc rfl ⟨true,rfl,true,rfl,yL<|yL<|zo<|zh a3<|zc rfl<|yH (by decide)<|zc rfl ⟨!decide (zQ (exV e x) 0 l % 2 = 0),?_,zh a1 ⟨decide (zQ (exV e x) 0 l % 2 = 0) != isn,?_,_,rfl,q⟩⟩⟩
  ·have e1 : ((zQ (exV e x) 0 l : Nat) : Int).fmod 2 = ((zQ (exV e x) 0 l % 2 : Nat) : Int):=yb _ 2
   rw [e1]
   rcases Nat.mod_two_eq_zero_or_one (zQ (exV e x) 0 l) with h | h <;> rw [h] <;> rfl
  ·skip
   cases decide (zQ (exV e x) 0 l % 2 = 0) <;> cases isn <;> rfl
theorem zn0 {isn : Bool} : (yG f e E fun n=>match decide (zQ n 0 l % 2 = 0) != isn with | true=>jp | false=>brk) = match zhh f e E l isn with | true=>jp | false=>brk:=by
 unfold yG zhh
 cases f.val E with
 | none=>rfl
 | some x=>rfl
theorem zek {m sb : Nat} {e2 : List El} {sets : List (Nat × PV)} {isn : Bool} (hf : FdOk f) (he : ExOk f e) (hg : g ≤ 12) (hc : Cut l (zG f e)) (hE : EnvH H E) (hB : E.B ≤ H.length) (hd : H[E.fl]? = some (.dict [(271,f.pv)])) (d1 : H[E.sd]? = some (.dict sets)) (d2 : dictGet 304 sets = some (.loc (sb + 1))) (hs : StAt H sb e2) (h2 : e2.map ky = evs 0 l) (F : LF L E l f e g) (a1 : L 299 = some (.bool isn))
  (q : ∀ L' H',Keeps H H' → (∀ x,x ≠ 224 → L' x = L x) → QX .next L' H') :
  SX (execs PP (m + 330) [.assign (.name 224) (.bool true [.cmp .IsNot (.loc 102) .cnone,.cmp .Eq (.cmp .Eq (.bin .Mod (.loc 310) (.cint 2)) (.cint 1)) (.loc 299)]),.ifs (.cmp .NotEq (.call (.glob 298) [.loc 206,.loc 54,.loc 104,.cstr 304,.loc 299]) (.ite (.loc 224) (.loc 264) (.loc 309))) [.ret (.cbool false)] []] L H) QX:=by
 have ha : Asc e2:=zqc (by rw [h2];exact zrz hc.asc)
 refine zj<|e_met F a1<|zu<|zE<|ze rfl<|za<|zh F.s<|za<|zh F.x<|za<|zh F.r<|za<|zc rfl<|za<|zh a1<|zi<|zeb _ hf he hg hE hB hd d1 d2 hs ha (t:=fun n=>decide (zQ n 0 l % 2 = 0)) (fun n hn=>zks hc h2 hn) fun H1 K1=>?_
 have hx:=zn0 (l:=l) (f:=f) (e:=e) (E:=E) (isn:=isn)
 have fin : ∀ x,x ≠ 224 → z5 L 224 (.bool (zhh f e E l isn)) x = L x:=fun x hx=>if_neg hx
 refine jx<|c_e rfl<|zh (v:=.bool (zhh f e E l isn)) rfl ⟨_,rfl,?_⟩
 cases hm : zhh f e E l isn with
 | true =>
  rw [hm] at hx
  exact zh F.a ⟨false,(congrArg (fun z=>jd .NotEq z jp H1) hx).trans jC,zf<|zf<|q _ _ K1 fun x hx=>if_neg hx⟩
 | false =>
  rw [hm] at hx
  exact zh F.b ⟨false,(congrArg (fun z=>jd .NotEq z brk H1) hx).trans jC,zf<|zf<|q _ _ K1 fun x hx=>if_neg hx⟩
theorem LF.of {L' : Loc} (F : LF L E l f e g) (h : ∀ x,x ≠ 224 → L' x = L x) : LF L' E l f e g :=
 ⟨by rw [h _ (by decide)];exact F.s,by rw [h _ (by decide)];exact F.x,by rw [h _ (by decide)];exact F.k,by rw [h _ (by decide)];exact F.n,by rw [h _ (by decide)];exact F.r,by rw [h _ (by decide)];exact F.a,by rw [h _ (by decide)];exact F.b,by rw [h _ (by decide)];exact F.h⟩
theorem LF.set {x : Nat} {v : PV} (F : LF L E l f e g) (h : x = 299) : LF (z5 L x v) E l f e g:=by subst h;exact ⟨F.s,F.x,F.k,F.n,F.r,F.a,F.b,F.h⟩
theorem LF.sd {d : Nat} (F : LF L E l f e g) : LF L (E.withSd d) l f e g :=
 ⟨F.s,F.x,F.k,by have:=F.n;unfold qu at *;rw [zgf];exact this,F.r,F.a,F.b,by have:=F.h;unfold kH at *;rw [zgf];exact this⟩
theorem zg2 (m : Nat) (hf : FdOk f) (he : ExOk f e) (hg : g ≤ 12) (hc : Cut l (zG f e)) (hE : EnvH H E) (hB : E.B ≤ H.length) (hd : H[E.fl]? = some (.dict [(271,f.pv)])) (q : ∀ H',(∀ i ob,i < H.length → i ≠ E.sn → H[i]? = some ob → H'[i]? = some ob) → Q (.bool true) H') :
  S2 (zs PP (m + 400) (.fn 776) [.loc E.s,e.pv,spL l,qu f e E,.int g] H) Q:=by
 have hn : ∀ x,f.val E = some x → exV e x < 2 ^ zG f e:=fun x hx=>vP hf he (qy hE.ok hx)
 have hh : ∀ x,f.val E = some x → ∃ s ∈ l,jU (exV e x) s = true:=fun x hx=>by
  refine cp fun nq=>?_
  obtain ⟨s,h1,h2⟩:=hc.all _ (hn x hx)
  refine nq ?_
  exact ⟨s,h1,decide_eq_true h2⟩
 have h4 : ∀ x,f.val E = some x → zQ (exV e x) 0 l < 4:=fun x hx=>by
  obtain ⟨t,h1,_⟩:=vo hc (hn x hx)
  have:=(List.getElem?_eq_some_iff.mp h1).1
  have:=hc.len
  lia
 refine zD rfl rfl<|jA<|zc rfl ⟨_,_,rfl,zj<|zuv hc.len hh rfl rfl<|jN<|za<|zc rfl<|za<|zc rfl<|zi ⟨jF 0 (l.map yi),rfl,?_⟩⟩
 refine zrp (m + 63) hf he hc H hE hB hd l 0 _ H rfl (fun uu uu uu h=>h) ⟨rfl,rfl,rfl,rfl,rfl,rfl,rfl,rfl⟩ fun L1 H1 K1 F1=>?_
 have hE1 : EnvH H1 E:=hE.keep fun i ob h1 h2=>K1 i ob (by exact Nat.lt_of_lt_of_le h1 hB) h2
 obtain ⟨es,n0,n2⟩:=hE1.n
 refine vC (i:=E.s) (C:=427) (d:=E.sn) (es:=es)<|ze rfl<|za<|zh F1.k<|zi<|zmy _ hc.len hc.asc fun H2 d w e1 e2 K2 hd2 st1 st2 m1 m2 hw b1 b2=>?_
 have K12:=K1.trans K2
 have hE2 : EnvH H2 E:=hE.keep fun i ob h1 h2=>K12 i ob (by exact Nat.lt_of_lt_of_le h1 hB) h2
 have n1:=K2 _ _ (List.getElem?_eq_some_iff.mp n0).1 n0
 refine ⟨F1.s,hE2.i,n1,rfl,by have:=n2.2.2.2.2.2.2;exact zu4 this rfl,?_⟩
 have hE3:=hE2.setSd (d:=d) n1
 have hne : ∀ {j : Nat} {ob : MObj},H2[j]? = some ob → jv ob ≠ 2 → E.sn ≠ j:=fun {j ob} h hk he=>by
  subst he;rw [n1] at h;cases h;exact hk rfl
 have hsn:=hE.lt.2.1
 have l2:=K12.len
 have hd3 : (H2.set E.sn (.ns (dictSet 95 (.loc d) es)))[E.fl]? = some (.dict [(271,f.pv)]):=by
  have:=K12 _ _ (List.getElem?_eq_some_iff.mp hd).1 hd
  exact yg this (hne this (by show (1 : Nat) ≠ 2;decide))
 have hd4 : (H2.set E.sn (.ns (dictSet 95 (.loc d) es)))[d]? = some (.dict [(300,.loc (w + 1)),(304,.loc (w + 4))]):=yg hd2 (hne hd2 (by show (1 : Nat) ≠ 2;decide))
 have l1:=K1.len
 have kS : ∀ i ob,i ≠ E.sn → H2[i]? = some ob → (H2.set E.sn (.ns (dictSet 95 (.loc d) es)))[i]? = some ob:=fun i ob h1 h2=>yg h2 h1.symm
 have st1':=st1.other (j:=E.sn) ⟨by lia,by lia,by lia⟩ (fun x hx=>⟨by have:=b1 x hx;lia,by have:=b1 x hx;lia⟩) kS
 have st2':=st2.other (j:=E.sn) ⟨by lia,by lia,by lia⟩ (fun x hx=>⟨by have:=b2 x hx;lia,by have:=b2 x hx;lia⟩) kS
 have hB3 : (E.withSd d).B ≤ (H2.set E.sn (.ns (dictSet 95 (.loc d) es))).length:=by rw [List.length_set];show E.B ≤ _;exact Nat.le_trans hB K12.len
 have ha1 : Asc e1:=zqc (by
  have : e1.map ky = l:=by
   have h:=congrArg (List.map Prod.fst) m1
   rw [wD,List.map_map] at h
   exact h
  rw [this];exact hc.asc)
 have base : ∀ i ob,i < H.length → i ≠ E.sn → H[i]? = some ob → (H2.set E.sn (.ns (dictSet 95 (.loc d) es)))[i]? = some ob:=fun i ob h1 h2 h3=>kS i ob h2 (K12 i ob h1 h3)
 generalize H2.set E.sn (.ns (dictSet 95 (.loc d) es)) = H3 at *
 have keepE : ∀ {H4},Keeps H3 H4 → EnvH H4 (E.withSd d):=fun k=>hE3.keep fun i ob h1 h2=>k i ob (by exact Nat.lt_of_lt_of_le h1 hB3) h2
 have keepG : ∀ {H4 : Hp} {i : Nat} {ob : MObj},Keeps H3 H4 → H3[i]? = some ob → H4[i]? = some ob:=fun k h=>k _ _ (List.getElem?_eq_some_iff.mp h).1 h
 refine zu<|zE<|ze rfl<|za<|zh F1.s<|za<|zh F1.x<|za<|zh F1.r<|za<|zc rfl<|za<|zc rfl<|zi<|zb1 (E:=E.withSd d) _ hf he hg hE3 hB3 hd3 hd4 rfl st1' ha1 (v:=fun n=>jj (zQ n 0 l)) (fun n hn=>zmg hc m1 hn) fun H4 K4=>?_
 rw [zpw]
 refine zuw h4 F1 ⟨false,zns fun n=>⟨_,_,rfl⟩,zf<|jN<|zn rfl ⟨_,rfl,zV rfl ?_⟩⟩
 refine zek (m:=m + 60) (E:=E.withSd d) hf he hg hc (keepE K4) (by have:=K4.len;exact Nat.le_trans hB3 K4.len) (keepG K4 hd3) (keepG K4 hd4) rfl (st2'.keep K4) m2 (F1.set rfl).sd rfl fun L5 H5 K5 g5=>?_
 have K45:=K4.trans K5
 refine zV rfl<|zek (m:=m + 60) (E:=E.withSd d) hf he hg hc (keepE K45) (by have:=K45.len;exact Nat.le_trans hB3 K45.len) (keepG K45 hd3) (keepG K45 hd4) rfl (st2'.keep K45) m2 (((F1.set rfl).of g5).set rfl).sd rfl fun L6 H6 K6 g6=>jw<|zt<|zc rfl<|q _ fun i ob h1 h2 h3=>keepG (K45.trans K6) (base i ob h1 h2 h3)
end Mine
namespace Mine
open PySem
variable {n : Nat} {L : Loc} {H H' T : Hp} {Q : PV → Hp → Prop} {QX : Fl → Loc → Hp → Prop} {v : PV} {a : ME} {ss : List MS} {es : List (Nat × PV)}
theorem zS {x m C : Nat} {R : Hp} (h : S2 (evE PP (n + 2) a L (H ++ (.ns es :: .inst C H.length :: R))) fun v H1=>∃ R1,H1 = H ++ (.ns es :: .inst C H.length :: R1) ∧ L x = some (.loc (H.length + 1)) ∧ xZ PP C m = true ∧ es.length < 1000 ∧ SX (execs PP (n + 3) ss L (H ++ (.ns (dictSet m v es) :: .inst C H.length :: R1))) QX) :
  SX (execs PP (n + 4) (.assign (.attr (.loc x) m) a :: ss) L (H ++ (.ns es :: .inst C H.length :: R))) QX:=by
 refine vC (i:=H.length + 1) (C:=C) (d:=H.length + 0) (es:=es) (h.mono fun v H1 ⟨R1,e1,h1,h4,h5,h6⟩=>?_)
 subst e1
 refine ⟨h1,zY (k:=1) rfl,zY (k:=0) rfl,h4,h5,?_⟩
 rw [zgu (k:=0)];exact h6
theorem hconv {v : PV} {n1 n2 : List (Nat × PV)} {C b : Nat} {d1 d2 : Hp} (q : Q v (H ++ (.ns n1 :: .inst C b :: d1))) (h1 : n1 = n2) (h2 : d1 = d2) : Q v (H ++ (.ns n2 :: .inst C b :: d2)):=by subst h1;subst h2;exact q
theorem zpd {x : Nat} {b : List UInt8} (hL : L x = some (.bytes b)) (hb : b.length ≤ 1000) (q : Q (.loc (H.length + T.length)) (H ++ (T ++ [.barr b]))) : S2 (evE PP (n + 6) (.call (.glob 167) [.loc x]) L (H ++ T)) Q:=by
 refine ze rfl<|za<|zh hL<|zi<|kx (r:=.loc (H ++ T).length) (H1:=(H ++ T) ++ [.barr b]) ?_ ?_
 ·exact zr (zA hb)
 ·rw [List.length_append,List.append_assoc];exact q
theorem jX {x k : Nat} {ke : ME} {m : Nat} (hL : L x = some (.loc H.length)) (hk : evE PP (m + 2) ke L (H ++ [.dict es]) = some (.str k,H ++ [.dict es])) (hv : evE PP (m + 3) a L (H ++ [.dict es]) = some (v,H ++ [.dict es])) (hl : es.length < 1000) (q : SX (execs PP (m + 4) ss L (H ++ [.dict (dictSet k v es)])) QX) :
  SX (execs PP (m + 5) (.assign (.sub (.loc x) ke) a :: ss) L (H ++ [.dict es])) QX:=by
 refine wN (zc hv<|zh hL<|zc hk ⟨_,?_,q⟩)
 have g : (H ++ [MObj.dict es])[H.length]? = some (.dict es):=zY (k:=0) rfl
 exact (zr g).trans ((zr (zA hl)).trans (congrArg some (zgu (k:=0))))
noncomputable def zjl : List (Nat × PV):=[(155,.int 0),(156,.int 0),(157,.int 0),(158,.int 0),(159,.int 0),(160,.int 0),(161,.int 0),(162,.int 1),(163,.int 1)]
theorem zq2 (m : Nat) (q : Q (.loc H.length) (H ++ [.dict zjl])) : S2 (zs PP (m + 40) (.fn 367) [] H) Q :=
 zD rfl rfl<|zj<|zc rfl<|jN<|zn rfl ⟨_,rfl,zV rfl<|jX (m:=m + 29) rfl rfl rfl (Nat.le_of_ble_eq_true rfl)<|zf<|zV rfl<|jX (m:=m + 29) rfl rfl rfl (Nat.le_of_ble_eq_true rfl)<|zf<|zV rfl<|jX (m:=m + 29) rfl rfl rfl (Nat.le_of_ble_eq_true rfl)<|zf<|zV rfl<|jX (m:=m + 29) rfl rfl rfl (Nat.le_of_ble_eq_true rfl)<|zf<|zV rfl<|jX (m:=m + 29) rfl rfl rfl (Nat.le_of_ble_eq_true rfl)<|zf<|zV rfl<|jX (m:=m + 29) rfl rfl rfl (Nat.le_of_ble_eq_true rfl)<|zf<|zV rfl<|jX (m:=m + 29) rfl rfl rfl (Nat.le_of_ble_eq_true rfl)<|zf<|jw<|jX (m:=m + 30) rfl rfl rfl (Nat.le_of_ble_eq_true rfl)<|jX (m:=m + 29) rfl rfl rfl (Nat.le_of_ble_eq_true rfl)<|zt<|zc rfl q⟩
theorem zr5 (q : Q (.loc (H.length + T.length)) (H ++ (T ++ [.dict zjl]))) : S2 (evE PP (n + 41) (.call (.glob 153) []) L (H ++ T)) Q:=by
 refine ze rfl<|zi<|zq2 _ ?_
 rw [List.length_append,List.append_assoc];exact q
noncomputable def zs4 (b : Nat) : List (Nat × PV):=[(165,.loc (b + 2)),(166,.loc (b + 3)),(108,.int 2048),(168,.int (-1)),(169,.int (-1)),(80,.int 0),(111,.loc (b + 4))]
noncomputable def vL (b : Nat) (d : List UInt8) (me : List (Nat × PV)) : Hp:=[.ns (zs4 b),.inst 384 b,.barr d,.barr [],.dict me]
theorem zm2 (m : Nat) (d : List UInt8) (hd : d.length ≤ 1000) (q : Q (.loc (H.length + 1)) (H ++ vL H.length d zjl)) : S2 (zs PP (m + 80) (.fn 384) [.bytes d,.int 2048,.bytes []] H) Q:=by
 refine zaz rfl rfl<|zD rfl rfl<|zS<|zpd rfl hd ⟨_,rfl,rfl,rfl,Nat.le_of_ble_eq_true rfl,zS<|zpd rfl (by decide) ⟨_,rfl,rfl,rfl,Nat.le_of_ble_eq_true rfl,zS<|zc rfl ⟨_,rfl,rfl,rfl,Nat.le_of_ble_eq_true rfl,zS<|zc rfl ⟨_,rfl,rfl,rfl,Nat.le_of_ble_eq_true rfl,zS<|zc rfl ⟨_,rfl,rfl,rfl,Nat.le_of_ble_eq_true rfl,zS<|zc rfl ⟨_,rfl,rfl,rfl,Nat.le_of_ble_eq_true rfl,zS<|zr5 ⟨_,rfl,rfl,rfl,Nat.le_of_ble_eq_true rfl,zf ⟨rfl,?_⟩⟩⟩⟩⟩⟩⟩⟩
 exact hconv q rfl rfl
noncomputable def scNs (b p fl : Nat) (ho : Nat) (od : Nat) : List (Nat × PV):=[(171,.loc p),(181,.int 0),(182,.str 183),(184,.none),(185,.int 1),(186,.int 0),(187,.none),(95,.loc (b + 2)),(188,.loc (b + 3)),(51,.loc fl),(189,.loc (b + 4)),(190,.loc (b + 5)),(191,.loc od),(192,.loc (b + 7)),(69,.str ho),(193,.loc (b + 8)),(194,.loc (b + 9)),(195,.none),(196,.loc (b + 10))]
noncomputable def scT (b p fl : Nat) (ho od : Nat) : Hp:=[.ns (scNs b p fl ho od),.inst 427 b,.dict [],.dict [],.dict [],.dict [],.dict [],.dict [],.list [],.list [],.dict []]
theorem yI {k : Nat} {n1 n2 : List (Nat × PV)} {C b : Nat} {d1 d2 : Hp} (q : SX (execs PP k ss L (H ++ (.ns n1 :: .inst C b :: d1))) QX) (h1 : n1 = n2) (h2 : d1 = d2) : SX (execs PP k ss L (H ++ (.ns n2 :: .inst C b :: d2))) QX:=by subst h1;subst h2;exact q
theorem zq0 (m p fl : Nat) (q : Q (.loc (H.length + 1)) (H ++ scT H.length p fl 87 (H.length + 6))) : S2 (zs PP (m + 80) (.fn 427) [.loc p,.loc fl] H) Q:=by
 refine zaz rfl rfl<|zD rfl rfl ?_
 refine zS<|zc rfl ⟨_,rfl,rfl,rfl,Nat.le_of_ble_eq_true rfl,?_⟩
 refine yI (n1:=[(171,.loc p)]) (d1:=[]) ?_ rfl rfl
 refine zS<|zc rfl ⟨_,rfl,rfl,rfl,Nat.le_of_ble_eq_true rfl,?_⟩
 refine yI (n1:=[(171,.loc p),(181,.int 0)]) (d1:=[]) ?_ rfl rfl
 refine zS<|zc rfl ⟨_,rfl,rfl,rfl,Nat.le_of_ble_eq_true rfl,?_⟩
 refine yI (n1:=[(171,.loc p),(181,.int 0),(182,.str 183)]) (d1:=[]) ?_ rfl rfl
 refine zS<|zc rfl ⟨_,rfl,rfl,rfl,Nat.le_of_ble_eq_true rfl,?_⟩
 refine yI (n1:=[(171,.loc p),(181,.int 0),(182,.str 183),(184,.none)]) (d1:=[]) ?_ rfl rfl
 refine zS<|zc rfl ⟨_,rfl,rfl,rfl,Nat.le_of_ble_eq_true rfl,?_⟩
 refine yI (n1:=[(171,.loc p),(181,.int 0),(182,.str 183),(184,.none),(185,.int 1)]) (d1:=[]) ?_ rfl rfl
 refine zS<|zc rfl ⟨_,rfl,rfl,rfl,Nat.le_of_ble_eq_true rfl,?_⟩
 refine yI (n1:=[(171,.loc p),(181,.int 0),(182,.str 183),(184,.none),(185,.int 1),(186,.int 0)]) (d1:=[]) ?_ rfl rfl
 refine zS<|zc rfl ⟨_,rfl,rfl,rfl,Nat.le_of_ble_eq_true rfl,?_⟩
 refine yI (n1:=[(171,.loc p),(181,.int 0),(182,.str 183),(184,.none),(185,.int 1),(186,.int 0),(187,.none)]) (d1:=[]) ?_ rfl rfl
 refine zS<|jg ⟨_,rfl,rfl,rfl,Nat.le_of_ble_eq_true rfl,?_⟩
 refine yI (n1:=[(171,.loc p),(181,.int 0),(182,.str 183),(184,.none),(185,.int 1),(186,.int 0),(187,.none),(95,.loc (H.length + 2))]) (d1:=[.dict []]) ?_ rfl rfl
 refine zS<|jg ⟨_,rfl,rfl,rfl,Nat.le_of_ble_eq_true rfl,?_⟩
 refine yI (n1:=[(171,.loc p),(181,.int 0),(182,.str 183),(184,.none),(185,.int 1),(186,.int 0),(187,.none),(95,.loc (H.length + 2)),(188,.loc (H.length + 3))]) (d1:=[.dict [],.dict []]) ?_ rfl rfl
 refine zS<|zc rfl ⟨_,rfl,rfl,rfl,Nat.le_of_ble_eq_true rfl,?_⟩
 refine yI (n1:=[(171,.loc p),(181,.int 0),(182,.str 183),(184,.none),(185,.int 1),(186,.int 0),(187,.none),(95,.loc (H.length + 2)),(188,.loc (H.length + 3)),(51,.loc fl)]) (d1:=[.dict [],.dict []]) ?_ rfl rfl
 refine zS<|jg ⟨_,rfl,rfl,rfl,Nat.le_of_ble_eq_true rfl,?_⟩
 refine yI (n1:=[(171,.loc p),(181,.int 0),(182,.str 183),(184,.none),(185,.int 1),(186,.int 0),(187,.none),(95,.loc (H.length + 2)),(188,.loc (H.length + 3)),(51,.loc fl),(189,.loc (H.length + 4))]) (d1:=[.dict [],.dict [],.dict []]) ?_ rfl rfl
 refine zS<|jg ⟨_,rfl,rfl,rfl,Nat.le_of_ble_eq_true rfl,?_⟩
 refine yI (n1:=[(171,.loc p),(181,.int 0),(182,.str 183),(184,.none),(185,.int 1),(186,.int 0),(187,.none),(95,.loc (H.length + 2)),(188,.loc (H.length + 3)),(51,.loc fl),(189,.loc (H.length + 4)),(190,.loc (H.length + 5))]) (d1:=[.dict [],.dict [],.dict [],.dict []]) ?_ rfl rfl
 refine zS<|jg ⟨_,rfl,rfl,rfl,Nat.le_of_ble_eq_true rfl,?_⟩
 refine yI (n1:=[(171,.loc p),(181,.int 0),(182,.str 183),(184,.none),(185,.int 1),(186,.int 0),(187,.none),(95,.loc (H.length + 2)),(188,.loc (H.length + 3)),(51,.loc fl),(189,.loc (H.length + 4)),(190,.loc (H.length + 5)),(191,.loc (H.length + 6))]) (d1:=[.dict [],.dict [],.dict [],.dict [],.dict []]) ?_ rfl rfl
 refine zS<|jg ⟨_,rfl,rfl,rfl,Nat.le_of_ble_eq_true rfl,?_⟩
 refine yI (n1:=[(171,.loc p),(181,.int 0),(182,.str 183),(184,.none),(185,.int 1),(186,.int 0),(187,.none),(95,.loc (H.length + 2)),(188,.loc (H.length + 3)),(51,.loc fl),(189,.loc (H.length + 4)),(190,.loc (H.length + 5)),(191,.loc (H.length + 6)),(192,.loc (H.length + 7))]) (d1:=[.dict [],.dict [],.dict [],.dict [],.dict [],.dict []]) ?_ rfl rfl
 refine zS<|zc rfl ⟨_,rfl,rfl,rfl,Nat.le_of_ble_eq_true rfl,?_⟩
 refine yI (n1:=[(171,.loc p),(181,.int 0),(182,.str 183),(184,.none),(185,.int 1),(186,.int 0),(187,.none),(95,.loc (H.length + 2)),(188,.loc (H.length + 3)),(51,.loc fl),(189,.loc (H.length + 4)),(190,.loc (H.length + 5)),(191,.loc (H.length + 6)),(192,.loc (H.length + 7)),(69,.str 87)]) (d1:=[.dict [],.dict [],.dict [],.dict [],.dict [],.dict []]) ?_ rfl rfl
 refine zS<|zcv ⟨_,rfl,rfl,rfl,Nat.le_of_ble_eq_true rfl,?_⟩
 refine yI (n1:=[(171,.loc p),(181,.int 0),(182,.str 183),(184,.none),(185,.int 1),(186,.int 0),(187,.none),(95,.loc (H.length + 2)),(188,.loc (H.length + 3)),(51,.loc fl),(189,.loc (H.length + 4)),(190,.loc (H.length + 5)),(191,.loc (H.length + 6)),(192,.loc (H.length + 7)),(69,.str 87),(193,.loc (H.length + 8))]) (d1:=[.dict [],.dict [],.dict [],.dict [],.dict [],.dict [],.list []]) ?_ rfl rfl
 refine zS<|zcv ⟨_,rfl,rfl,rfl,Nat.le_of_ble_eq_true rfl,?_⟩
 refine yI (n1:=[(171,.loc p),(181,.int 0),(182,.str 183),(184,.none),(185,.int 1),(186,.int 0),(187,.none),(95,.loc (H.length + 2)),(188,.loc (H.length + 3)),(51,.loc fl),(189,.loc (H.length + 4)),(190,.loc (H.length + 5)),(191,.loc (H.length + 6)),(192,.loc (H.length + 7)),(69,.str 87),(193,.loc (H.length + 8)),(194,.loc (H.length + 9))]) (d1:=[.dict [],.dict [],.dict [],.dict [],.dict [],.dict [],.list [],.list []]) ?_ rfl rfl
 refine zS<|zc rfl ⟨_,rfl,rfl,rfl,Nat.le_of_ble_eq_true rfl,?_⟩
 refine yI (n1:=[(171,.loc p),(181,.int 0),(182,.str 183),(184,.none),(185,.int 1),(186,.int 0),(187,.none),(95,.loc (H.length + 2)),(188,.loc (H.length + 3)),(51,.loc fl),(189,.loc (H.length + 4)),(190,.loc (H.length + 5)),(191,.loc (H.length + 6)),(192,.loc (H.length + 7)),(69,.str 87),(193,.loc (H.length + 8)),(194,.loc (H.length + 9)),(195,.none)]) (d1:=[.dict [],.dict [],.dict [],.dict [],.dict [],.dict [],.list [],.list []]) ?_ rfl rfl
 refine zS<|jg ⟨_,rfl,rfl,rfl,Nat.le_of_ble_eq_true rfl,?_⟩
 refine yI (n1:=[(171,.loc p),(181,.int 0),(182,.str 183),(184,.none),(185,.int 1),(186,.int 0),(187,.none),(95,.loc (H.length + 2)),(188,.loc (H.length + 3)),(51,.loc fl),(189,.loc (H.length + 4)),(190,.loc (H.length + 5)),(191,.loc (H.length + 6)),(192,.loc (H.length + 7)),(69,.str 87),(193,.loc (H.length + 8)),(194,.loc (H.length + 9)),(195,.none),(196,.loc (H.length + 10))]) (d1:=[.dict [],.dict [],.dict [],.dict [],.dict [],.dict [],.list [],.list [],.dict []]) ?_ rfl rfl
 exact zf ⟨rfl,q⟩
end Mine
namespace Mine
open PySem
variable {n : Nat} {L : Loc} {H H' T : Hp} {Q : PV → Hp → Prop} {QX : Fl → Loc → Hp → Prop} {v : PV} {a : ME} {ss : List MS} {es : List (Nat × PV)}
theorem zaf {o i1 i2 e : ME} (h : S2 (evE PP (n + 4) e L H) fun v H1=>∃ v1 v2,v = .tup [v1,v2] ∧ S2 (evE PP (n + 1) o L H1) fun ov H2=>S2 (evE PP (n + 1) i1 L H2) fun iv H3=>∃ H4,wU ov iv v1 H3 = some H4 ∧ S2 (evE PP n o L H4) fun ov H5=>S2 (evE PP n i2 L H5) fun iv H6=>∃ H7,wU ov iv v2 H6 = some H7 ∧ SX (execs PP (n + 5) ss L H7) QX) :
  SX (execs PP (n + 6) (.assign (.tup [.sub o i1,.sub o i2]) e :: ss) L H) QX:=by
 refine jA (h.mono fun v H1 k=>?_)
 obtain ⟨v1,v2,rfl,k⟩:=k
 exact a_tup (QA:=fun L1 H1=>SX (execs PP (n + 5) ss L1 H1) QX) (zqh (zqg (k.mono fun uu uu k=>k.mono fun _ _ ⟨H4,h4,k⟩=>⟨H4,h4,zqh (zqg (k.mono fun uu uu k=>k.mono fun _ _ ⟨H7,h7,k⟩=>⟨H7,h7,a_nil k⟩))⟩)))
noncomputable def qp (d : List UInt8) : PV:=.lst (d.map fun x=>.int x.toNat)
theorem zie (d : List UInt8) : xI (d.map fun x=>.int x.toNat) = some d:=by
 rw [qm UInt8.toNat d fun x uu=>UInt8.toNat_lt x]
 congr 1
 have : (fun x : UInt8=>UInt8.ofNat x.toNat) = id:=funext fun x=>UInt8.ofNat_toNat
 rw [this,List.map_id]
structure Facts (H : Hp) (fa : Nat) (d : List UInt8) (mark iif : Nat) : Prop where
 f : H[fa]? = some (.dict [(75,qp d),(155,.int mark),(162,.int iif)])
 dl : d.length = 12
 ml : mark < 2 ^ 32
 il : iif < 2 ^ 16
theorem zec (m : Nat) {fl fa ho mark iif : Nat} {d : List UInt8} (hho : Ho ho) (F : Facts H fa d mark iif) (q : ∀ H' E,Keeps H H' → EnvH H' E → E.B ≤ H'.length → E.fl = fl → E.ho = ho → E.mark = mark → E.iif = iif → E.data = d → H.length ≤ E.sn → Q (.loc E.s) H') :
  S2 (zs PP (m + 140) (.fn 750) [.loc fl,.loc fa,.str ho] H) Q:=by
 have hdl:=F.dl
 refine zD rfl rfl<|zj<|ze rfl<|za<|ze rfl<|za<|zZ<|zc rfl<|zc rfl ⟨qp d,yA F.f rfl,zi<|kx (r:=.bytes d) (H1:=H) ?_<|zn rfl<|zm2 _ d (by exact hdl.symm ▸ Nat.le_of_ble_eq_true rfl) ?_⟩
 ·exact zr ((zr (zie d)).trans (zA (by exact hdl.symm ▸ Nat.le_of_ble_eq_true rfl)))
 ·have g0 : ∀ {me : List (Nat × PV)},(H ++ vL H.length d me)[H.length + 1]? = some (.inst 384 H.length):=zY (k:=1) rfl
  have g1 : ∀ {me : List (Nat × PV)},(H ++ vL H.length d me)[H.length + 0]? = some (.ns (zs4 H.length)):=zY (k:=0) rfl
  have g4 : ∀ {me : List (Nat × PV)},(H ++ vL H.length d me)[H.length + 4]? = some (.dict me):=zY (k:=4) rfl
  have gs : ∀ {me me2 : List (Nat × PV)},(H ++ vL H.length d me).set (H.length + 4) (.dict me2) = H ++ vL H.length d me2:=zgu (k:=4)
  have st : ∀ {k : Nat} {v : PV} {me : List (Nat × PV)},me.length < 1000 → wU (.loc (H.length + 4)) (.str k) v (H ++ vL H.length d me) = some (H ++ vL H.length d (dictSet k v me)):=fun {k v me} h=>by
   exact (zr g4).trans ((zr (zA h)).trans (congrArg some gs))
  refine zaf<|z8<|za<|zZ<|zc rfl<|zc rfl ⟨.int mark,yA (yl F.f) rfl,za<|zZ<|zc rfl<|zc rfl ⟨.int iif,yA (yl F.f) rfl,zi ⟨_,_,rfl,yh rfl g0 g1 rfl rfl<|zc rfl ⟨_,st (by decide),yh rfl g0 g1 rfl rfl<|zc rfl ⟨_,st (Nat.le_of_ble_eq_true rfl),?_⟩⟩⟩⟩⟩
  generalize hme : dictSet 162 (.int iif) (dictSet 155 (.int mark) zjl) = me
  have m1 : dictGet 155 me = some (.int mark):=by rw [← hme];rfl
  have m2 : dictGet 162 me = some (.int iif):=by rw [← hme];rfl
  have g2 : (H ++ vL H.length d me)[H.length + 2]? = some (.barr d):=zY (k:=2) rfl
  have g0':=g0 (me:=me)
  have g1':=g1 (me:=me)
  have g4':=g4 (me:=me)
  clear g0 g1 g4 gs st
  have hl5 : (H ++ vL H.length d me).length = H.length + 5:=by rw [List.length_append];rfl
  have K1 : Keeps H (H ++ vL H.length d me):=ye
  have q1 : ∀ H' E,Keeps (H ++ vL H.length d me) H' → EnvH H' E → E.B ≤ H'.length → E.fl = fl → E.ho = ho → E.mark = mark → E.iif = iif → E.data = d → H.length ≤ E.sn → Q (.loc E.s) H':=fun H' E k=>q H' E (K1.trans k)
  generalize H ++ vL H.length d me = H1 at *
  refine zj<|ze rfl<|zn rfl<|zq0 _ _ _ ?_
  have l11 : (H1 ++ scT H1.length (H.length + 1) fl 87 (H1.length + 6)).length = H1.length + 11:=by rw [List.length_append];rfl
  refine vC (i:=H1.length + 1) (C:=427) (d:=H1.length + 0) (es:=scNs H1.length (H.length + 1) fl 87 (H1.length + 6))<|zc rfl ⟨rfl,zY (k:=1) rfl,zY (k:=0) rfl,rfl,Nat.le_of_ble_eq_true rfl,?_⟩
  rw [zgu (k:=0)]
  change SX (execs PP _ _ _ (H1 ++ scT H1.length (H.length + 1) fl ho (H1.length + 6))) _
  refine vC (i:=H1.length + 1) (C:=427) (d:=H1.length + 0) (es:=scNs H1.length (H.length + 1) fl ho (H1.length + 6)) ⟨.loc (H1 ++ scT H1.length (H.length + 1) fl ho (H1.length + 6)).length,(H1 ++ scT H1.length (H.length + 1) fl ho (H1.length + 6)) ++ [MObj.dict zne],rfl,rfl,yl (zY (k:=1) rfl),yl (zY (k:=0) rfl),rfl,Nat.le_of_ble_eq_true rfl,?_⟩
  have e2 : (H1 ++ scT H1.length (H.length + 1) fl ho (H1.length + 6)).length = H1.length + 11:=by rw [List.length_append];rfl
  rw [e2,List.append_assoc,zgu (k:=0)]
  change SX (execs PP _ _ _ (H1 ++ (scT H1.length (H.length + 1) fl ho (H1.length + 11) ++ [MObj.dict zne]))) _
  have hl : (H1 ++ (scT H1.length (H.length + 1) fl ho (H1.length + 11) ++ [MObj.dict zne])).length = H1.length + 12:=by rw [List.length_append];rfl
  refine zt<|zc rfl<|q1 _ ⟨H1.length + 1,H1.length,H1.length + 11,H1.length + 2,H.length + 1,H.length,H.length + 2,H.length + 4,fl,ho,mark,iif,d,H1.length + 12⟩ ye ?_ (by rw [hl];exact Nat.le_refl _) rfl rfl rfl rfl rfl (by show H.length ≤ H1.length;exact K1.len)
  exact ⟨zY (k:=1) rfl,⟨_,zY (k:=0) rfl,rfl,rfl,rfl,rfl,rfl,rfl,Nat.le_of_ble_eq_true rfl⟩,zY (k:=11) rfl,yl g0',⟨_,yl g1',rfl,rfl⟩,yl g2,⟨_,yl g4',m1,m2⟩,hho,by show mark < 256 ^ 4;rw [jP];exact F.ml,by show iif < 256 ^ 2;rw [jP];exact F.il,hdl,by show H1.length + 1 < H1.length + 12 ∧ H1.length < H1.length + 12 ∧ H1.length + 11 < H1.length + 12 ∧ H.length + 1 < H1.length + 12 ∧ H.length < H1.length + 12 ∧ H.length + 2 < H1.length + 12 ∧ H.length + 4 < H1.length + 12;lia,by show H.length ≠ H1.length;lia⟩
end Mine
namespace Mine
open PySem
variable {n : Nat} {L : Loc} {H H' T : Hp} {Q : PV → Hp → Prop} {QX : Fl → Loc → Hp → Prop} {v : PV} {a : ME} {ss : List MS} {es : List (Nat × PV)} {pe : Nat}
noncomputable def nPV (x : Nat) : PV:=.int x
noncomputable def Pen (H : Hp) (pe : Nat) : Prop:=∃ (a : Nat) (tl : List Nat),H[pe]? = some (.list ((a :: tl).map nPV)) ∧ tl.length ≤ 100
noncomputable def PK (pe : Nat) (H H' : Hp) : Prop:=∀ i ob,i ≠ pe → H[i]? = some ob → H'[i]? = some ob
theorem PK.refl : PK pe H H:=fun uu uu uu h=>h
theorem PK.trans {H1 H2 H3 : Hp} (h : PK pe H1 H2) (k : PK pe H2 H3) : PK pe H1 H3:=fun i ob a e=>k i ob a (h i ob a e)
theorem zg5 (m many : Nat) (h1 : 1 ≤ many) (h2 : many < 2 ^ 1000) (hp : Pen H pe) (q : ∀ H' r,r < many → Pen H' pe → PK pe H H' → H'.length = H.length → Q (.int r) H') : S2 (zs PP (m + 40) (.fn 712) [.loc pe,.int many] H) Q:=by
 refine cp fun nq=>?_
 obtain ⟨a,tl,hl,ht⟩:=hp
 refine nq ?_
 have core : ∀ {L1 : Loc} {H1 : Hp} {t : Nat} {tl1 : List Nat},L1 263 = some (.loc pe) → L1 105 = some (.int many) → L1 264 = some (.int t) → H1[pe]? = some (.list ((a :: tl1).map nPV)) → tl1.length ≤ 100 → PK pe H H1 → H1.length = H.length →
   SX (execs PP (m + 36) [.assign (.name 265) (.bin .Mod (.bin .Add (.loc 264) (.sub (.loc 263) (.cint 0))) (.loc 105)),.assign (.sub (.loc 263) (.cint 0)) (.bin .FloorDiv (.sub (.loc 263) (.cint 0)) (.loc 105)),.ret (.loc 265)] L1 H1) (FnQ Q):=by
  intro L1 H1 t tl1 a1 a2 a3 g ht1 K hlen
  have g0 : qr (.loc pe) (.int (0 : Nat)) H1 = some (.int a):=vf g (by rw [List.length_map,List.length_cons];exact zu4 ht1 rfl) rfl
  refine zj<|zo<|zo<|zh a3<|zZ<|zh a1<|zc rfl ⟨.int a,g0,yc<|zh a2<|yH (by exact zc4 h1) ?_⟩
  have e1 : ((t : Int) + (a : Int)).fmod (many : Int) = (((t + a) % many : Nat) : Int):=by rw [← yb];rfl
  rw [e1]
  refine wN<|zo<|zZ<|zh a1<|zc rfl ⟨.int a,g0,zh a2<|yW ⟨by exact zc4 h1,by rw [Int.natAbs_natCast];exact h2⟩ ?_⟩
  rw [jc]
  have e2 : zlg ((a :: tl1).map nPV).length 0 = some 0:=by
   exact zjo (k:=0) (by rw [List.length_map];exact Nat.succ_pos _) (by rw [List.length_map,List.length_cons];exact zu4 ht1 rfl)
  refine zh a1<|zc rfl ⟨H1.set pe (.list (((a / many) :: tl1).map nPV)),?_,zt<|zc rfl<|q _ _ (Nat.mod_lt _ h1) ⟨a / many,tl1,kI g,ht1⟩ (fun i ob b1 b2=>yg (K i ob b1 b2) b1.symm) (by rw [List.length_set];exact hlen)⟩
  exact (zr g).trans (zr (zr e2))
 have hk : ∀ {m : Nat} {Q1 : PV → Hp → Prop},Q1 (.int (tl.length + 1 : Nat)) H → S2 (zs PP (m + 3) (.bi 1) [.loc pe] H) Q1:=fun q1=>qq (k:=tl.length + 1) ((len_list hl).trans (congrArg some (List.length_map _))) (by exact zu4 ht rfl) q1
 refine zD rfl rfl<|zj<|jx<|zE<|ze rfl<|zn rfl<|hk<|zc rfl ⟨decide (0 < tl.length),?_,?_⟩
 ·show some (decide ((1 : Int) < ((tl.length + 1 : Nat) : Int))) = _
  congr 1
  exact decide_eq_decide.mpr (by lia)
 ·cases tl with
  | nil=>exact zc rfl<|core (t:=0) (tl1:=[]) rfl rfl rfl hl (by decide) PK.refl rfl
  | cons t tl1 =>
   rw [decide_eq_true (show 0 < (t :: tl1).length by rw [List.length_cons];exact Nat.succ_pos _)]
   rw [List.length_cons] at ht
   refine yw<|zc rfl ⟨rfl,hl,(by show (0 : Nat) ≠ 4;decide),zn rfl ⟨_,hl,rfl,.int t,H.set pe (.list ((a :: tl1).map nPV)),?_,core (t:=t) (tl1:=tl1) rfl rfl rfl (kI hl) (by exact Nat.le_of_lt ht) (fun i ob b1 b2=>yg b2 b1.symm) (by rw [List.length_set])⟩⟩
   have hd : (0 : Int) ≤ 1 ∧ (1 : Int) < (((a :: t :: tl1).map nPV).length : Int) ∧ ((a :: t :: tl1).map nPV).length ≤ lim:=by
    rw [List.length_map,List.length_cons,List.length_cons];unfold lim;lia
   exact (zA hd).trans rfl
theorem qP {x : Nat} {ke : ME} {many : Nat} (h1 : 1 ≤ many) (h2 : many < 2 ^ 1000) (hL : L x = some (.loc pe)) (hp : Pen H pe) (hk : evE PP (n + 39) ke L H = some (.int many,H)) (q : ∀ H' r,r < many → Pen H' pe → PK pe H H' → H'.length = H.length → Q (.int r) H') : S2 (evE PP (n + 42) (.call (.glob 262) [.loc x,ke]) L H) Q :=
 ze rfl<|za<|zh hL<|za<|zc hk<|zi<|zg5 _ many h1 h2 hp q
theorem zm3 (m : Nat) (hp : Pen H pe) (q : ∀ H' d f,FdOk f → H'[d]? = some (.dict [(271,f.pv)]) → Pen H' pe → PK pe H H' → H.length ≤ d → H'.length = d + 1 → Q (.loc d) H') : S2 (zs PP (m + 80) (.fn 726) [.loc pe] H) Q:=by
 refine zD rfl rfl<|jI<|za<|qP (many:=3) (by decide) (by decide) rfl hp rfl fun H1 r1 b1 p1 k1 l1=>za<|qP (many:=90) (by decide) (by decide) rfl p1 rfl fun H2 r2 b2 p2 k2 l2=>za<|zo<|zc rfl<|qP (many:=20) (by decide) (by decide) rfl p2 rfl fun H3 r3 b3 p3 k3 l3=>yc<|zi ⟨_,rfl,?_⟩
 have e1 : (1 : Int) + (r3 : Int) = ((1 + r3 : Nat) : Int):=by rw [Int.natCast_add];rfl
 rw [e1]
 have K:=(k1.trans k2).trans k3
 have hpe : pe < H3.length:=by obtain ⟨a,tl,h,_⟩:=p3;exact (List.getElem?_eq_some_iff.mp h).1
 have fin : ∀ (f : Fd),FdOk f → Q (.loc H3.length) (H3 ++ [.dict [(271,f.pv)]]):=fun f hf=>q _ H3.length f hf (zY (k:=0) rfl) (by obtain ⟨a,tl,h,ht⟩:=p3;exact ⟨a,tl,yl h,ht⟩) (fun i ob c1 c2=>yl (K i ob c1 c2)) (by lia) (by rw [List.length_append];rfl)
 match r1,b1 with
 | 0,_=>exact zj<|zc rfl<|zt<|zc rfl<|fin .mark trivial
 | 1,_=>exact zj<|zc rfl<|zt<|zc rfl<|fin .iif trivial
 | 2,_=>exact zj<|zc rfl<|zt<|zc rfl<|fin (.pay (1 + r3) r2) ⟨by exact Nat.le_add_right _ _,by exact zv9 b3 rfl,b2⟩
end Mine
namespace Mine
open PySem
variable {n : Nat} {L : Loc} {H H' T : Hp} {Q : PV → Hp → Prop} {QX : Fl → Loc → Hp → Prop} {v : PV} {a : ME} {ss : List MS} {pe : Nat} {f : Fd}
noncomputable def EnF (mark iif : Nat) (d : List UInt8) : En:=⟨0,0,0,0,0,0,0,0,0,86,mark,iif,d,0⟩
noncomputable def zdx (f : Fd) (E : En) : PV:=match f.val E with
 | none=>.none
 | some x=>.int x
noncomputable def askT : List MS:=[.swap [279,280] (.tup [.call (.glob 262) [.loc 263,.cint 4],.call (.glob 262) [.loc 263,.bin .Pow (.cint 2) (.cint 40)]]),.ifs (.cmp .Eq (.loc 279) (.cint 0)) [.ret (.tup [.tup [.cstr 63,.cstr 271],.loc 9,.loc 102])] [],.ifs (.cmp .Eq (.loc 279) (.cint 1)) [.ret (.tup [.tup [.cstr 59,.tup [.cstr 63,.cstr 271],.bin .Mod (.loc 280) (.cint 40)],.loc 9,.ite (.cmp .Is (.loc 102) .cnone) .cnone (.bin .FloorDiv (.loc 102) (.bin .Pow (.cint 2) (.bin .Mod (.loc 280) (.cint 40))))])] [],.ifs (.cmp .Eq (.loc 279) (.cint 2)) [.ret (.tup [.tup [.cstr 55,.tup [.cstr 63,.cstr 271],.loc 280],.loc 9,.ite (.cmp .Is (.loc 102) .cnone) .cnone (.bin .BitAnd (.loc 102) (.loc 280))])] [],.assign (.name 280) (.bin .Mod (.loc 280) (.bin .Pow (.cint 256) (.loc 13))),.ret (.tup [.tup [.cstr 57,.tup [.cstr 63,.cstr 271],.loc 280],.bin .Mult (.cint 8) (.loc 13),.ite (.cmp .Is (.loc 102) .cnone) .cnone (.bin .BitXor (.loc 102) (.loc 280))])]
theorem zs3 : (2 : Int) ^ ((40 : Int)).toNat = ((2 ^ 40 : Nat) : Int):=by rw [ya];rfl
theorem zob {k : Nat} (h : k < 1000) : 2 ^ k < 2 ^ 1000:=(Nat.pow_lt_pow_iff_right (a:=2) (by decide)).mpr h
theorem zpa {x : Nat} {E : En} {b : ME} {w : Nat → PV} (hL : L x = some (zdx f E)) (hb : ∀ y,L x = some (.int (y : Nat)) → S2 (evE PP (n + 8) b L H) fun v H1=>v = w y ∧ H1 = H) (q : Q (match f.val E with | none=>.none | some y=>w y) H) : S2 (evE PP (n + 9) (.ite (.cmp .Is (.loc x) .cnone) .cnone b) L H) Q:=by
 unfold zdx at hL
 cases hx : f.val E with
 | none=>rw [hx] at q hL;exact jx<|zE<|zh hL<|zc rfl ⟨true,rfl,zc rfl q⟩
 | some y =>
  rw [hx] at q hL
  refine jx<|zE<|zh hL<|zc rfl ⟨false,rfl,(hb y hL).mono fun v H1 ⟨h1,h2⟩=>?_⟩
  subst h1;subst h2;exact q
theorem vB (m : Nat) {E : En} (hf : FdOk f) (hp : Pen H pe) (a1 : L 263 = some (.loc pe)) (a2 : L 9 = some (.int f.bits)) (a3 : L 13 = some (.int f.sz)) (a4 : L 102 = some (zdx f E)) (q : ∀ H' e,ExOk f e → Pen H' pe → PK pe H H' → H'.length = H.length → Q (.tup [e.pv,.int (zG f e),qu f e E]) H') :
  SX (execs PP (m + 80) askT L H) (FnQ Q):=by
 obtain ⟨hs1,hs4⟩:=ji hf
 refine jI<|za<|qP (many:=4) (by decide) (by decide) a1 hp rfl fun H1 r1 b1 p1 k1 l1=>za<|ze rfl<|za<|zh a1<|za<|zo<|zc rfl<|zc rfl<|jH (by decide) ?_
 rw [zs3]
 refine zi<|zg5 _ (2 ^ 40) (by decide) (by decide) p1 fun H2 by_ b2 p2 k2 l2=>zi ⟨_,rfl,?_⟩
 have K:=k1.trans k2
 have q:=fun e he=>q H2 e he p2 K (by lia)
 have hmod : ((by_ : Nat) : Int).fmod 40 = ((by_ % 40 : Nat) : Int):=yb by_ 40
 match r1,b1 with
 | 0,_ =>
  refine zu<|zx rfl<|zt<|z8<|za<|zc rfl<|za<|zh a2<|za<|zh a4<|zi ?_
  have:=q .fld trivial
  exact this
 | 1,_ =>
  refine zu<|zx rfl<|zf<|zu<|zx rfl<|zt<|z8<|za<|z8<|za<|zc rfl<|za<|zc rfl<|za<|zo<|zc rfl<|zc rfl<|yH (by decide)<|zi<|za<|zh a2<|za<|zpa (w:=fun y=>.int (y / 2 ^ (by_ % 40) : Nat)) a4 (fun y hy=>zo<|zh hy<|zo<|zc rfl<|zo<|zc rfl<|zc rfl<|yH (by decide)<|jH ?_<|?_)<|zi ?_
  ·exact hmod ▸ ⟨by exact Int.natCast_nonneg _,by lia,by decide⟩
  ·rw [hmod,Int.toNat_natCast,ya]
   refine yW ⟨?_,?_⟩ ?_
   ·have : 0 < 2 ^ (by_ % 40):=Nat.pow_pos (by decide)
    exact zc4 this
   ·rw [Int.natAbs_natCast]
    exact zob (by lia)
   ·exact ⟨by rw [jc],rfl⟩
  ·rw [hmod]
   have:=q (.shr (by_ % 40)) trivial
   exact this
 | 2,_ =>
  refine zu<|zx rfl<|zf<|zu<|zx rfl<|zf<|zu<|zx rfl<|zt<|z8<|za<|zc rfl<|za<|zh a2<|za<|zpa (w:=fun y=>.int (y &&& by_ : Nat)) a4 (fun y hy=>zo<|zh hy<|zc rfl<|zf7 ⟨by rw [ku],rfl⟩)<|zi ?_
  have:=q (.mask by_) trivial
  exact this
 | 3,_ =>
  have hpow : (256 : Int) ^ ((f.sz : Int)).toNat = ((256 ^ f.sz : Nat) : Int):=by rw [Int.toNat_natCast,Int.natCast_pow];rfl
  have hm2 : (by_ : Int).fmod ((256 ^ f.sz : Nat) : Int) = ((by_ % 256 ^ f.sz : Nat) : Int):=yb _ _
  have hp0 : 0 < 256 ^ f.sz:=Nat.pow_pos (by decide)
  refine zu<|zx rfl<|zf<|zu<|zx rfl<|zf<|zu<|zx rfl<|zf<|zj<|zo<|zc rfl<|zo<|zc rfl<|zh a3<|jH ⟨by exact Int.natCast_nonneg _,by exact zc2 hs4 rfl,by decide⟩ ?_
  rw [hpow]
  refine yH (by exact zc4 hp0) ?_
  rw [hm2]
  refine zt<|z8<|za<|zc rfl<|za<|zo<|zc rfl<|zh a3<|yP (.inl (by decide))<|za<|zpa (w:=fun y=>.int (y ^^^ (by_ % 256 ^ f.sz) : Nat)) a4 (fun y hy=>zo<|zh hy<|zc rfl<|ztj ⟨by rw [zi2],rfl⟩)<|zi ?_
  have:=q (.xor (by_ % 256 ^ f.sz)) (Nat.mod_lt _ hp0)
  have e8 : (8 : Int) * (f.sz : Int) = ((8 * f.sz : Nat) : Int):=by rw [Int.natCast_mul];rfl
  exact e8 ▸ this
end Mine
namespace Mine
open PySem
variable {n : Nat} {L : Loc} {H H' T : Hp} {Q : PV → Hp → Prop} {QX : Fl → Loc → Hp → Prop} {v : PV} {a : ME} {ss : List MS} {pe : Nat} {f : Fd}
theorem zm8 (l : List PV) (h : l.length = 12) : yx l none none (some (-1)) = l.reverse:=qd (P:=fun l=>yx l none none (some (-1)) = l.reverse) .none (n:=12) (fun uu=>by kernel_rfl) l h
noncomputable def wz : Nat → List UInt8 → List (PV × PV)
 | _,[]=>[]
 | k,x :: r=>(.int k,.int x.toNat) :: wz (k + 1) r
theorem zji : ∀ (k : Nat) (l : List UInt8),jF k (l.map fun x=>.int x.toNat) = (wz k l).map fun x=>.tup [x.1,x.2]
 | k,[]=>rfl
 | k,x :: r=>by
  show PV.tup [.int k,.int x.toNat] :: jF (k + 1) (r.map fun x=>.int x.toNat) = PV.tup [.int k,.int x.toNat] :: (wz (k + 1) r).map fun x=>.tup [x.1,x.2]
  rw [zji (k + 1) r]
theorem zen : ∀ (k : Nat) (l : List UInt8),(wz k l).length = l.length
 | k,[]=>rfl
 | k,x :: r=>by show (wz (k + 1) r).length + 1 = _;rw [zen];rfl
theorem zem : ∀ (k : Nat) (l : List UInt8) (v : PV × PV),v ∈ wz k l → ∃ (i : Nat) (x : UInt8),v = (.int i,.int x.toNat) ∧ i < k + l.length
 | k,[],v,h=>by cases h
 | k,x :: r,v,h=>by
  rcases List.mem_cons.mp h with rfl | h
  ·exact ⟨k,x,rfl,by rw [List.length_cons];exact Nat.lt_add_of_pos_right (Nat.succ_pos _)⟩
  ·refine cp fun nq=>?_
   obtain ⟨i,t,h1,h2⟩:=zem (k + 1) r v h
   refine nq ?_
   exact ⟨i,t,h1,by rw [List.length_cons];lia⟩
noncomputable def zi3 (v : PV × PV) : PV:=match v.1,v.2 with
 | .int k,.int x=>.int (x * 256 ^ k.toNat)
 | _,_=>.none
noncomputable def zgc : Nat → List UInt8 → Nat
 | _,[]=>0
 | k,x :: r=>x.toNat * 256 ^ k + zgc (k + 1) r
theorem zag : ∀ (r : List UInt8) (k : Nat) (x : UInt8),zgc k (r ++ [x]) = zgc k r + x.toNat * 256 ^ (k + r.length)
 | [],k,x=>by show x.toNat * 256 ^ k + 0 = 0 + x.toNat * 256 ^ k;exact Nat.add_comm ..
 | y :: r,k,x=>by
  show y.toNat * 256 ^ k + zgc (k + 1) (r ++ [x]) = y.toNat * 256 ^ k + zgc (k + 1) r + x.toNat * 256 ^ (k + (r.length + 1))
  rw [zag r (k + 1) x,show k + 1 + r.length = k + (r.length + 1) by exact Nat.succ_add ..,Nat.add_assoc]
theorem zdu : ∀ d : List UInt8,zgc 0 d.reverse = zw d
 | []=>rfl
 | x :: r=>by rw [List.reverse_cons,zag,zdu r,jR,List.length_reverse,Nat.zero_add,Nat.add_comm]
theorem zi5 : ∀ (r : List UInt8) (k a : Nat),zgj ((wz k r).map zi3) a = some ((a + zgc k r : Nat) : Int)
 | [],k,a=>rfl
 | x :: r,k,a=>by
  show zgj ((wz (k + 1) r).map zi3) ((a : Int) + (x.toNat : Int) * 256 ^ ((k : Nat) : Int).toNat) = _
  have e : (a : Int) + (x.toNat : Int) * 256 ^ ((k : Nat) : Int).toNat = ((a + x.toNat * 256 ^ k : Nat) : Int):=by
   rw [Int.toNat_natCast,Int.natCast_add,Int.natCast_mul,Int.natCast_pow];rfl
  rw [e,zi5 r (k + 1)]
  congr 2
  exact Nat.add_assoc ..
theorem fd8 : (8 : Int) ≠ 0 ∧ (8 : Int).natAbs < 2 ^ 1000:=⟨by decide,by decide⟩
theorem zr3 {m fa mark iif : Nat} {d : List UInt8} (hL : L 273 = some (.loc fa)) (F : Facts H fa d mark iif) (q : Q (.int (zw d)) H) :
  S2 (evE PP (m + 60) (.call (.glob 276) [.comp (.bin .Mult (.loc 77) (.bin .Pow (.cint 256) (.loc 277))) [277,77] 2 [.glob 278,.slice (.sub (.loc 273) (.cstr 75)) .cnone .cnone (.neg (.cint 1))] []]) L H) Q:=by
 have hdl:=F.dl
 refine ze rfl<|za<|zcw (H2:=H) (by decide) (wz 0 d.reverse) zi3 (fun uu=>true) ?_ ?_ ?_ ?_ ?_
 ·refine za<|zc rfl<|za<|qi<|zZ<|zh hL<|zc rfl ⟨qp d,yA F.f rfl,zc rfl<|zc rfl<|zc rfl ⟨.lst (d.reverse.map fun x : UInt8=>PV.int x.toNat),?_,zi ⟨rfl,?_⟩⟩⟩
  ·show wQ (qp d) .none .none (.int (-1)) H = _
   refine (zA ⟨by decide,by rw [List.length_map];unfold lim;exact hdl.symm ▸ Nat.le_of_ble_eq_true rfl⟩).trans ?_
   rw [zm8 _ (by rw [List.length_map];exact hdl),List.map_reverse]
  ·show some (Src.vals (jF 0 (d.reverse.map fun x : UInt8=>PV.int x.toNat))) = _
   rw [zji]
 ·rw [zen,List.length_reverse];unfold lim;exact hdl.symm ▸ Nat.le_of_ble_eq_true rfl
 ·intro v hv L1 b1 b2 b3 H1
  exact ⟨true,H1,rfl,rfl,rfl⟩
 ·intro v hv hp L1 b1 b2 b3 H1
  obtain ⟨i,x,rfl,hi⟩:=zem _ _ _ hv
  rw [List.length_reverse] at hi
  have hx:=UInt8.toNat_lt x
  exact zo<|zh b2<|zo<|zc rfl<|zh b1<|jH ⟨by exact Int.natCast_nonneg _,by lia,by decide⟩<|yP (.inl (by rw [Int.natAbs_natCast];exact zu1 hx rfl)) ⟨rfl,rfl⟩
 ·refine zi<|kx (r:=.int (zw d)) (H1:=H) ?_ q
  have hft : (wz 0 d.reverse).filter (fun uu=>true) = wz 0 d.reverse:=List.filter_eq_self.mpr fun uu uu=>rfl
  rw [hft]
  refine zr (?_ : zgj ((wz 0 d.reverse).map zi3) ((0 : Nat) : Int) = some ((zw d : Nat) : Int))
  rw [zi5,zdu,Nat.zero_add]
theorem zq4 (m : Nat) {fa fd mark iif : Nat} {d : List UInt8} (hf : FdOk f) (hp : Pen H pe) (F : Facts H fa d mark iif) (hd : H[fd]? = some (.dict [(271,f.pv)])) (q : ∀ H' e,ExOk f e → Pen H' pe → PK pe H H' → H'.length = H.length → Q (.tup [e.pv,.int (zG f e),qu f e (EnF mark iif d)]) H') :
  S2 (zs PP (m + 120) (.fn 731) [.loc pe,.loc fd,.loc fa] H) Q:=by
 have hdl:=F.dl
 cases f with
 | mark=>exact zD rfl rfl<|jA<|zZ<|zc rfl<|zc rfl ⟨_,yA hd rfl,_,_,rfl,jI<|za<|zo<|zc rfl<|zc rfl<|yW fd8<|za<|yw<|zc rfl ⟨rfl,F.f,(by show (1 : Nat) ≠ 4;decide),zn rfl ⟨_,F.f,rfl,.int mark,H,rfl,zi ⟨_,rfl,zu<|zx rfl<|zf<|vB (m + 34) (E:=EnF mark iif d) hf hp rfl rfl rfl rfl q⟩⟩⟩⟩
 | iif=>exact zD rfl rfl<|jA<|zZ<|zc rfl<|zc rfl ⟨_,yA hd rfl,_,_,rfl,jI<|za<|zo<|zc rfl<|zc rfl<|yW fd8<|za<|yw<|zc rfl ⟨rfl,F.f,(by show (1 : Nat) ≠ 4;decide),zn rfl ⟨_,F.f,rfl,.int iif,H,rfl,zi ⟨_,rfl,zu<|zx rfl<|zf<|vB (m + 34) (E:=EnF mark iif d) hf hp rfl rfl rfl rfl q⟩⟩⟩⟩
 | pay b ff =>
  have hlen : ∀ {m : Nat} {Q1 : PV → Hp → Prop},Q1 (.int (12 : Nat)) H → S2 (zs PP (m + 3) (.bi 1) [qp d] H) Q1:=fun q1=>qq (k:=12) (by show some (d.map fun x=>PV.int x.toNat).length = _;rw [List.length_map,hdl]) (by decide) q1
  refine cp fun nq=>?_
  obtain ⟨f1,f2,f3⟩:=hf
  refine nq ?_
  have e13 : ((((ff : Int) + (b : Int)) + 7).fdiv 8) - ((ff : Int).fdiv 8) = ((Fd.sz (.pay b ff) : Nat) : Int):=by
   show _ = (((ff % 8 + b + 7) / 8 : Nat) : Int)
   rw [Int.fdiv_eq_ediv_of_nonneg _ (by decide),Int.fdiv_eq_ediv_of_nonneg _ (by decide)]
   lia
  refine zD rfl rfl<|jA<|zZ<|zc rfl<|zc rfl ⟨_,yA hd rfl,_,_,rfl,jI<|za<|zo<|zc rfl<|zc rfl<|yW fd8<|za<|yw<|zc rfl ⟨rfl,F.f,(by show (1 : Nat) ≠ 4;decide),zn rfl ⟨_,F.f,rfl,.none,H,rfl,zi ⟨_,rfl,?_⟩⟩⟩⟩
  refine zu<|zx rfl<|jI<|za<|zc rfl<|za<|zo<|zc rfl<|ze rfl<|za<|zZ<|zc rfl<|zc rfl ⟨qp d,yA F.f rfl,zi<|hlen<|yP (.inl (by decide))<|zi ⟨_,rfl,?_⟩⟩
  refine zj<|zo<|zo<|zo<|zo<|zc rfl<|zc rfl<|yc<|zc rfl<|yc<|zc rfl<|yW fd8<|zo<|zc rfl<|zc rfl<|yW fd8<|yB ?_
  rw [e13]
  refine zj<|zr3 rfl F<|zj<|jx<|zE<|zo<|zc rfl<|zc rfl<|yc<|zc rfl ⟨decide (ff + b ≤ 96),?_,?_⟩
  ·show some (decide ((ff : Int) + (b : Int) ≤ 96)) = _
   congr 1
   exact decide_eq_decide.mpr (by lia)
  ·by_cases hh : ff + b ≤ 96
   ·rw [decide_eq_true hh]
    refine zo<|zo<|zc rfl<|zo<|zc rfl<|zo<|zo<|zc rfl<|zc rfl<|yB<|zc rfl<|yB<|jH ⟨?_,?_,by decide⟩ ?_
    ·show (0 : Int) ≤ 96 - (ff : Int) - (b : Int);lia
    ·show (96 : Int) - (ff : Int) - (b : Int) ≤ 1000000;lia
    ·have e1 : ((96 : Int) - (ff : Int) - (b : Int)).toNat = 96 - ff - b:=by exact by simp
     change S2 (kA PP .FloorDiv (.int (zw d)) (.int (2 ^ ((96 : Int) - (ff : Int) - (b : Int)).toNat)) H) _
     rw [e1,ya]
     have hp0 : 0 < 2 ^ (96 - ff - b):=Nat.pow_pos (by decide)
     refine yW ⟨by exact zc4 hp0,by rw [Int.natAbs_natCast];exact zob (by lia)⟩ ?_
     rw [jc]
     refine zo<|zc rfl<|zc rfl<|jH ⟨by exact Int.natCast_nonneg _,by exact zc2 f2 rfl,by decide⟩ ?_
     rw [Int.toNat_natCast,ya]
     have hp1 : 0 < 2 ^ b:=Nat.pow_pos (by decide)
     refine yH (by exact zc4 hp1) ?_
     rw [yb]
     refine zf<|vB (m + 34) (E:=EnF mark iif d) (show FdOk (.pay b ff) from ⟨f1,f2,f3⟩) hp rfl rfl rfl ?_ q
     unfold zdx
     rw [jY,show decide (ff + b ≤ 96) = true from decide_eq_true hh]
     rfl
   ·rw [decide_eq_false hh]
    refine zc rfl<|zf<|vB (m + 34) (E:=EnF mark iif d) (show FdOk (.pay b ff) from ⟨f1,f2,f3⟩) hp rfl rfl rfl ?_ q
    unfold zdx
    rw [jY,show decide (ff + b ≤ 96) = false from decide_eq_false hh]
    rfl
end Mine
namespace Mine
open PySem
variable {n : Nat} {L : Loc} {H H' T : Hp} {Q : PV → Hp → Prop} {QX : Fl → Loc → Hp → Prop} {v : PV} {pe : Nat} {f : Fd}
noncomputable def yC (top : Nat) : List Nat → List Sp
 | []=>[]
 | c :: r=>match r with
  | []=>[(c,top)]
  | d :: _=>(c,d - 1) :: yC top r
noncomputable def vR (top : Nat) (s : List Nat) : List Nat:=s.tail.map (· - 1) ++ [top]
theorem zak (top : Nat) : ∀ s : List Nat,zbn (s.map nPV) ((vR top s).map nPV) = (yC top s).map yi
 | []=>rfl
 | [c]=>rfl
 | c :: d :: r=>by
  have ih:=zak top (d :: r)
  show yi (c,d - 1) :: zbn ((d :: r).map nPV) ((vR top (d :: r)).map nPV) = yi (c,d - 1) :: (yC top (d :: r)).map yi
  rw [ih]
theorem vH (top : Nat) : ∀ s : List Nat,(yC top s).length = s.length
 | []=>rfl
 | [c]=>rfl
 | c :: d :: r=>by show (yC top (d :: r)).length + 1 = _;rw [vH top (d :: r)];rfl
theorem zd5 (top : Nat) : ∀ (r : List Nat) (c : Nat),(c :: r).Pairwise (· < ·) → (∀ x ∈ c :: r,x ≤ top) → (∀ p ∈ yC top (c :: r),c ≤ p.1 ∧ p.1 ≤ p.2 ∧ p.2 ≤ top) ∧ (yC top (c :: r)).Pairwise (fun a b=>a.2 < b.1) ∧ ∀ n,c ≤ n → n ≤ top → ∃ p ∈ yC top (c :: r),p.1 ≤ n ∧ n ≤ p.2
 | [],c,hp,ht=>by
  have:=ht c (List.mem_cons_self ..)
  refine ⟨fun p h=>?_,List.pairwise_singleton _ _,fun n h1 h2=>⟨(c,top),List.mem_cons_self ..,h1,h2⟩⟩
  rcases List.mem_cons.mp h with rfl | h
  ·exact ⟨Nat.le_refl _,this,Nat.le_refl _⟩
  ·cases h
 | d :: r,c,hp,ht=>by
  refine cp fun nq=>?_
  obtain ⟨hcd,hp2⟩:=List.pairwise_cons.mp hp
  obtain ⟨h1,h2,h3⟩:=zd5 top r d hp2 fun x hx=>ht x (List.mem_cons_of_mem _ hx)
  refine nq ?_
  have hc:=hcd d (List.mem_cons_self ..)
  have hd:=ht d (List.mem_cons_of_mem _ (List.mem_cons_self ..))
  refine ⟨fun p h=>?_,List.pairwise_cons.mpr ⟨fun p hp=>?_,h2⟩,fun n a b=>?_⟩
  ·rcases List.mem_cons.mp h with rfl | h
   ·exact ⟨Nat.le_refl _,by show c ≤ d - 1;lia,by show d - 1 ≤ top;lia⟩
   ·have:=h1 p h;lia
  ·have:=h1 p hp
   lia
  ·by_cases hn : n < d
   ·exact ⟨(c,d - 1),List.mem_cons_self ..,a,by show n ≤ d - 1;lia⟩
   ·obtain ⟨p,hp,h4⟩:=h3 n (by exact Nat.le_of_not_lt hn) b
    exact ⟨p,List.mem_cons_of_mem _ hp,h4⟩
theorem zu5 {bits : Nat} {r : List Nat} (hl : (0 :: r).length ≤ 4) (hp : (0 :: r).Pairwise (· < ·)) (ht : ∀ x ∈ 0 :: r,x ≤ 2 ^ bits - 1) : Cut (yC (2 ^ bits - 1) (0 :: r)) bits:=by
 have h0 : 0 < 2 ^ bits:=Nat.pow_pos (by decide)
 obtain ⟨h1,h2,h3⟩:=zd5 _ r 0 hp ht
 exact ⟨by rw [vH];exact hl,⟨h2,fun s hs=>(h1 s hs).2.1⟩,fun s hs=>by have:=(h1 s hs).2.2;lia,fun n hn=>h3 n (Nat.zero_le _) (by lia)⟩
noncomputable def toI (y : Nat) : Int:=y
noncomputable def vO (x : Nat) : List Nat → List Nat
 | []=>[x]
 | y :: r=>match decide (x ≤ y) with
  | true=>x :: y :: r
  | false=>y :: vO x r
theorem qZ (x y : Nat) (r : List Nat) : vO x (y :: r) = match decide (x ≤ y) with | true=>x :: y :: r | false=>y :: vO x r:=rfl
theorem ze2 (x : Nat) : ∀ l : List Nat,yo (x : Int) (l.map toI) = (vO x l).map toI
 | []=>rfl
 | y :: r=>by
  show (match decide ((x : Int) ≤ (y : Int)) with | true=>(x : Int) :: (y : Int) :: r.map (toI) | false=>(y : Int) :: yo (x : Int) (r.map toI)) = _
  rw [kT,ze2 x r,qZ]
  cases decide (x ≤ y) <;> rfl
theorem xn (x z : Nat) : ∀ l : List Nat,z ∈ vO x l ↔ z = x ∨ z ∈ l
 | []=>by unfold vO;simp
 | y :: r=>by
  rw [qZ]
  cases decide (x ≤ y) with
  | true=>exact List.mem_cons
  | false =>
   rw [List.mem_cons,xn x z r,List.mem_cons]
   constructor
   ·rintro (h | h | h)
    ·exact .inr (.inl h)
    ·exact .inl h
    ·exact .inr (.inr h)
   ·rintro (h | h | h)
    ·exact .inr (.inl h)
    ·exact .inl h
    ·exact .inr (.inr h)
theorem ze1 (x : Nat) : ∀ l : List Nat,(vO x l).length = l.length + 1
 | []=>rfl
 | y :: r=>by
  rw [qZ]
  cases decide (x ≤ y) with
  | true=>rfl
  | false=>show (vO x r).length + 1 = _;rw [ze1 x r];rfl
theorem ze3 (x : Nat) : ∀ l : List Nat,l.Pairwise (· < ·) → x ∉ l → (vO x l).Pairwise (· < ·)
 | [],_,_=>List.pairwise_singleton _ _
 | y :: r,hp,hx=>by
  obtain ⟨h1,h2⟩:=List.pairwise_cons.mp hp
  have hne : x ≠ y:=fun h=>hx (by rw [h];exact List.mem_cons_self ..)
  rw [qZ]
  by_cases h : x ≤ y
  ·rw [decide_eq_true h]
   refine List.pairwise_cons.mpr ⟨fun z hz=>?_,hp⟩
   rcases List.mem_cons.mp hz with rfl | hz
   ·lia
   ·have:=h1 z hz;exact Nat.lt_of_le_of_lt h this
  ·rw [decide_eq_false h]
   refine List.pairwise_cons.mpr ⟨fun z hz=>?_,ze3 x r h2 fun h=>hx (List.mem_cons_of_mem _ h)⟩
   rcases (xn x z r).mp hz with rfl | hz
   ·exact Nat.lt_of_not_le h
   ·exact h1 z hz
noncomputable def qA (l : List Nat) : List Nat:=l.foldr vO []
theorem zan : ∀ l : List Nat,(l.map toI).foldr yo [] = (qA l).map toI
 | []=>rfl
 | y :: r=>by
  show yo (y : Int) ((r.map toI).foldr yo []) = (vO y (qA r)).map toI
  rw [zan r,ze2]
theorem qX (z : Nat) : ∀ l : List Nat,z ∈ qA l ↔ z ∈ l
 | []=>Iff.rfl
 | y :: r=>by show z ∈ vO y (qA r) ↔ _;rw [xn,qX z r,List.mem_cons]
theorem zam : ∀ l : List Nat,(qA l).length = l.length
 | []=>rfl
 | y :: r=>by show (vO y (qA r)).length = _;rw [ze1,zam r];rfl
theorem zao : ∀ l : List Nat,l.Nodup → (qA l).Pairwise (· < ·)
 | [],_=>List.Pairwise.nil
 | y :: r,h=>by
  obtain ⟨h1,h2⟩:=List.nodup_cons.mp h
  exact ze3 y _ (zao r h2) fun h=>h1 ((qX y r).mp h)
theorem zez : ∀ l : List Nat,zcj (l.map nPV) = some (l.map toI)
 | []=>rfl
 | y :: r=>by
  exact zr (zez r)
theorem zun {i m : Nat} {cs : List Nat} (h : H[i]? = some (.list (cs.map nPV))) (hl : cs.length ≤ 60) (q : Q (.lst ((qA cs).map nPV)) H) : S2 (zs PP (m + 3) (.bi 3) [.loc i] H) Q:=by
 refine kx (r:=.lst ((qA cs).map nPV)) (H1:=H) ((zr (yv h)).trans ((zr (zez cs)).trans ((zA (by rw [List.length_map];exact hl)).trans ?_))) q
 rw [zan,List.map_map]
 rfl
theorem zel : ∀ l : List Nat,xW (l.map nPV) 8 = true
 | []=>rfl
 | y :: r=>by show xW (r.map nPV) 8 = true;exact zel r
theorem zke (x : Nat) : ∀ l : List Nat,zmb (nPV x) (l.map nPV) = decide (x ∈ l)
 | []=>rfl
 | y :: r=>by
  show (decide ((y : Int) = (x : Int)) || zmb (nPV x) (r.map nPV)) = _
  rw [qQ,zke x r]
  by_cases h : y = x
  ·subst h;rw [decide_eq_true rfl,decide_eq_true (List.mem_cons_self ..)];rfl
  ·rw [decide_eq_false h]
   exact decide_eq_decide.mpr ⟨fun h=>List.mem_cons_of_mem _ h,fun h2=>(List.mem_cons.mp h2).resolve_left fun e=>h e.symm⟩
theorem zk9 {i x : Nat} {cs : List Nat} (h : H[i]? = some (.list (cs.map nPV))) : jd .NotIn (.int x) (.loc i) H = some (!decide (x ∈ cs)):=by
 have e : jt (nPV x) (cs.map nPV) = some (decide (x ∈ cs)):=(wq rfl).trans ((wq (zel cs)).trans (congrArg some (zke x cs)))
 exact zr ((zr h).trans e)
structure Cuts (top : Nat) (cs : List Nat) : Prop where
 nd : cs.Nodup
 z : 0 ∈ cs
 t : ∀ x ∈ cs,x ≤ top
theorem zlp {top : Nat} {cs : List Nat} (h : Cuts top cs) (hl : cs.length ≤ 4) : ∃ r,qA cs = 0 :: r ∧ (0 :: r).length ≤ 4 ∧ (0 :: r).Pairwise (· < ·) ∧ ∀ x ∈ 0 :: r,x ≤ top:=by
 have ha:=zao cs h.nd
 have hz:=(qX 0 cs).mpr h.z
 have hlen:=zam cs
 cases hs : qA cs with
 | nil=>rw [hs] at hz;cases hz
 | cons a r =>
  rw [hs] at ha hz hlen
  have ha0 : a = 0:=by
   rcases List.mem_cons.mp hz with h | h
   ·exact h.symm
   ·have:=(List.pairwise_cons.mp ha).1 0 h;lia
  subst ha0
  exact ⟨r,rfl,by lia,ha,fun x hx=>h.t x ((qX x cs).mp (by rw [hs];exact hx))⟩
end Mine
namespace Mine
open PySem
variable {n : Nat} {L : Loc} {H H' T : Hp} {Q : PV → Hp → Prop} {QX : Fl → Loc → Hp → Prop} {v : PV} {pe : Nat} {f : Fd}
structure LS (L : Loc) (pe ce bits : Nat) (nv : PV) : Prop where
 p : L 263 = some (.loc pe)
 b : L 9 = some (.int bits)
 n : L 102 = some nv
 t : L 282 = some (.int (2 ^ bits - 1 : Nat))
 c : L 283 = some (.loc ce)
noncomputable abbrev P2 (pe ce : Nat) (H H' : Hp) : Prop:=∀ i ob,i ≠ pe → i ≠ ce → H[i]? = some ob → H'[i]? = some ob
theorem zph (m : Nat) {ce bits : Nat} {nv : PV} {cs : List Nat} {z : Int} (hcs : Cuts (2 ^ bits - 1) cs) (hl : cs.length ≤ 3) (hne : pe ≠ ce) (hp : Pen H pe) (hc : H[ce]? = some (.list (cs.map nPV))) (F : LS L pe ce bits nv) (hz : L 285 = some (.int z))
  (q : ∀ H' cs',Cuts (2 ^ bits - 1) cs' → cs'.length ≤ cs.length + 1 → Pen H' pe → H'[ce]? = some (.list (cs'.map nPV)) → P2 pe ce H H' → H'.length = H.length → QX .next L H') : SX (execs PP (m + 60) [.ifs (.bool true [.cmp2 .Lt .LtE (.cint 0) (.loc 285) (.loc 282),.cmp .NotIn (.loc 285) (.loc 283)]) [.expr (.meth (.loc 283) 0 [.loc 285])] []] L H) QX:=by
 have same : QX .next L H:=q _ cs hcs (by exact Nat.le_succ _) hp hc (fun uu uu uu uu h=>h) rfl
 have d1 : jd .Lt (.int 0) (.int z) H = some (decide (0 < z)):=rfl
 have d2 : jd .LtE (.int z) (.int (2 ^ bits - 1 : Nat)) H = some (decide (z ≤ ((2 ^ bits - 1 : Nat) : Int))):=rfl
 refine zu<|zdb<|c_e rfl<|zpc<|zc rfl<|zh hz ⟨_,d1,?_⟩
 by_cases h0 : 0 < z
 ·rw [decide_eq_true h0]
  refine zh F.t ⟨_,d2,_,rfl,?_⟩
  by_cases h1 : z ≤ ((2 ^ bits - 1 : Nat) : Int)
  ·rw [decide_eq_true h1]
   obtain ⟨k,rfl⟩ : ∃ k : Nat,z = k:=⟨z.toNat,by lia⟩
   refine zE<|zh hz<|zh F.c ⟨_,zk9 hc,?_⟩
   by_cases h2 : k ∈ cs
   ·rw [decide_eq_true h2];exact zf<|zf same
   ·rw [decide_eq_false h2]
    refine zy<|zct F.c hc<|zh hz ⟨_,hc,by rw [List.length_map];exact zu2 hl rfl,zf<|zf<|q _ (cs ++ [k]) ⟨?_,?_,?_⟩ (by rw [List.length_append];exact Nat.le_refl _) ?_ ?_ (fun i ob uu b1 b2=>yg b2 b1.symm) (by rw [List.length_set])⟩
    ·refine List.nodup_append.mpr ⟨hcs.nd,List.nodup_cons.mpr ⟨List.not_mem_nil,List.nodup_nil⟩,fun a ha b hb=>?_⟩
     rcases List.mem_cons.mp hb with rfl | hb
     ·exact fun e=>h2 (e ▸ ha)
     ·cases hb
    ·exact List.mem_append.mpr (.inl hcs.z)
    ·intro x hx
     rcases List.mem_append.mp hx with h | h
     ·exact hcs.t x h
     ·rcases List.mem_cons.mp h with rfl | h
      ·lia
      ·cases h
    ·refine cp fun nq=>?_
     obtain ⟨a,tl,g,ht⟩:=hp
     refine nq ?_
     exact ⟨a,tl,yg g hne.symm,ht⟩
    ·rw [List.map_append];exact kI hc
  ·rw [decide_eq_false h1];exact zf<|zf same
 ·rw [decide_eq_false h0];exact ⟨false,rfl,zf<|zf same⟩
theorem LS.set {ce bits x : Nat} {nv v : PV} (F : LS L pe ce bits nv) (h : x = 125 ∨ x = 284 ∨ x = 76 ∨ x = 285) : LS (z5 L x v) pe ce bits nv:=by
 rcases h with rfl | rfl | rfl | rfl <;> exact ⟨F.p,F.b,F.n,F.t,F.c⟩
theorem zi8 (m : Nat) {ce bits : Nat} {nv : PV} (hb : 1 ≤ bits ∧ bits ≤ 32) (hnv : nv = .none ∨ ∃ x : Nat,nv = .int x) (hne : pe ≠ ce) (H0 : Hp) : ∀ (vs : List PV) (L : Loc) (H : Hp) (cs : List Nat),vs.length + cs.length ≤ 4 → Cuts (2 ^ bits - 1) cs → Pen H pe → H[ce]? = some (.list (cs.map nPV)) → P2 pe ce H0 H → H.length = H0.length → LS L pe ce bits nv →
  (∀ L' H' cs',cs'.length ≤ 4 → Cuts (2 ^ bits - 1) cs' → Pen H' pe → H'[ce]? = some (.list (cs'.map nPV)) → P2 pe ce H0 H' → H'.length = H0.length → LS L' pe ce bits nv → QX .next L' H') →
  SX (kQ (fun L H=>execs PP (m + 80) [.swap [284,76] (.tup [.call (.glob 262) [.loc 263,.cint 3],.call (.glob 262) [.loc 263,.bin .Pow (.cint 2) (.cint 40)]]),.ifs (.cmp .Eq (.loc 284) (.cint 0)) [.assign (.name 285) (.bin .Sub (.bin .Add (.ite (.cmp .Is (.loc 102) .cnone) (.cint 0) (.loc 102)) (.bin .Mod (.loc 76) (.cint 4))) (.cint 1))] [.ifs (.cmp .Eq (.loc 284) (.cint 1)) [.assign (.name 285) (.bin .Mult (.bin .Pow (.cint 2) (.bin .Mod (.loc 76) (.loc 9))) (.bin .Add (.cint 1) (.bin .Mod (.bin .FloorDiv (.loc 76) (.loc 9)) (.cint 3))))] [.assign (.name 285) (.bin .Mod (.loc 76) (.bin .Pow (.cint 2) (.loc 9)))]],.ifs (.bool true [.cmp2 .Lt .LtE (.cint 0) (.loc 285) (.loc 282),.cmp .NotIn (.loc 285) (.loc 283)]) [.expr (.meth (.loc 283) 0 [.loc 285])] []] L H) [125] vs L H) QX
 | [],L,H,cs,hl,hcs,hp,hc,K,hlen,F,q=>jw (q _ _ cs (by simpa using hl) hcs hp hc K hlen F)
 | v :: vs,L,H,cs,hl,hcs,hp,hc,K,hlen,F,q=>by
  replace hl:=List.length_cons ▸ hl
  refine zV rfl<|jI<|za<|qP (many:=3) (by decide) (by decide) F.p hp rfl fun H1 r1 b1 p1 k1 l1=>za<|ze rfl<|za<|zh F.p<|za<|zo<|zc rfl<|zc rfl<|jH (by decide) ?_
  rw [zs3]
  refine zi<|zg5 _ (2 ^ 40) (by decide) (by decide) p1 fun H2 num b2 p2 k2 l2=>zi ⟨_,rfl,?_⟩
  have K2:=k1.trans k2
  have hc2 : H2[ce]? = some (.list (cs.map nPV)):=K2 _ _ hne.symm hc
  have Kx : P2 pe ce H0 H2:=fun i ob c1 c2 h=>K2 i ob c1 (K i ob c1 c2 h)
  have next : ∀ {z : Int} {L1 : Loc},LS L1 pe ce bits nv → L1 285 = some (.int z) → SX (execs PP (m + 78) [.ifs (.bool true [.cmp2 .Lt .LtE (.cint 0) (.loc 285) (.loc 282),.cmp .NotIn (.loc 285) (.loc 283)]) [.expr (.meth (.loc 283) 0 [.loc 285])] []] L1 H2) fun f L2 H2=>match f with | .ret v=>QX (.ret v) L2 H2 | _=>SX (kQ (fun L H=>execs PP (m + 80) [.swap [284,76] (.tup [.call (.glob 262) [.loc 263,.cint 3],.call (.glob 262) [.loc 263,.bin .Pow (.cint 2) (.cint 40)]]),.ifs (.cmp .Eq (.loc 284) (.cint 0)) [.assign (.name 285) (.bin .Sub (.bin .Add (.ite (.cmp .Is (.loc 102) .cnone) (.cint 0) (.loc 102)) (.bin .Mod (.loc 76) (.cint 4))) (.cint 1))] [.ifs (.cmp .Eq (.loc 284) (.cint 1)) [.assign (.name 285) (.bin .Mult (.bin .Pow (.cint 2) (.bin .Mod (.loc 76) (.loc 9))) (.bin .Add (.cint 1) (.bin .Mod (.bin .FloorDiv (.loc 76) (.loc 9)) (.cint 3))))] [.assign (.name 285) (.bin .Mod (.loc 76) (.bin .Pow (.cint 2) (.loc 9)))]],.ifs (.bool true [.cmp2 .Lt .LtE (.cint 0) (.loc 285) (.loc 282),.cmp .NotIn (.loc 285) (.loc 283)]) [.expr (.meth (.loc 283) 0 [.loc 285])] []] L H) [125] vs L2 H2) QX:=fun F1 hz =>
   zph (m + 18) hcs (by lia) hne p2 hc2 F1 hz fun H3 cs3 c1 c2 c3 c4 c5 c6=>zi8 m hb hnv hne H0 vs _ H3 cs3 (by lia) c1 c3 c4 (fun i ob d1 d2 h=>c5 i ob d1 d2 (Kx i ob d1 d2 h)) (by lia) F1 q
  have hmod : ((num : Nat) : Int).fmod (bits : Int) = ((num % bits : Nat) : Int):=yb num bits
  match r1,b1 with
  | 0,_ =>
   refine zu<|zx rfl<|zj<|zo<|zo<|jx<|zE<|zh F.n<|zc rfl ⟨isNone nv,rfl,?_⟩
   rcases hnv with rfl | ⟨x,rfl⟩
   ·exact zc rfl<|zo<|zc rfl<|zc rfl<|yH (by decide)<|yc<|zc rfl<|yB<|zf<|next ⟨F.p,F.b,F.n,F.t,F.c⟩ rfl
   ·exact zh F.n<|zo<|zc rfl<|zc rfl<|yH (by decide)<|yc<|zc rfl<|yB<|zf<|next ⟨F.p,F.b,F.n,F.t,F.c⟩ rfl
  | 1,_ =>
   refine zu<|zx rfl<|zu<|zx rfl<|zj<|zo<|zo<|zc rfl<|zo<|zc rfl<|zh F.b<|yH (by exact zc4 hb.1) ?_
   rw [hmod]
   have hm:=Nat.mod_lt num (show bits > 0 by exact hb.1)
   refine jH ⟨by exact Int.natCast_nonneg _,by omega,by decide⟩<|zo<|zc rfl<|zo<|zo<|zc rfl<|zh F.b<|yW ⟨by exact zc4 hb.1,by rw [Int.natAbs_natCast];exact Nat.lt_of_le_of_lt hb.2 (by decide)⟩<|zc rfl<|yH (by decide)<|yc ?_
   rw [jc]
   have h3 : ((num / bits : Nat) : Int).fmod 3 = ((num / bits % 3 : Nat) : Int):=yb _ 3
   rw [h3]
   refine yP (.inr (by omega))<|zf<|zf<|next ⟨F.p,F.b,F.n,F.t,F.c⟩ rfl
  | 2,_ =>
   refine zu<|zx rfl<|zu<|zx rfl<|zj<|zo<|zc rfl<|zo<|zc rfl<|zh F.b<|jH ⟨by exact Int.natCast_nonneg _,by exact zc2 hb.2 rfl,by decide⟩ ?_
   rw [Int.toNat_natCast,ya]
   have hp0 : 0 < 2 ^ bits:=Nat.pow_pos (by decide)
   refine yH (by exact zc4 hp0)<|zf<|zf<|next ⟨F.p,F.b,F.n,F.t,F.c⟩ rfl
end Mine
namespace Mine
open PySem
variable {n : Nat} {L : Loc} {H H' T : Hp} {Q : PV → Hp → Prop} {QX : Fl → Loc → Hp → Prop} {v : PV} {pe : Nat} {f : Fd}
theorem zk3 (l : List PV) (h : l.length ≤ 4) : yx l (some 1) none none = l.tail :=
 lt5 (P:=fun n=>∀ l : List PV,l.length = n → yx l (some 1) none none = l.tail) (qd (P:=fun l=>yx l (some 1) none none = l.tail) .none fun uu=>by kernel_rfl) (qd (P:=fun l=>yx l (some 1) none none = l.tail) .none fun uu=>by kernel_rfl) (qd (P:=fun l=>yx l (some 1) none none = l.tail) .none fun uu=>by kernel_rfl) (qd (P:=fun l=>yx l (some 1) none none = l.tail) .none fun uu=>by kernel_rfl) (qd (P:=fun l=>yx l (some 1) none none = l.tail) .none fun uu=>by kernel_rfl) _ (Nat.lt_succ_of_le h) l rfl
noncomputable def decF : PV → PV
 | .int x=>.int (x - 1)
 | v=>v
theorem zux {m top : Nat} {r : List Nat} (hl : (0 :: r).length ≤ 4) (hp : (0 :: r).Pairwise (· < ·)) (a1 : L 283 = some (.lst ((0 :: r).map nPV))) (a2 : L 282 = some (.int top)) (q : Q (.lst ((vR top (0 :: r)).map nPV)) (H ++ [.list [.int top]])) :
  S2 (evE PP (m + 40) (.bin .Add (.comp (.bin .Sub (.loc 285) (.cint 1)) [285] 0 [.slice (.loc 283) (.cint 1) .cnone .cnone] []) (.lst [.loc 282])) L H) Q:=by
 rw [List.length_cons] at hl
 refine zo<|vn (r.map nPV) decF (fun uu=>true) ?_ ?_ ?_ ?_ ?_
 ·refine za<|qi<|zh a1<|zc rfl<|zc rfl<|zc rfl ⟨.lst (r.map nPV),?_,zi ⟨rfl,rfl⟩⟩
  refine (zA ⟨by decide,by rw [List.length_map,List.length_cons];unfold lim;exact zu1 hl rfl⟩).trans ?_
  rw [zk3 _ (by rw [List.length_map,List.length_cons];exact hl)]
  rfl
 ·rw [List.length_map];unfold lim;exact zu3 hl rfl
 ·intro v hv L1 b1 b2 H1
  exact ⟨true,H1,rfl,rfl,rfl⟩
 ·intro v hv hp L1 b1 b2 H1
  obtain ⟨x,hx,rfl⟩:=List.mem_map.mp hv
  exact zo<|zh b1<|zc rfl<|yB ⟨rfl,rfl⟩
 ·have hft : (r.map nPV).filter (fun uu=>true) = r.map nPV:=List.filter_eq_self.mpr fun uu uu=>rfl
  rw [hft]
  refine zcu<|zh a2 ?_
  have g : (H ++ [MObj.list [.int top]])[H.length]? = some (.list [.int top]):=zY (k:=0) rfl
  have e1 : ((r.map nPV).map decF) ++ [.int top] = (vR top (0 :: r)).map nPV:=by
   unfold vR
   rw [List.map_append]
   congr 1
   rw [List.map_map,List.map_map]
   refine List.map_congr_left fun x hx=>?_
   have:=(List.pairwise_cons.mp hp).1 x hx
   show PV.int ((x : Int) - 1) = PV.int ((x - 1 : Nat) : Int)
   congr 1
   exact zc7 this
  refine ⟨.lst (((r.map nPV).map decF) ++ [.int top]),_,?_,by rw [e1];exact q⟩
  exact (zr (yv g)).trans (zA (by rw [List.length_map,List.length_map];simp only [List.length_cons,List.length_nil];unfold lim;exact zu1 hl rfl))
theorem zrs : 4 < 2 ^ 1000:=by decide
theorem zqy (m bits : Nat) {nv : PV} (hb : 1 ≤ bits ∧ bits ≤ 32) (hnv : nv = .none ∨ ∃ x : Nat,nv = .int x) (hp : Pen H pe) (q : ∀ H' l,Cut l bits → Pen H' pe → PK pe H H' → H.length ≤ H'.length → Q (spL l) H') : S2 (zs PP (m + 120) (.fn 736) [.loc pe,.int bits,nv] H) Q:=by
 have hpe : pe < H.length:=by obtain ⟨a,tl,h,_⟩:=hp;exact (List.getElem?_eq_some_iff.mp h).1
 have h0 : 0 < 2 ^ bits:=Nat.pow_pos (by decide)
 have et : (2 : Int) ^ ((bits : Int)).toNat - 1 = ((2 ^ bits - 1 : Nat) : Int):=by rw [Int.toNat_natCast,ya];exact zc7 h0
 have p1 : Pen (H ++ [.list [.int 0]]) pe:=by obtain ⟨a,tl,h,ht⟩:=hp;exact ⟨a,tl,yl h,ht⟩
 have c1 : (H ++ [MObj.list [.int 0]])[H.length]? = some (.list ([0].map nPV)):=zY (k:=0) rfl
 refine zD rfl rfl<|jI<|za<|zo<|zo<|zc rfl<|zc rfl<|jH ⟨by exact Int.natCast_nonneg _,by exact zc2 hb.2 rfl,by decide⟩<|zc rfl<|yB ?_
 rw [et]
 refine za<|zcu<|zc rfl<|zi ⟨_,rfl,?_⟩
 refine jN<|za<|zc rfl<|za<|qP (many:=4) (by decide) zrs rfl p1 rfl fun H2 r1 b1 p2 k2 l2=>zi ⟨z7 r1 fun i=>(i : Int),?_,?_⟩
 ·have hd : ((r1 : Nat) : Int) ≤ 1000 ∧ (-1000 : Int) ≤ ((r1 : Nat) : Int):=by lia
  exact (zr (zA hd)).trans rfl
 ·have hne : pe ≠ H.length:=by exact Nat.ne_of_lt hpe
  refine zi8 (m + 34) (ce:=H.length) hb hnv hne H2 _ _ H2 [0] ?_ ⟨List.nodup_cons.mpr ⟨List.not_mem_nil,List.nodup_nil⟩,List.mem_cons_self ..,fun x hx=>?_⟩ p2 (k2 _ _ hne.symm c1) (fun uu uu uu uu h=>h) rfl ⟨rfl,rfl,rfl,rfl,rfl⟩ fun L3 H3 cs hl hcs p3 c3 K3 l3 F=>?_
  ·unfold z7
   rw [List.length_map,List.length_range]
   simp only [List.length_cons,List.length_nil];exact b1
  ·rcases List.mem_cons.mp hx with rfl | h
   ·exact Nat.zero_le _
   ·cases h
  ·obtain ⟨r,hs,hr1,hr2,hr3⟩:=zlp hcs hl
   have hcut:=zu5 hr1 hr2 hr3
   have hpe3 : pe < H3.length:=by obtain ⟨a,tl,h,_⟩:=p3;exact (List.getElem?_eq_some_iff.mp h).1
   refine zj<|ze rfl<|za<|zh F.c<|zi<|zun c3 (by exact zu2 hl rfl) ?_
   rw [hs]
   have fm : ((yC (2 ^ bits - 1) (0 :: r)).map fun p=>((nPV p.1,nPV p.2) : PV × PV)).filter (fun uu=>true) = (yC (2 ^ bits - 1) (0 :: r)).map fun p=>((nPV p.1,nPV p.2) : PV × PV):=List.filter_eq_self.mpr fun uu uu=>rfl
   refine zt<|zcw (H2:=H3 ++ [.list [.int (2 ^ bits - 1 : Nat)]]) (by decide) ((yC (2 ^ bits - 1) (0 :: r)).map fun p=>(nPV p.1,nPV p.2)) (fun v=>.tup [v.1,v.2]) (fun uu=>true) ?_ ?_ ?_ ?_ ?_
   ·refine za<|zc rfl<|za<|zh rfl<|za<|zux hr1 hr2 rfl F.t<|zi ⟨rfl,?_⟩
    show some (Src.vals (zbn ((0 :: r).map nPV) ((vR (2 ^ bits - 1) (0 :: r)).map nPV))) = _
    rw [zak,List.map_map]
    rfl
   ·rw [List.length_map,vH];unfold lim;exact zu1 hr1 rfl
   ·intro v hv L1 b1 b2 b3 H1
    exact ⟨true,H1,rfl,rfl,rfl⟩
   ·intro v hv hp L1 b1 b2 b3 H1
    exact z8<|za<|zh b1<|za<|zh b2<|zi ⟨rfl,rfl⟩
   ·rw [fm,List.map_map]
    have l0 : (H ++ [MObj.list [.int 0]]).length = H.length + 1:=by rw [List.length_append];rfl
    exact q _ _ hcut (by obtain ⟨a,tl,h,ht⟩:=p3;exact ⟨a,tl,yl h,ht⟩) (fun i ob d1 d2=>by
     have hi:=(List.getElem?_eq_some_iff.mp d2).1
     exact yl (K3 i ob d1 (by exact Nat.ne_of_lt hi) (k2 i ob d1 (yl d2)))) (by rw [List.length_append];lia)
end Mine
namespace Mine
open PySem
variable {n : Nat} {L : Loc} {H H' T : Hp} {Q : PV → Hp → Prop} {QX : Fl → Loc → Hp → Prop} {v : PV} {pe : Nat} {f : Fd} {e : Ex} {E : En}
theorem Facts.keep {fa mark iif : Nat} {d : List UInt8} (F : Facts H fa d mark iif) (k : H'[fa]? = H[fa]?) : Facts H' fa d mark iif:=⟨by rw [k];exact F.f,F.dl,F.ml,F.il⟩
theorem zto {E1 E2 : En} (h1 : E1.mark = E2.mark) (h2 : E1.iif = E2.iif) (h3 : E1.data = E2.data) : f.val E1 = f.val E2:=by
 cases f with
 | mark=>show some E1.mark = some E2.mark;rw [h1]
 | iif=>show some E1.iif = some E2.iif;rw [h2]
 | pay b ff=>rw [jY,jY,h3]
theorem zrb {E1 E2 : En} (h1 : E1.mark = E2.mark) (h2 : E1.iif = E2.iif) (h3 : E1.data = E2.data) : qu f e E1 = qu f e E2:=by unfold qu;rw [zto h1 h2 h3]
theorem zra : qu f e E = .none ∨ ∃ x : Nat,qu f e E = .int x:=by
 unfold qu
 cases f.val E with
 | none=>exact .inl rfl
 | some x=>exact .inr ⟨_,rfl⟩
theorem zp3 (hf : FdOk f) : 1 ≤ zG f e ∧ zG f e ≤ 32:=by
 have h1 : 1 ≤ f.bits:=by
  cases f with
  | mark=>decide
  | iif=>decide
  | pay b ff=>exact hf.1
 have h2:=(ji hf).1
 have h3:=zbc hf e
 refine ⟨?_,h3⟩
 cases e with
 | xor k=>show 1 ≤ 8 * f.sz;lia
 | _=>exact h1
structure LO (L : Loc) (fd fa g : Nat) (f : Fd) (e : Ex) (l : List Sp) (nv : PV) : Prop where
 d : L 51 = some (.loc fd)
 a : L 273 = some (.loc fa)
 x : L 54 = some e.pv
 s : L 303 = some (spL l)
 n : L 102 = some nv
 g : L 104 = some (.int g)
theorem vN (m : Nat) {fd fa g ho mark iif : Nat} {d : List UInt8} {l : List Sp} (hf : FdOk f) (he : ExOk f e) (hg : g ≤ 12) (hc : Cut l (zG f e)) (hho : Ho ho) (F : Facts H fa d mark iif) (hd : H[fd]? = some (.dict [(271,f.pv)])) (O : LO L fd fa g f e l (qu f e (EnF mark iif d))) (h69 : L 69 = some (.str ho)) (q : ∀ H',Keeps H H' → QX .next L H') :
  SX (execs PP (m + 450) [.ifs (.not (.call (.glob 308) [.call (.glob 290) [.loc 51,.loc 273,.loc 69],.loc 54,.loc 303,.loc 102,.loc 104])) [.ret (.cbool false)] []] L H) QX:=by
 refine zu<|zth<|c_e rfl<|ze rfl<|za<|ze rfl<|za<|zh O.d<|za<|zh O.a<|za<|zh h69<|zi<|zec _ hho F fun H1 E K1 hE hB e1 e2 e3 e4 e5 hsn=>za<|zh O.x<|za<|zh O.s<|za<|zh O.n<|za<|zh O.g<|zi ?_
 have hv : qu f e (EnF mark iif d) = qu f e E:=zrb e3.symm e4.symm e5.symm
 rw [hv]
 refine zg2 _ hf he hg hc hE hB (by rw [e1];exact K1 _ _ (List.getElem?_eq_some_iff.mp hd).1 hd) fun H2 K2=>⟨true,rfl,zf<|zf<|q _ fun i ob h1 h2=>K2 i ob (by have:=K1.len;exact Nat.lt_of_lt_of_le h1 K1.len) (by exact zn7 h1 hsn) (K1 i ob h1 h2)⟩
theorem LO.set {fd fa g ho : Nat} {l : List Sp} {nv : PV} (O : LO L fd fa g f e l nv) : LO (z5 L 69 (.str ho)) fd fa g f e l nv:=⟨O.d,O.a,O.x,O.s,O.n,O.g⟩
theorem KK {H1 : Hp} (K : Keeps H H1) {i : Nat} {ob : MObj} (h : H[i]? = some ob) : H1[i]? = some ob:=K i ob (List.getElem?_eq_some_iff.mp h).1 h
theorem Facts.up {H1 : Hp} {fa mark iif : Nat} {d : List UInt8} (F : Facts H fa d mark iif) (K : Keeps H H1) : Facts H1 fa d mark iif:=⟨KK K F.f,F.dl,F.ml,F.il⟩
theorem zd0 : ∀ (l : List Int) (a : Int),∃ z,zgj (l.map .int) a = some z
 | [],a=>⟨a,rfl⟩
 | x :: r,a=>zd0 r (a + x)
theorem zar (l : List Int) (a b c : Option Int) : ∃ l2 : List Int,yx (l.map PV.int) a b c = l2.map PV.int:=by
 unfold yx
 rw [List.length_map]
 generalize sliceRange _ _ _ = r
 induction r with
 | nil=>exact ⟨[],rfl⟩
 | cons i r ih =>
  obtain ⟨l2,h⟩:=ih
  rw [List.filterMap_cons,List.getElem?_map]
  cases l[i]? with
  | none=>exact ⟨l2,h⟩
  | some x=>exact ⟨x :: l2,by rw [List.map_cons,← h];rfl⟩
theorem zna {α : Type} (l : List α) (a b c : Option Int) : (yx l a b c).length ≤ (sliceRange (sliceBounds a b c l.length).1 (sliceBounds a b c l.length).2.1 (sliceBounds a b c l.length).2.2).length:=List.length_filterMap_le ..
theorem zud {α : Type} (l : List α) (h : l.length ≤ 63) : (yx l none (some 63) none).length ≤ 1000:=by
 refine Nat.le_trans (zna ..) ?_
 unfold sliceRange sliceBounds
 simp only [List.length_map,List.length_range]
 split <;> split <;> simp_all <;> lia
theorem zs9 {m : Nat} (l : List Int) (q : ∀ z : Int,Q (.int z) H) : S2 (zs PP (m + 3) (.bi 2) [.lst (l.map .int)] H) Q:=by
 refine cp fun nq=>?_
 obtain ⟨z,hz⟩:=zd0 l 0
 refine nq ?_
 exact kx (r:=.int z) (H1:=H) (zr hz) (q z)
theorem zjy {m : Nat} {a : ME} (h : S2 (evE PP (m + 4) a L H) fun v H1=>∃ z : Int,v = .int z ∧ ∀ t : Nat,Q (.int t) H1) : S2 (evE PP (m + 5) (.bin .Mod a (.bin .Pow (.cint 10) (.cint 60))) L H) Q:=by
 refine zo<|h.mono fun v H1 ⟨z,e1,q⟩=>?_
 subst e1
 refine zo<|zc rfl<|zc rfl<|jH (by decide) ?_
 have h0 : (0 : Int) < 10 ^ (60 : Int).toNat:=Int.pow_pos (by decide)
 refine yH (by exact by simp) ?_
 have h1 : 0 ≤ z.fmod (10 ^ (60 : Int).toNat):=by
  rw [Int.fmod_eq_emod_of_nonneg _ (by exact by simp)]
  exact Int.emod_nonneg _ (by exact by simp)
 obtain ⟨t,ht⟩ : ∃ t : Nat,z.fmod (10 ^ (60 : Int).toNat) = t:=⟨_,(Int.toNat_of_nonneg h1).symm⟩
 exact ht ▸ q t
theorem zr7 {m k : Nat} {a : ME} (h : S2 (evE PP (m + 1) a L H) fun v H1=>Q (.loc H1.length) (H1 ++ [.dict [(k,v)]])) : S2 (evE PP (m + 3) (.dict [k] [a]) L H) Q:=by
 refine cp fun nq=>?_
 obtain ⟨v,H1,h1,q⟩:=h
 refine nq ?_
 have e : yO PP (m + 2) [a] L H = some ([v],H1):=(zI h1).trans rfl
 exact ⟨_,_,(zI e).trans rfl,q⟩
end Mine
namespace Mine
open PySem
variable {n : Nat} {L : Loc} {H H' T : Hp} {Q : PV → Hp → Prop} {QX : Fl → Loc → Hp → Prop} {v : PV} {pe : Nat} {f : Fd} {e : Ex} {E : En}
theorem ztq : 2 < 2 ^ 1000:=by decide
theorem lt13 : 13 < 2 ^ 1000:=by decide
structure LP (L : Loc) (fa : Nat) (sc : List Int) : Prop where
 s : L 314 = some (.lst (sc.map .int))
 a : L 273 = some (.loc fa)
theorem zej (m k : Nat) (hk : k < 2) {fa mark iif : Nat} {d : List UInt8} {sc : List Int} (hs : sc.length ≤ 1000) (tl : List Nat) (ht : tl.length ≤ 100) (F : Facts H fa d mark iif) (P : LP L fa sc) (h1 : L 315 = some (.int k)) (h2 : L 264 = some (.lst (tl.map nPV))) (q : ∀ L' H',LP L' fa sc → Keeps H H' → QX .next L' H') :
  SX (execs PP (m + 500) [.assign (.name 263) (.bin .Add (.lst [.bin .Mod (.call (.glob 276) [.slice (.loc 314) (.loc 315) .cnone (.cint 2)]) (.bin .Pow (.cint 10) (.cint 60))]) (.loc 264)),.assign (.name 51) (.call (.glob 267) [.loc 263]),.assign (.tup [.name 54,.name 9,.name 102]) (.call (.glob 272) [.loc 263,.loc 51,.loc 273]),.swap [303,104,269] (.tup [.call (.glob 281) [.loc 263,.loc 9,.loc 102],.call (.glob 262) [.loc 263,.cint 13],.call (.glob 262) [.loc 263,.cint 2]]),.assign (.name 316) (.ite (.cmp .Eq (.loc 315) (.cint 0)) (.lst [.cstr 87,.cstr 86]) (.lst [.sub (.lst [.cstr 87,.cstr 86]) (.loc 269)])),.for [69] 0 [.loc 316] [.ifs (.not (.call (.glob 308) [.call (.glob 290) [.loc 51,.loc 273,.loc 69],.loc 54,.loc 303,.loc 102,.loc 104])) [.ret (.cbool false)] []]] L H) QX:=by
 have hfa : fa < H.length:=(List.getElem?_eq_some_iff.mp F.f).1
 obtain ⟨l2,hl2⟩:=zar sc (some (k : Int)) none (some 2)
 refine zj<|zo<|zcu<|zjy<|ze rfl<|za<|qi<|zh P.s<|zh h1<|zc rfl<|zc rfl ⟨.lst (l2.map .int),?_,zi<|zs9 l2 fun z=>⟨z,rfl,fun t=>zh h2 ?_⟩⟩
 ·exact (zA ⟨by decide,by rw [List.length_map];unfold lim;lia⟩).trans (by rw [hl2])
 have g0 : (H ++ [MObj.list [.int (t : Int)]])[H.length]? = some (.list [.int (t : Int)]):=zY (k:=0) rfl
 have l0 : (H ++ [MObj.list [.int (t : Int)]]).length = H.length + 1:=by rw [List.length_append];rfl
 refine ⟨.loc (H ++ [MObj.list [.int (t : Int)]]).length,(H ++ [MObj.list [.int (t : Int)]]) ++ [.list ([.int (t : Int)] ++ tl.map nPV)],?_,?_⟩
 ·exact (zr (yv g0)).trans (zA (by rw [List.length_map];simp only [List.length_cons,List.length_nil];unfold lim;lia))
 have p1 : Pen ((H ++ [MObj.list [.int (t : Int)]]) ++ [.list ([.int (t : Int)] ++ tl.map nPV)]) (H ++ [MObj.list [.int (t : Int)]]).length:=⟨t,tl,zY (k:=0) rfl,ht⟩
 have K1 : Keeps H ((H ++ [MObj.list [.int (t : Int)]]) ++ [.list ([.int (t : Int)] ++ tl.map nPV)]):=ye.trans ye
 rw [l0] at p1 ⊢
 have l1 : ((H ++ [MObj.list [.int (t : Int)]]) ++ [MObj.list ([.int (t : Int)] ++ tl.map nPV)]).length = H.length + 2:=by rw [List.length_append,l0];rfl
 generalize (H ++ [MObj.list [.int (t : Int)]]) ++ [MObj.list ([.int (t : Int)] ++ tl.map nPV)] = H1 at *
 clear g0 l0
 have up : ∀ {Ha Hb : Hp},Keeps H Ha → PK (H.length + 1) Ha Hb → Keeps H Hb:=fun k1 k2 i ob a b=>k2 i ob (by lia) (k1 i ob a b)
 refine zj<|ze rfl<|zn rfl<|zm3 _ p1 fun H2 fd f hf hd p2 k2 lf l2'=>?_
 have K2:=up K1 k2
 have F2:=F.up K2
 refine jA<|ze rfl<|za<|zc rfl<|za<|zc rfl<|za<|zh P.a<|zi<|zq4 _ hf p2 F2 hd fun H3 e he p3 k3 l3=>⟨_,_,rfl,?_⟩
 have hfd : fd ≠ H.length + 1:=by lia
 have hd3:=k3 _ _ hfd hd
 have K3:=up K2 k3
 refine jI<|za<|ze rfl<|zn rfl<|zqy _ (zG f e) (zp3 hf) zra p3 fun H4 l hc p4 k4 l4=>za<|qP (many:=13) (by decide) lt13 rfl p4 rfl fun H5 g hg p5 k5 l5=>za<|qP (many:=2) (by decide) ztq rfl p5 rfl fun H6 w hw p6 k6 l6=>zi ⟨_,rfl,?_⟩
 have K6:=up (up (up K3 k4) k5) k6
 have hd6:=k6 _ _ hfd (k5 _ _ hfd (k4 _ _ hfd hd3))
 have F6:=F.up K6
 have fin : ∀ {L' : Loc} {H7 : Hp},L' 314 = some (.lst (sc.map .int)) → L' 273 = some (.loc fa) → Keeps H6 H7 → QX .next L' H7:=fun a1 a2 K=>q _ _ ⟨a1,a2⟩ (K6.trans K)
 match k,hk,h1 with
 | 0,_,h1 =>
  refine zj<|jx<|zE<|zh h1<|zc rfl ⟨true,rfl,zc rfl<|jN<|zn rfl ⟨_,rfl,zV rfl ?_⟩⟩
  refine vN (m + 43) hf he (by lia) hc (.inr rfl) F6 hd6 ⟨rfl,P.a,rfl,rfl,rfl,rfl⟩ rfl fun H7 K7=>?_
  refine zV rfl<|vN (m + 43) hf he (by lia) hc (.inl rfl) (F6.up K7) (KK K7 hd6) ⟨rfl,P.a,rfl,rfl,rfl,rfl⟩ rfl fun H8 K8=>jw<|zf<|fin P.s P.a (K7.trans K8)
 | 1,_,h1 =>
  obtain ⟨ho,hho,hw2⟩ : ∃ ho,Ho ho ∧ qr (.lst [.str 87,.str 86]) (.int w) H6 = some (.str ho):=match w,hw with
   | 0,_=>⟨87,.inr rfl,rfl⟩
   | 1,_=>⟨86,.inl rfl,rfl⟩
  have g : (H6 ++ [MObj.list [.str ho]])[H6.length]? = some (.list [.str ho]):=zY (k:=0) rfl
  refine zj<|jx<|zE<|zh h1<|zc rfl ⟨false,rfl,zcu<|zZ<|zc rfl<|zc rfl ⟨.str ho,hw2,zme<|za<|zc rfl<|zi ⟨H6.length,?_,?_⟩⟩⟩
  ·exact zi7 g
  ·refine zoy (n:=1999) g rfl rfl<|vN (m + 43) hf he (by lia) hc hho (F6.up ye) (KK ye hd6) ⟨rfl,P.a,rfl,rfl,rfl,rfl⟩ rfl fun H7 K7=>zoz (n:=1998) (KK K7 g) rfl<|zf<|fin P.s P.a (ye.trans K7)
end Mine
namespace Mine
open PySem
variable {n : Nat} {L : Loc} {H H' T : Hp} {Q : PV → Hp → Prop} {QX : Fl → Loc → Hp → Prop}
noncomputable def zb9 (t k : Nat) : Nat:=(53 * k * k + 90 * k + 7 + t / 7 ^ k) % 256
noncomputable def qR (t : Nat) : List UInt8:=(List.range 12).map fun k=>UInt8.ofNat (zb9 t k)
theorem znh (t : Nat) : qp (qR t) = .lst ((List.range 12).map fun k=>.int (zb9 t k : Nat)):=by
 unfold qp qR
 rw [List.map_map]
 congr 1
 refine List.map_congr_left fun k uu=>?_
 show PV.int ((UInt8.ofNat (zb9 t k)).toNat : Nat) = _
 have : (UInt8.ofNat (zb9 t k)).toNat = zb9 t k % 256:=UInt8.toNat_ofNat
 rw [this,show zb9 t k % 256 = zb9 t k from Nat.mod_mod _ _]
noncomputable def octF (t : Nat) : PV → PV
 | .int k=>.int (zb9 t k.toNat : Nat)
 | v=>v
theorem lt712 : 7 ^ 12 < 2 ^ 1000:=by decide
theorem zo8 {m t : Nat} (h1 : L 274 = some (.int t)) (q : Q (qp (qR t)) H) : S2 (evE PP (m + 60) (.comp (.bin .Mod (.bin .Add (.bin .Add (.bin .Add (.bin .Mult (.bin .Mult (.cint 53) (.loc 277)) (.loc 277)) (.bin .Mult (.cint 90) (.loc 277))) (.cint 7)) (.bin .FloorDiv (.loc 274) (.bin .Pow (.cint 7) (.loc 277)))) (.cint 256)) [277] 1 [.glob 81,.cint 12] []) L H) Q:=by
 refine vn (z7 12 fun i=>(i : Int)) (octF t) (fun uu=>true) (zn rfl ⟨rfl,rfl⟩) (by decide) ?_ ?_ ?_
 ·intro v hv L1 b1 b2 H1
  exact ⟨true,H1,rfl,rfl,rfl⟩
 ·intro v hv hp L1 b1 b2 H1
  obtain ⟨k,hk,rfl⟩:=List.mem_map.mp hv
  have hk:=List.mem_range.mp hk
  have b1 : L1 277 = some (.int (k : Nat)):=b1
  have h2 : L1 274 = some (.int t):=by rw [b2 274 (by decide)];exact h1
  have p7 : (7 : Int) ^ ((k : Int)).toNat = ((7 ^ k : Nat) : Int):=by rw [Int.toNat_natCast,Int.natCast_pow];rfl
  have h7 : 0 < 7 ^ k:=Nat.pow_pos (by decide)
  have h8 : 7 ^ k ≤ 7 ^ 12:=Nat.pow_le_pow_right (by decide) (by exact Nat.le_of_lt hk)
  have h9 : 7 ^ k < 2 ^ 1000:=Nat.lt_of_le_of_lt h8 lt712
  refine zo<|zo<|zo<|zo<|zo<|zo<|zc rfl<|zh b1<|yP (.inl (by decide))<|zh b1<|yP (.inr (by exact zu1 hk rfl))<|zo<|zc rfl<|zh b1<|yP (.inl (by decide))<|yc<|zc rfl<|yc<|zo<|zh h2<|zo<|zc rfl<|zh b1<|jH ⟨by exact Int.natCast_nonneg _,by exact zc3 hk rfl,by decide⟩ ?_
  rw [p7]
  refine yW ⟨by exact zc4 h7,by rw [Int.natAbs_natCast];exact h9⟩ ?_
  rw [jc]
  refine yc<|zc rfl<|yH (by decide) ⟨?_,rfl⟩
  show PV.int _ = PV.int ((zb9 t ((k : Int)).toNat : Nat) : Int)
  congr 1
  have e1 : (53 : Int) * (k : Int) * (k : Int) + 90 * (k : Int) + 7 + ((t / 7 ^ k : Nat) : Int) = ((53 * k * k + 90 * k + 7 + t / 7 ^ k : Nat) : Int):=by
   rw [Int.natCast_add,Int.natCast_add,Int.natCast_add,Int.natCast_mul,Int.natCast_mul,Int.natCast_mul];rfl
  rw [e1,Int.toNat_natCast]
  exact yb _ 256
 ·have hft : (z7 12 fun i=>(i : Int)).filter (fun uu=>true) = z7 12 fun i=>(i : Int):=List.filter_eq_self.mpr fun uu uu=>rfl
  rw [hft]
  unfold z7
  rw [List.map_map]
  rw [znh] at q
  exact q
theorem mod_nat {a : Int} {t : Nat} {p : Nat} (ha : 0 ≤ a) (h : a = (t : Int)) : a.fmod (p : Int) = ((t % p : Nat) : Int):=by rw [h];exact yb t p
theorem main (l : List Int) (hl : l.length ≤ 63) : ∃ n H',n ≤ 1000 ∧ zs PP n (.fn 781) [.lst (l.map .int)] [] = some (.bool true,H'):=by
 have z : S2 (zs PP (0 + 600) (.fn 781) [.lst (l.map .int)] []) fun v H'=>v = .bool true:=by
  obtain ⟨sc,hsc⟩:=zar l none (some 63) none
  have hs : sc.length ≤ 1000:=by
   have:=zud (l.map PV.int) (by rw [List.length_map];exact hl)
   rw [hsc,List.length_map] at this
   exact this
  refine zD rfl rfl<|zj<|qi<|zc rfl<|zc rfl<|zc rfl<|zc rfl ⟨.lst (sc.map .int),?_,zj<|zjy<|ze rfl<|zn rfl<|zs9 sc fun z=>⟨z,rfl,fun t=>?_⟩⟩
  ·exact (zA ⟨by decide,by rw [List.length_map];unfold lim;exact zu2 hl rfl⟩).trans (by rw [hsc])
  refine zj<|zr7<|zo8 rfl ?_
  have g0 : ∀ {es : List (Nat × PV)},([] ++ [MObj.dict es] : Hp)[([] : Hp).length]? = some (.dict es):=rfl
  have e1 : (291 : Int) + (t : Int) = ((291 + t : Nat) : Int):=by rw [Int.natCast_add];rfl
  have e2 : (280 : Int) + (t : Int) = ((280 + t : Nat) : Int):=by rw [Int.natCast_add];rfl
  have p32 : (2 : Int) ^ (32 : Int).toNat = ((2 ^ 32 : Nat) : Int):=by rw [ya];rfl
  have p16 : (2 : Int) ^ (16 : Int).toNat = ((2 ^ 16 : Nat) : Int):=by rw [ya];rfl
  refine zaf<|z8<|za<|zo<|zo<|zc rfl<|zc rfl<|yc<|zo<|zc rfl<|zc rfl<|jH (by decide) ?_
  rw [p32,e1]
  refine yH (by decide) ?_
  rw [yb]
  refine za<|zo<|zo<|zc rfl<|zc rfl<|yc<|zo<|zc rfl<|zc rfl<|jH (by decide) ?_
  rw [p16,e2]
  refine yH (by decide) ?_
  rw [yb]
  refine zi ⟨_,_,rfl,zc rfl<|zc rfl ⟨_,rfl,zc rfl<|zc rfl ⟨_,rfl,?_⟩⟩⟩
  change SX (execs PP _ _ _ [MObj.dict [(75,qp (qR t)),(155,.int ((291 + t) % 2 ^ 32 : Nat)),(162,.int ((280 + t) % 2 ^ 16 : Nat))]]) _
  have F : Facts [MObj.dict [(75,qp (qR t)),(155,.int ((291 + t) % 2 ^ 32 : Nat)),(162,.int ((280 + t) % 2 ^ 16 : Nat))]] 0 (qR t) ((291 + t) % 2 ^ 32) ((280 + t) % 2 ^ 16):=⟨rfl,by unfold qR;rw [List.length_map,List.length_range],Nat.mod_lt _ (by decide),Nat.mod_lt _ (by decide)⟩
  generalize [MObj.dict [(75,qp (qR t)),(155,.int ((291 + t) % 2 ^ 32 : Nat)),(162,.int ((280 + t) % 2 ^ 16 : Nat))]] = H0 at *
  generalize (291 + t) % 2 ^ 32 = mark at *
  generalize (280 + t) % 2 ^ 16 = iif at *
  refine jN<|zn rfl ⟨_,rfl,zV rfl ?_⟩
  refine zej (fa:=0) (sc:=sc) 91 0 (by decide) hs [0,0,0,0,0,2,0,1,0,3,11,0] (by decide) F ⟨rfl,rfl⟩ rfl rfl fun L1 H1 P1 K1=>?_
  refine zV rfl<|zej (fa:=0) (sc:=sc) 91 1 (by decide) hs [2,13,8,3,341,3,0,2,2,77,1,5,4,0] (by decide) (F.up K1) ⟨P1.s,P1.a⟩ rfl rfl fun L2 H2 P2 K2=>jw<|zt<|zc rfl rfl
 refine cp fun nq=>?_
 obtain ⟨v,H',h,rfl⟩:=z
 refine nq ?_
 exact ⟨600,H',by decide,h⟩
end Mine
namespace Mine
open PySem PySem.W PySem.Calls PyProof.Rows PySem.Spec
noncomputable def YP (w : World) (h : Heap) : Prop:=∃ K,Chk K ∧ K.In h
theorem zqk (w : World) (h h' : Heap) (y : YP w h) (k : ∀ b o,h.get? b = some o → h'.get? b = some o) : YP w h':=by
 obtain ⟨K,c,x⟩:=y
 exact ⟨K,c,fun a o e=>k _ _ (x a o e)⟩
noncomputable def nsO (name : Str) : Option Obj → Option (Option Value)
 | some ⟨_,_,.dict es _,_⟩=>(match es.toList.find? (·.key.isStr name) with
   | some e=>some (some e.val)
   | none=>if es.toList.any (·.refKey) then none else some none)
 | _=>none
theorem zrt {c : Prop} {_ : Decidable c} {v : Value} : ∀ {o : Option DictEntry},(match o with | some e=>some (some e.val) | none=>if c then none else some none) = some (some v) → ∃ en,o = some en ∧ en.val = v
 | some en,e=>⟨en,rfl,Option.some.inj (Option.some.inj e)⟩
 | none,e=>by
  by_cases q : c
  ·rw [if_pos q] at e;exact zd e
  ·rw [if_neg q] at e;exact zd (Option.some.inj e)
theorem zrf {name : Str} {v : Value} : ∀ {r : Option Obj},nsO name r = some (some v) → ∃ o es ep en,r = some o ∧ o.data = .dict es ep ∧ es.toList.find? (·.key.isStr name) = some en ∧ en.val = v
 | some ⟨c,d,dt,sl⟩,e=>by
  cases dt with
  | dict es ep =>
   obtain ⟨en,h1,h2⟩:=zrt (o:=es.toList.find? (·.key.isStr name)) e
   exact ⟨_,es,ep,en,rfl,rfl,h1,h2⟩
  | _=>exact zd e
 | none,e=>zd e
theorem znk {K : Frag} {h : Heap} (x : K.In h) {ns : Addr} {name : Str} {v : Value} (e : nsIn K ns name = some (some v)) : h.nsMap ns name = some v:=by
 obtain ⟨o,es,ep,en,h1,h2,h3,h4⟩:=zrf (r:=K.lookup ns) e
 obtain ⟨c,d,dt,sl⟩:=o
 cases h2
 unfold Heap.nsMap
 rw [x _ _ h1]
 show nsFind es name = some v
 unfold nsFind findBy
 rw [← Array.find?_toList]
 show (List.find? (fun e : DictEntry=>e.key.isStr name) es.toList).map (·.val) = _
 rw [h3]
 exact congrArg some h4
theorem zum {K : Frag} (c : Chk K) : nsIn K mainGlobals (nm 313) = some (some (.ref 781)):=by
 have z:=c.glob (313,.fn 781) (yU (m:=313) (v:=PV.fn 781) rfl)
 revert z;refine zk fun r hr=>kN (fun u hu z=>?_) fun hu=>zk fun r2 hr2=>zk fun u2 hu2 z=>?_
 ·obtain ⟨a,rfl,q⟩:=zfa z
  exact hr.trans (congrArg some (hu.trans (PV.noConfusion q fun q=>q ▸ rfl)))
 ·obtain ⟨k,_,e⟩:=zp5 z
  exact PV.noConfusion e
theorem zjn {R : WRecords} {cl : Str → Option Addr} {h : Heap} {ρ : List Addr} : ∀ {xs : List WData} {vs : List Value} {as : List Addr},WShape.hasItems R xs .int = true → ReadsAllW R cl h vs xs as → ∃ l : List Int,l.length = xs.length ∧ VRs h ρ (l.map .int) vs
 | [],vs,as,e,r=>by cases r;exact ⟨[],rfl,rfl⟩
 | x :: xs,vs,as,e,r=>by
  have e' : WShape.has R x .int = true ∧ WShape.hasItems R xs .int = true:=Bool.and_eq_true_iff.mp e
  obtain ⟨i,rfl⟩:=hasW_int e'.1
  cases r with
  | cons r1 r2 =>
   cases r1
   obtain ⟨l,h1,h2⟩:=zjn (ρ:=ρ) e'.2 r2
   exact ⟨i :: l,by rw [List.length_cons,List.length_cons,h1],VRs.cons ⟨_,rfl⟩ h2⟩
theorem zed (n : Nat) (h : n ≤ 1000) : Room callerA n:=by
 refine ⟨?_,?_,rfl⟩
 ·show 3 * callerA.depth + n + 30 < 3 * recursionLimit
  have : callerA.depth = 1 + claimMargin:=rfl
  have : claimMargin ≤ 600:=by decide
  have : recursionLimit = 1000:=rfl
  lia
 ·show callerA.units + 4 * n + 100 < cLine
  have : callerA.units ≤ 100:=by decide
  have : cLine = 9900:=rfl
  lia
theorem zub (xs : List WData) : WTm.holds [] (.and (.not (.lt (.lit (.int 63)) (.len (.arg 0)))) (.lit (.bool true))) { args:=[.list xs] } = WTm.holds [] (.and (.not (.lit (.bool (decide ((63 : Int) < (xs.length : Int)))))) (.lit (.bool true))) { args:=[] }:=by kernel_rfl
theorem zq6 {xs : List WData} (p2 : WTm.holds [] (.and (.not (.lt (.lit (.int 63)) (.len (.arg 0)))) (.lit (.bool true))) { args:=[.list xs] } = true) : xs.length ≤ 63:=by
 refine Nat.le_of_not_lt fun q=>?_
 rw [zub,decide_eq_true (show (63 : Int) < (xs.length : Int) from Int.ofNat_lt.mpr q)] at p2
 exact absurd p2 (by decide +kernel)
theorem zrn {a : Addr} {h : Heap} (y : ∃ K,Chk K ∧ K.In h) (hns : h.nsMap mainGlobals dl1.1.name = some (.ref a)) : a = 781:=by
 obtain ⟨K0,c0,x0⟩:=y
 rw [zr8,znk x0 (zum c0)] at hns
 cases hns;rfl
theorem zoh {R : WRecords} {args : List WData} (p1 : WShape.hasAll R args [.list .int] = true) : ∃ xs,args = [.list xs] ∧ WShape.hasItems R xs .int = true:=by
 obtain ⟨d,r,rfl,p3,p4⟩:=hasAllW_cons p1
 cases hasAllW_nil p4
 obtain ⟨xs,rfl,p5⟩:=hasW_list p3
 exact ⟨xs,rfl,p5⟩
theorem zqn (main : ∀ l : List Int,l.length ≤ 63 → ∃ n H',n ≤ 1000 ∧ zs PP n (.fn 781) [.lst (l.map .int)] [] = some (.bool true,H')) : WalkN qv lse (fun uu uu=>True) YP rw0.row.toRowW dl1.1 dl1.2:=by
 intro w s₀ s₁ mg mb G Y a o pm cd doc dV kV ho hd hcd hD hmg hg args vals as L hpre hlay hrd hwl Y0 hns
 obtain rfl:=zrn Y0 hns
 obtain ⟨K,c,x⟩:=Y
 obtain ⟨p1,p2⟩:=pre_splitW hpre
 clear hns hpre hlay L hwl ho hd hcd hD hmg Y0
 obtain ⟨xs,rfl,p5⟩:=zoh p1
 have hlen : xs.length ≤ 63:=zq6 p2
 cases hrd with
 | cons r1 r2 =>
  cases r2
  cases r1 with
  | list g1 g2 g3 g4 =>
   obtain ⟨l,l1,l2⟩:=zjn (ρ:=[]) p5 g4
   obtain ⟨n,H',hn,he⟩:=main l (by rw [l1];exact hlen)
   have T : TopC pw w K s₁.heap PP:=zqo x c G.T.nolimit
   have R : Rel pw w s₁.heap [] [] s₁.heap:=⟨fun uu uu e=>e,rfl,fun uu h=>(nomatch h),fun i m a h=>by cases h⟩
   have CO : CallOk pw w s₁.heap PP n:=(sound T n).call
   refine CO he R rfl (VRs.one ⟨_,_,rfl,fun h=>(nomatch h),⟨_,g1,g2,_,by rw [g3]⟩,l2⟩) (zed n hn) fun s' δ val xx R' r'=>?_
   cases r'
   refine ⟨.inl ⟨.bool true,.bool true,[],rfl,fun uu=>rfl,.bool true,?_,fun uu=>⟨List.nodup_nil,fun uu h=>(nomatch h)⟩⟩,OldK.of_keep fun b o e=>R'.base b o e,xx.os,?_⟩
   ·kernel_rfl
   ·exact AllBare.of_eq (xx.gens.trans hg)
theorem zot (main : ∀ l : List Int,l.length ≤ 63 → ∃ n H',n ≤ 1000 ∧ zs PP n (.fn 781) [.lst (l.map .int)] [] = some (.bool true,H')) : rw0.Holds :=
 holds_law said fun h=>ze4 (r:=rw0.row) left (YP:=YP) (fun w s e=>⟨_,zu8 e,fun a o q=>za9 q⟩) zqk (XP:=fun uu uu=>True) (fun uu uu=>trivial) (fun uu uu uu uu uu=>trivial) dl_eq zuz dl_kw (fun uu uu=>recFacts_nil rfl) rfl h
  (by rw [zu9];show (true && opensWell pw && _) = true;rw [opens];exact freeR) bareP promR (zqn main)
end Mine
namespace Mine
theorem Last : PySem.Challenge.rw_pq1105_01.Holds:=zot main
end Mine
end Mine.Internal

theorem PySem.Challenge.cw_pq1105_01_holds : PySem.Challenge.rw_pq1105_01.Holds :=
  Mine.Internal.Mine.Last
