import PyProof.Rows.All
import Wide.All
import OpenK.AllK
import Wide.FinOn
import HandS.ForMost
import HandS.Exc
import HandS.ExcInit
import HandS.EndBits
import HandS.Wide
import KE.DatumOrd
import HandS.SortKw
import HandS.Flt
import HandS.Codes
import HandS.More
import HandS.DictComp
import HandS.SetFor
import HandS.SortRule
import KE.GoesEnum
import HandS.IsInst
import HandS.RaiseMore
import HandS.Replace
import HandS.ExcIs
import HandS.ExcField
import HandS.CallSlots
import HandS.WordsExc
import HandS.ExcOwn
import HandS.TryOnly
import PySem.Challenge.RW_flyloft_k13_what_lacks_for_balance
set_option Elab.async false
set_option linter.all false
set_option maxRecDepth 100000
set_option maxHeartbeats 4000000
namespace VI
open PySem L2

/-! value trees with ownership flags -/
inductive Fl where | own | frz | brw | vw
  deriving DecidableEq
inductive T where
  | non | bl (b : Bool) | int (i : Int) | str (s : Str)
  | tup (xs : List T) | lst (f : Fl) (xs : List T) | dic (f : Fl) (ks : List Key) (vs : List T)
  | ins (f : Fl) (c : Nat) (vs : List T) | scr (ns : List Int) | ptr (v : V) | exn (c : Nat) (vs : List T)
instance : Inhabited T := ⟨.non⟩
mutual
def T.mapF (g : Fl → Fl) : T → T
  | .tup xs => .tup (T.mapFL g xs)
  | .lst f xs => .lst (g f) (T.mapFL g xs)
  | .dic f ks vs => .dic (g f) ks (T.mapFL g vs)
  | .ins f c vs => .ins (g f) c (T.mapFL g vs)
  | .non => .non | .bl b => .bl b | .int i => .int i | .str s => .str s | .scr ns => .scr ns | .ptr v => .ptr v | .exn c vs => .exn c vs
def T.mapFL (g : Fl → Fl) : List T → List T
  | [] => []
  | x :: r => T.mapF g x :: T.mapFL g r
end
mutual
def T.has (p : Fl → Bool) : T → Bool
  | .tup xs => T.hasL p xs
  | .lst f xs => p f || T.hasL p xs
  | .dic f _ vs => p f || T.hasL p vs
  | .ins f _ vs => p f || T.hasL p vs
  | .non => false | .bl _ => false | .int _ => false | .str _ => false | .scr _ => false | .ptr _ => false | .exn _ _ => false
def T.hasL (p : Fl → Bool) : List T → Bool
  | [] => false
  | x :: r => T.has p x || T.hasL p r
end
theorem mapFL_eq (g : Fl → Fl) : ∀ xs : List T, T.mapFL g xs = xs.map (T.mapF g)
  | [] => rfl
  | x :: r => by rw [T.mapFL, mapFL_eq g r]; rfl
theorem hasL_eq (p : Fl → Bool) : ∀ xs : List T, T.hasL p xs = xs.any (T.has p)
  | [] => rfl
  | x :: r => by rw [T.hasL, hasL_eq p r]; rfl
def Fl.bor : Fl → Fl | .own => .brw | .vw => .brw | f => f
def Fl.fre : Fl → Fl | .own => .frz | f => f
def Fl.vie : Fl → Fl | .own => .vw | f => f
def Fl.isVw : Fl → Bool | .vw => true | _ => false
def Fl.isOwn : Fl → Bool | .own => true | _ => false
def Fl.isBrw : Fl → Bool | .brw => true | _ => false
/-- own or a view -/
def Fl.lent : Fl → Bool | .own => true | .vw => true | _ => false

/-! trees in the abstract heap -/
/-- what an exception's fields stand in -/
def XO : HO → Prop | .xd _ => True | _ => False
/-- the world: the written part, the classes' addresses -/
structure Wo where
  K : PySem.W.Frag
  cls : Nat → Addr
  fl : Nat → List Str
  /-- the exceptions' classes, their fields -/
  xc : Nat → Value
  xf : Nat → List Str
  /-- an exception in hand: its object, its class, its fields -/
  xr : Hp → Addr → Nat → List T → Prop
  xm : ∀ (H H' : Hp) (a : Addr) (c : Nat) (vs : List T), (∀ b o, H b = some o → XO o → H' b = some o) → xr H a c vs → xr H' a c vs
  /-- what is wanted of an exception that leaves -/
  ws : Value → Option Addr → L2.St → Hp → Prop
structure Sh where
  F : Addr → Prop
  B : Addr → Prop
  W : Addr → Prop
def Sh.at (G : Sh) : Fl → Addr → Prop
  | .own, _ => True
  | .frz, a => G.F a
  | .brw, a => G.B a
  | .vw, a => G.W a
def Fl.hd (f : Fl) (p : Addr) : List Addr := if f = .own then [p] else []
def ScrAt (Z : Wo) (G : Sh) (H : Hp) (p : Addr) (vs : List V) : Prop :=
  (G.F p ∧ Rd H p (.lst vs)) ∨ ∃ (o : Obj) (its : Array Value) (n : Nat), Z.K.lookup p = some o ∧ o.cls = .type "list" ∧ o.dict = none ∧ o.data = .seq its n ∧ its.size ≤ sizeLine ∧ Vals vs its.toList
/-- a dict stands there; what is not one's own may be locked -/
def DAt (f : Fl) (H : Hp) (p : Addr) (kvs : List (Key × V)) : Prop := H p = some (.dK kvs) ∨ (f ≠ .own ∧ ∃ o, H p = some (.frz o (.dK kvs)))
theorem DAt.ch {f f' : Fl} {H : Hp} {p : Addr} {kvs : List (Key × V)} (h : DAt f H p kvs) (k : f ≠ .own → f' ≠ .own) : DAt f' H p kvs := h.imp id fun ⟨n, o, e⟩ => ⟨k n, o, e⟩
theorem DAt.keep {f : Fl} {H H' : Hp} {p : Addr} {kvs : List (Key × V)} (h : DAt f H p kvs) (k : ∀ o, H p = some o → H' p = some o) : DAt f H' p kvs := h.imp (fun e => k _ e) fun ⟨n, o, e⟩ => ⟨n, o, k _ e⟩
theorem DAt.own {H : Hp} {p : Addr} {kvs : List (Key × V)} (h : DAt .own H p kvs) : H p = some (.dK kvs) := h.elim id fun ⟨n, _⟩ => absurd rfl n
theorem DAt.rd {f : Fl} {H : Hp} {p : Addr} {kvs : List (Key × V)} (h : DAt f H p kvs) : Rd H p (.dK kvs) := h.imp id fun ⟨_, o, e⟩ => ⟨o, e⟩
mutual
def Rep (Z : Wo) (G : Sh) (H : Hp) : T → V → List Addr → Prop
  | .non, v, fp => v = .non ∧ fp = []
  | .bl b, v, fp => v = .bl b ∧ fp = []
  | .int i, v, fp => v = .int i ∧ fp = []
  | .str s, v, fp => v = .str s ∧ fp = []
  | .ptr w, v, fp => v = w ∧ fp = []
  | .exn c vs, v, fp => (∃ a, v = .ref a ∧ Z.xr H a c vs) ∧ fp = []
  | .scr ns, v, fp => ∃ p, v = .ref p ∧ ScrAt Z G H p (ns.map V.int) ∧ fp = []
  | .tup xs, v, fp => ∃ p vs, v = .ref p ∧ SqT Z.K H p vs ∧ RepL Z G H xs vs fp
  | .lst f xs, v, fp => ∃ p vs fp', v = .ref p ∧ G.at f p ∧ H p = some (.lst vs) ∧ fp = f.hd p ++ fp' ∧ (f ≠ .own → fp' = []) ∧ RepL Z G H xs vs fp'
  | .dic f ks xs, v, fp => ∃ p vs fp', v = .ref p ∧ G.at f p ∧ (ks.length = vs.length ∧ ks.Nodup) ∧ DAt f H p (ks.zip vs) ∧ fp = f.hd p ++ fp' ∧ (f ≠ .own → fp' = []) ∧ RepL Z G H xs vs fp'
  | .ins f c xs, v, fp => ∃ p dx vs fp', v = .ref p ∧ G.at f p ∧ xs.length ≤ (Z.fl c).length ∧ H p = some (.ins (Z.cls c) dx ((Z.fl c).zip vs)) ∧ fp = f.hd p ++ fp' ∧ (f ≠ .own → fp' = []) ∧ RepL Z G H xs vs fp'
def RepL (Z : Wo) (G : Sh) (H : Hp) : List T → List V → List Addr → Prop
  | [], vs, fp => vs = [] ∧ fp = []
  | x :: xs, vs, fp => ∃ v vs' f1 f2, vs = v :: vs' ∧ fp = f1 ++ f2 ∧ Rep Z G H x v f1 ∧ RepL Z G H xs vs' f2
end
section
variable {Z : Wo} {G G' : Sh} {H H' : Hp}
theorem mut_of_own {f : Fl} {p a : Addr} (h : a ∈ f.hd p) : a = p ∧ f = .own := by
  unfold Fl.hd at h; split at h
  · exact ⟨by simpa using h, by assumption⟩
  · simp at h
mutual
theorem Rep.mut : ∀ (t : T) (v : V) (fp : List Addr), Rep Z G H t v fp → ∀ a ∈ fp, Mut (H a) := fun t v fp h a ha => by
  cases t with
  | non => obtain ⟨_, rfl⟩ := h; simp at ha
  | bl _ => obtain ⟨_, rfl⟩ := h; simp at ha
  | int _ => obtain ⟨_, rfl⟩ := h; simp at ha
  | str _ => obtain ⟨_, rfl⟩ := h; simp at ha
  | ptr _ => obtain ⟨_, rfl⟩ := h; simp at ha
  | exn _ _ => obtain ⟨_, rfl⟩ := h; simp at ha
  | scr _ => obtain ⟨_, _, _, rfl⟩ := h; simp at ha
  | tup xs => obtain ⟨p, vs, _, _, r⟩ := h; exact RepL.mut xs vs fp r a ha
  | lst f xs =>
    obtain ⟨p, vs, fp', _, _, e, rfl, _, r⟩ := h
    rcases List.mem_append.mp ha with q | q
    · rw [(mut_of_own q).1, e]; trivial
    · exact RepL.mut xs vs fp' r a q
  | dic f ks xs =>
    obtain ⟨p, vs, fp', _, _, _, e, rfl, _, r⟩ := h
    rcases List.mem_append.mp ha with q | q
    · obtain ⟨rfl, rfl⟩ := mut_of_own q
      rw [e.own]; trivial
    · exact RepL.mut xs vs fp' r a q
  | ins f c xs =>
    obtain ⟨p, dx, vs, fp', _, _, _, e, rfl, _, r⟩ := h
    rcases List.mem_append.mp ha with q | q
    · rw [(mut_of_own q).1, e]; trivial
    · exact RepL.mut xs vs fp' r a q
theorem RepL.mut : ∀ (xs : List T) (vs : List V) (fp : List Addr), RepL Z G H xs vs fp → ∀ a ∈ fp, Mut (H a) := fun xs vs fp h a ha => by
  cases xs with
  | nil => obtain ⟨_, rfl⟩ := h; simp at ha
  | cons x xs =>
    obtain ⟨v, vs', f1, f2, _, rfl, r1, r2⟩ := h
    rcases List.mem_append.mp ha with q | q
    · exact Rep.mut x v f1 r1 a q
    · exact RepL.mut xs vs' f2 r2 a q
end
/-- what a tree leans on -/
def Leans (G : Sh) (fp : List Addr) (a : Addr) (o : HO) : Prop := ¬ Mut (some o) ∨ a ∈ fp ∨ G.F a ∨ G.B a ∨ G.W a
theorem Leans.sub {fp fp' : List Addr} {a : Addr} {o : HO} (h : Leans G fp a o) (s : ∀ a ∈ fp, a ∈ fp') : Leans G fp' a o := by
  rcases h with h | h | h
  · exact .inl h
  · exact .inr (.inl (s _ h))
  · exact .inr (.inr h)
theorem Sh.at_mono {f : Fl} {a : Addr} (h : G.at f a) (hF : ∀ a, G.F a → G'.F a) (hB : ∀ a, G.B a → G'.B a) (hW : ∀ a, G.W a → G'.W a) : G'.at f a := by
  cases f with
  | own => trivial
  | frz => exact hF _ h
  | brw => exact hB _ h
  | vw => exact hW _ h
theorem at_leans {f : Fl} {p : Addr} {fp : List Addr} {o : HO} (h : G.at f p) : Leans G (f.hd p ++ fp) p o := by
  cases f with
  | own => exact .inr (.inl (by simp [Fl.hd]))
  | frz => exact .inr (.inr (.inl h))
  | brw => exact .inr (.inr (.inr (.inl h)))
  | vw => exact .inr (.inr (.inr (.inr h)))
theorem SqT.keep {K : PySem.W.Frag} {p : Addr} {vs : List V} (h : SqT K H p vs) (k : ∀ a o, H a = some o → ¬ Mut (some o) → H' a = some o) : SqT K H' p vs := by
  rcases h with (h | ⟨o, h⟩) | h
  · exact .inl (.inl (k _ _ h fun z => z))
  · exact .inl (.inr ⟨o, k _ _ h fun z => z⟩)
  · exact .inr h
mutual
theorem Rep.mono (hF : ∀ a, G.F a → G'.F a) (hB : ∀ a, G.B a → G'.B a) (hW : ∀ a, G.W a → G'.W a) : ∀ (t : T) (v : V) (fp : List Addr), Rep Z G H t v fp →
    (∀ a o, H a = some o → Leans G fp a o → H' a = some o) → Rep Z G' H' t v fp := fun t v fp h k => by
  cases t with
  | non => exact h
  | bl _ => exact h
  | int _ => exact h
  | str _ => exact h
  | ptr _ => exact h
  | exn c us => obtain ⟨⟨a, e, h⟩, e2⟩ := h; exact ⟨⟨a, e, Z.xm _ _ _ _ _ (fun b o h1 h2 => k b o h1 (.inl (by cases o <;> first | exact fun z => z | cases h2))) h⟩, e2⟩
  | scr _ =>
    obtain ⟨p, e, h, e2⟩ := h
    refine ⟨p, e, ?_, e2⟩
    rcases h with ⟨f, (h | ⟨o, h⟩)⟩ | h
    · exact .inl ⟨hF _ f, .inl (k _ _ h (.inr (.inr (.inl f))))⟩
    · exact .inl ⟨hF _ f, .inr ⟨o, k _ _ h (.inr (.inr (.inl f)))⟩⟩
    · exact .inr h
  | tup xs =>
    obtain ⟨p, vs, e, q, r⟩ := h
    exact ⟨p, vs, e, SqT.keep q fun a o h1 h2 => k a o h1 (.inl h2), RepL.mono hF hB hW xs vs fp r k⟩
  | lst f xs =>
    obtain ⟨p, vs, fp', e, g, hp, rfl, e3, r⟩ := h
    exact ⟨p, vs, fp', e, Sh.at_mono g hF hB hW, k _ _ hp (at_leans g), rfl, e3, RepL.mono hF hB hW xs vs fp' r fun a o h1 h2 => k a o h1 (h2.sub fun _ z => List.mem_append_right _ z)⟩
  | dic f ks xs =>
    obtain ⟨p, vs, fp', e, g, l, hp, rfl, e3, r⟩ := h
    exact ⟨p, vs, fp', e, Sh.at_mono g hF hB hW, l, hp.keep fun o h => k _ _ h (at_leans g), rfl, e3, RepL.mono hF hB hW xs vs fp' r fun a o h1 h2 => k a o h1 (h2.sub fun _ z => List.mem_append_right _ z)⟩
  | ins f c xs =>
    obtain ⟨p, dx, vs, fp', e, g, l, hp, rfl, e3, r⟩ := h
    exact ⟨p, dx, vs, fp', e, Sh.at_mono g hF hB hW, l, k _ _ hp (at_leans g), rfl, e3, RepL.mono hF hB hW xs vs fp' r fun a o h1 h2 => k a o h1 (h2.sub fun _ z => List.mem_append_right _ z)⟩
theorem RepL.mono (hF : ∀ a, G.F a → G'.F a) (hB : ∀ a, G.B a → G'.B a) (hW : ∀ a, G.W a → G'.W a) : ∀ (xs : List T) (vs : List V) (fp : List Addr), RepL Z G H xs vs fp →
    (∀ a o, H a = some o → Leans G fp a o → H' a = some o) → RepL Z G' H' xs vs fp := fun xs vs fp h k => by
  cases xs with
  | nil => exact h
  | cons x xs =>
    obtain ⟨v, vs', f1, f2, e, rfl, r1, r2⟩ := h
    exact ⟨v, vs', f1, f2, e, rfl, Rep.mono hF hB hW x v f1 r1 fun a o h1 h2 => k a o h1 (h2.sub fun _ z => List.mem_append_left _ z),
      RepL.mono hF hB hW xs vs' f2 r2 fun a o h1 h2 => k a o h1 (h2.sub fun _ z => List.mem_append_right _ z)⟩
end
end
end VI

namespace VI
open PySem L2
/-! own rules by values -/
section
variable {X : Cx}
def rMaxDf (K : PySem.W.Frag) : List V → List V → Hp → VK → Prop := fun vs zs H Q => ∃ (a : Addr) (ns : List Int) (z : V), vs = [V.ref a] ∧ zs = [z] ∧ SqL K H a (ns.map V.int) ∧ (ns = [] → Q z H) ∧ (∀ m, m ∈ ns → (∀ y ∈ ns, y ≤ m) → Q (.int m) H)
theorem maxOf_int : ∀ (xs : List Int) (x : Int), PySem.W.maxOf x xs ∈ x :: xs ∧ ∀ y ∈ x :: xs, y ≤ PySem.W.maxOf x xs := fun xs x => by
  have lt : ∀ a b : Int, PySem.W.DatumOrd.lt a b = decide (a < b) := fun a b => rfl
  unfold PySem.W.maxOf
  induction xs generalizing x with
  | nil => simp
  | cons y ys ih =>
    rw [List.foldl_cons, lt]
    by_cases h : x < y
    · simp only [h, decide_true, if_true]
      obtain ⟨h1, h2⟩ := ih y
      refine ⟨List.mem_cons_of_mem _ h1, fun z hz => ?_⟩
      rcases List.mem_cons.mp hz with rfl | hz
      · exact Int.le_trans (Int.le_of_lt h) (h2 y List.mem_cons_self)
      · exact h2 z hz
    · simp only [h, decide_false, Bool.false_eq_true, if_false]
      obtain ⟨h1, h2⟩ := ih x
      refine ⟨?_, fun z hz => ?_⟩
      · rcases List.mem_cons.mp h1 with e | e
        · rw [e]; exact List.mem_cons_self
        · exact List.mem_cons_of_mem _ (List.mem_cons_of_mem _ e)
      · rcases List.mem_cons.mp hz with rfl | hz
        · exact h2 _ List.mem_cons_self
        · rcases List.mem_cons.mp hz with rfl | hz
          · exact Int.le_trans (Int.not_lt.mp h) (h2 x List.mem_cons_self)
          · exact h2 z (List.mem_cons_of_mem _ hz)
theorem ck_maxD (hc : X.calm = true) (hu : X.A.units + 64 < cLine) : CallRK X (.builtin "max") [Str.ofString "default"] (rMaxDf X.K) := by
  intro pins s σ H vs zs us ws Q I r rz h
  obtain ⟨a, ns, z, rfl, rfl, hs, q0, q⟩ := h
  obtain rfl := Vals.ref1 r
  obtain ⟨w1, rfl, e1⟩ := vals1 rz
  obtain ⟨its, rv, hl, _⟩ := I.list hs
  refine PySem.W.max_list_datum_default (α := Int) (xs := ns) (I.ok.hd hc) hl.isList (PySem.W.HoldAll.of_ints rv.ints) (by show X.A.units + 1 + 0 < cLine; omega) (fun e h' tk hk => ?_) fun y ys i v h' tk e hi hv hk => ?_
  · exact ⟨z, H, I.kept hk, e1, q0 e⟩
  · obtain ⟨as, rd⟩ := hv
    cases rd with
    | int n t =>
      obtain ⟨h1, h2⟩ := maxOf_int ys y
      exact ⟨.int _, H, I.kept hk, ⟨_, rfl⟩, q _ (by rw [e]; exact h1) (by rw [e]; exact h2)⟩
def CRep (s : Str) (k : Int) : Prop := -(2 ^ 63) ≤ k ∧ k ≤ 1000000 ∧ s.length * k.toNat ≤ 16777216
def repS (s : Str) (k : Int) : Str := ⟨(List.replicate k.toNat s.cps).foldl (· ++ ·) #[]⟩
theorem op_repS : OpR X (binaryOp .Mult) (fun x y H Q => ∃ i j, x = .str i ∧ y = .int j ∧ CRep i j ∧ Q (.str (repS i j)) H) := by
  intro pins s σ H x y v u Q I rx ry h
  obtain ⟨i, j, rfl, rfl, hz, q⟩ := h
  obtain ⟨t, rfl⟩ := rx
  obtain ⟨t', rfl⟩ := ry
  obtain ⟨z1, z2, z3⟩ := hz
  refine PySem.P.mul_str (by rw [decide_eq_false (by omega), decide_eq_false (by omega)]; rfl) (fun h1 _ h2 => ?_) (fun h1 _ => ?_) ?_
  · have h3 : (0 : Int) < j := by omega
    have h4 : i.length * j.toNat = i.length * j.toNat := rfl
    have h5 : (2 ^ 63 - 1) / j < (i.length : Int) := h2
    have h6 : 2 ^ 63 - 1 < (i.length : Int) * j := (Int.ediv_lt_iff_lt_mul h3).mp h5
    have h7 : ((i.length * j.toNat : Nat) : Int) = (i.length : Int) * j := by
      rw [Int.natCast_mul, Int.toNat_of_nonneg (by omega)]
    omega
  · unfold Builtin.Str.tooLong
    rw [sizeLine_eq]
    exact decide_eq_false (by omega)
  · have fin : ∀ z : Str, z = repS i j → ∀ t t0, EP X pins σ Q (.str z t) { s with toks := t0 } := fun z e t t0 => ⟨.str z, H, I.tok _, ⟨_, rfl⟩, by rw [e]; exact q⟩
    have len : (repS i j).length ≤ 16777216 := by
      have : ∀ (n : Nat) (a : Array Nat), ((List.replicate n i.cps).foldl (· ++ ·) a).size = a.size + i.cps.size * n := fun n => by
        induction n with
        | zero => intro a; simp
        | succ n ih => intro a; rw [List.replicate_succ, List.foldl_cons, ih, Array.size_append, Nat.mul_succ]; omega
      have := this j.toNat #[]
      show (repS i j).cps.size ≤ _
      unfold repS
      rw [this]
      have z4 : i.cps.size * j.toNat ≤ 16777216 := z3
      simpa using z4
    by_cases h1 : j < 1
    · rw [if_pos h1]
      refine ⟨by decide, fin _ ?_ _ _⟩
      unfold repS
      rw [show j.toNat = 0 by omega]
      rfl
    · rw [if_neg h1]
      by_cases h2 : (j == 1 || i.length == 0) = true
      · rw [if_pos h2]
        refine (fin _ ?_ _ s.toks : EP X pins σ Q (.str i t) s)
        unfold repS
        rcases Bool.or_eq_true_iff.mp h2 with h | h
        · obtain rfl := beq_iff_eq.mp h
          show i = ⟨#[] ++ i.cps⟩
          simp
        · have h := beq_iff_eq.mp h
          have e : i.cps = #[] := Array.eq_empty_of_size_eq_zero h
          have : ∀ n : Nat, (List.replicate n (#[] : Array Nat)).foldl (· ++ ·) #[] = #[] := fun n => by
            induction n with
            | zero => rfl
            | succ n ih => rw [List.replicate_succ, List.foldl_cons]; simpa using ih
          cases i
          subst e
          rw [this]
      · rw [if_neg h2]
        exact ⟨len, fin _ rfl _ _⟩
end
end VI

namespace VI
open PySem L2
section
variable {Z : Wo} {G G' : Sh} {H H' : Hp}
/-! changing flags -/
structure FlOk (g : Fl → Fl) (G G' : Sh) : Prop where
  own : g .own ≠ .own
  oth : ∀ f, f ≠ .own → g f ≠ .own ∧ ∀ a, G.at f a → G'.at (g f) a
  fF : ∀ a, G.F a → G'.F a
theorem hd_ne {f : Fl} {p : Addr} (h : f ≠ .own) : f.hd p = [] := by unfold Fl.hd; rw [if_neg h]
theorem hd_own {p : Addr} : Fl.own.hd p = [p] := rfl
theorem FlOk.node {g : Fl → Fl} (k : FlOk g G G') {f : Fl} {p : Addr} {fp' : List Addr} (h : G.at f p) (ho : ∀ a ∈ f.hd p ++ fp', G'.at (g .own) a) : G'.at (g f) p ∧ (g f) ≠ .own ∧ ∀ a ∈ fp', G'.at (g .own) a := by
  by_cases e : f = .own
  · subst e; exact ⟨ho p (by simp [hd_own]), k.own, fun a z => ho a (List.mem_append_right _ z)⟩
  · exact ⟨(k.oth f e).2 p h, (k.oth f e).1, fun a z => ho a (List.mem_append_right _ z)⟩
mutual
theorem Rep.map {g : Fl → Fl} (k : FlOk g G G') : ∀ (t : T) (v : V) (fp : List Addr), Rep Z G H t v fp → (∀ a ∈ fp, G'.at (g .own) a) → Rep Z G' H (t.mapF g) v [] := fun t v fp h ho => by
  cases t with
  | non => exact ⟨h.1, rfl⟩
  | bl _ => exact ⟨h.1, rfl⟩
  | int _ => exact ⟨h.1, rfl⟩
  | str _ => exact ⟨h.1, rfl⟩
  | ptr _ => exact ⟨h.1, rfl⟩
  | exn _ _ => exact ⟨h.1, rfl⟩
  | scr _ =>
    obtain ⟨p, e, h, e2⟩ := h
    refine ⟨p, e, ?_, rfl⟩
    rcases h with ⟨f, h⟩ | h
    · exact .inl ⟨k.fF _ f, h⟩
    · exact .inr h
  | tup xs =>
    obtain ⟨p, vs, e, q, r⟩ := h
    exact ⟨p, vs, e, q, RepL.map k xs vs fp r ho⟩
  | lst f xs =>
    obtain ⟨p, vs, fp', e, g1, hp, rfl, e3, r⟩ := h
    obtain ⟨a1, a2, a3⟩ := k.node g1 ho
    exact ⟨p, vs, [], e, a1, hp, by rw [hd_ne a2]; rfl, fun _ => rfl, RepL.map k xs vs fp' r a3⟩
  | dic f ks xs =>
    obtain ⟨p, vs, fp', e, g1, l, hp, rfl, e3, r⟩ := h
    obtain ⟨a1, a2, a3⟩ := k.node g1 ho
    exact ⟨p, vs, [], e, a1, l, hp.ch fun _ => a2, by rw [hd_ne a2]; rfl, fun _ => rfl, RepL.map k xs vs fp' r a3⟩
  | ins f c xs =>
    obtain ⟨p, dx, vs, fp', e, g1, l, hp, rfl, e3, r⟩ := h
    obtain ⟨a1, a2, a3⟩ := k.node g1 ho
    exact ⟨p, dx, vs, [], e, a1, by rw [mapFL_eq, List.length_map]; exact l, hp, by rw [hd_ne a2]; rfl, fun _ => rfl, RepL.map k xs vs fp' r a3⟩
theorem RepL.map {g : Fl → Fl} (k : FlOk g G G') : ∀ (xs : List T) (vs : List V) (fp : List Addr), RepL Z G H xs vs fp → (∀ a ∈ fp, G'.at (g .own) a) → RepL Z G' H (T.mapFL g xs) vs [] := fun xs vs fp h ho => by
  cases xs with
  | nil => exact ⟨h.1, rfl⟩
  | cons x xs =>
    obtain ⟨v, vs', f1, f2, e, rfl, r1, r2⟩ := h
    exact ⟨v, vs', [], [], e, rfl, Rep.map k x v f1 r1 fun a z => ho a (List.mem_append_left _ z), RepL.map k xs vs' f2 r2 fun a z => ho a (List.mem_append_right _ z)⟩
end
mutual
/-- without views: the third set does not matter -/
theorem Rep.noW {W' : Addr → Prop} : ∀ (t : T) (v : V) (fp : List Addr), t.has Fl.isVw = false → Rep Z G H t v fp → Rep Z { G with W := W' } H t v fp := fun t v fp hn h => by
  have atW : ∀ {f : Fl} {a : Addr}, f.isVw = false → G.at f a → Sh.at { G with W := W' } f a := fun {f a} z h => by
    cases f with
    | own => trivial
    | frz => exact h
    | brw => exact h
    | vw => cases z
  cases t with
  | non => exact h
  | bl _ => exact h
  | int _ => exact h
  | str _ => exact h
  | ptr _ => exact h
  | exn _ _ => exact h
  | scr _ => exact h
  | tup xs =>
    obtain ⟨p, vs, e, q, r⟩ := h
    exact ⟨p, vs, e, q, RepL.noW xs vs fp hn r⟩
  | lst f xs =>
    obtain ⟨p, vs, fp', e, g1, hp, e2, e3, r⟩ := h
    rw [T.has, Bool.or_eq_false_iff] at hn
    exact ⟨p, vs, fp', e, atW hn.1 g1, hp, e2, e3, RepL.noW xs vs fp' hn.2 r⟩
  | dic f ks xs =>
    obtain ⟨p, vs, fp', e, g1, l, hp, e2, e3, r⟩ := h
    rw [T.has, Bool.or_eq_false_iff] at hn
    exact ⟨p, vs, fp', e, atW hn.1 g1, l, hp, e2, e3, RepL.noW xs vs fp' hn.2 r⟩
  | ins f c xs =>
    obtain ⟨p, dx, vs, fp', e, g1, l, hp, e2, e3, r⟩ := h
    rw [T.has, Bool.or_eq_false_iff] at hn
    exact ⟨p, dx, vs, fp', e, atW hn.1 g1, l, hp, e2, e3, RepL.noW xs vs fp' hn.2 r⟩
theorem RepL.noW {W' : Addr → Prop} : ∀ (xs : List T) (vs : List V) (fp : List Addr), T.hasL Fl.isVw xs = false → RepL Z G H xs vs fp → RepL Z { G with W := W' } H xs vs fp := fun xs vs fp hn h => by
  cases xs with
  | nil => exact h
  | cons x xs =>
    obtain ⟨v, vs', f1, f2, e, e2, r1, r2⟩ := h
    rw [T.hasL, Bool.or_eq_false_iff] at hn
    exact ⟨v, vs', f1, f2, e, e2, Rep.noW x v f1 hn.1 r1, RepL.noW xs vs' f2 hn.2 r2⟩
end
mutual
/-- without own nodes: no footprint -/
theorem Rep.noOwn : ∀ (t : T) (v : V) (fp : List Addr), t.has Fl.isOwn = false → Rep Z G H t v fp → fp = [] := fun t v fp hn h => by
  cases t with
  | non => exact h.2
  | bl _ => exact h.2
  | int _ => exact h.2
  | str _ => exact h.2
  | ptr _ => exact h.2
  | exn _ _ => exact h.2
  | scr _ => obtain ⟨p, e, h, e2⟩ := h; exact e2
  | tup xs =>
    obtain ⟨p, vs, e, q, r⟩ := h
    exact RepL.noOwn xs vs fp hn r
  | lst f xs =>
    obtain ⟨p, vs, fp', e, g1, hp, rfl, e3, r⟩ := h
    rw [T.has, Bool.or_eq_false_iff] at hn
    have nf : f ≠ .own := fun z => by rw [z] at hn; cases hn.1
    rw [hd_ne nf, e3 nf]; rfl
  | dic f ks xs =>
    obtain ⟨p, vs, fp', e, g1, l, hp, rfl, e3, r⟩ := h
    rw [T.has, Bool.or_eq_false_iff] at hn
    have nf : f ≠ .own := fun z => by rw [z] at hn; cases hn.1
    rw [hd_ne nf, e3 nf]; rfl
  | ins f c xs =>
    obtain ⟨p, dx, vs, fp', e, g1, l, hp, rfl, e3, r⟩ := h
    rw [T.has, Bool.or_eq_false_iff] at hn
    have nf : f ≠ .own := fun z => by rw [z] at hn; cases hn.1
    rw [hd_ne nf, e3 nf]; rfl
theorem RepL.noOwn : ∀ (xs : List T) (vs : List V) (fp : List Addr), T.hasL Fl.isOwn xs = false → RepL Z G H xs vs fp → fp = [] := fun xs vs fp hn h => by
  cases xs with
  | nil => exact h.2
  | cons x xs =>
    obtain ⟨v, vs', f1, f2, e, rfl, r1, r2⟩ := h
    rw [T.hasL, Bool.or_eq_false_iff] at hn
    rw [Rep.noOwn x v f1 hn.1 r1, RepL.noOwn xs vs' f2 hn.2 r2]; rfl
end
theorem RepL.length : ∀ {xs : List T} {vs : List V} {fp : List Addr}, RepL Z G H xs vs fp → xs.length = vs.length := fun {xs} => by
  induction xs with
  | nil => intro vs fp h; rw [h.1]; rfl
  | cons x xs ih => intro vs fp h; obtain ⟨v, vs', f1, f2, rfl, _, _, r⟩ := h; simp [ih r]
theorem RepL.append : ∀ {xs ys : List T} {vs ws : List V} {f1 f2 : List Addr}, RepL Z G H xs vs f1 → RepL Z G H ys ws f2 → RepL Z G H (xs ++ ys) (vs ++ ws) (f1 ++ f2) := fun {xs} => by
  induction xs with
  | nil => intro ys vs ws f1 f2 h h2; rw [h.1, h.2]; exact h2
  | cons x xs ih =>
    intro ys vs ws f1 f2 h h2
    obtain ⟨v, vs', g1, g2, rfl, rfl, r1, r2⟩ := h
    exact ⟨v, vs' ++ ws, g1, g2 ++ f2, rfl, by rw [List.append_assoc], r1, ih r2 h2⟩
theorem RepL.split : ∀ {xs ys : List T} {vs : List V} {fp : List Addr}, RepL Z G H (xs ++ ys) vs fp → ∃ v1 v2 f1 f2, vs = v1 ++ v2 ∧ fp = f1 ++ f2 ∧ RepL Z G H xs v1 f1 ∧ RepL Z G H ys v2 f2 := fun {xs} => by
  induction xs with
  | nil => intro ys vs fp h; exact ⟨[], vs, [], fp, rfl, rfl, ⟨rfl, rfl⟩, h⟩
  | cons x xs ih =>
    intro ys vs fp h
    obtain ⟨v, vs', g1, g2, rfl, rfl, r1, r2⟩ := h
    obtain ⟨v1, v2, f1, f2, rfl, rfl, a, b⟩ := ih r2
    exact ⟨v :: v1, v2, g1 ++ f1, f2, rfl, by rw [List.append_assoc], ⟨v, v1, g1, f1, rfl, rfl, r1, a⟩, b⟩
theorem RepL.one {t : T} {v : V} {fp : List Addr} : RepL Z G H [t] [v] fp ↔ Rep Z G H t v fp := by
  constructor
  · rintro ⟨v', vs', f1, f2, e, rfl, r, e2, rfl⟩
    cases e
    simpa using r
  · intro r
    exact ⟨v, [], fp, [], rfl, by simp, r, rfl, rfl⟩
theorem RepL.get : ∀ {xs : List T} {vs : List V} {fp : List Addr} {i : Nat} {t : T}, RepL Z G H xs vs fp → xs[i]? = some t → ∃ v f1 f2 f3, vs[i]? = some v ∧ fp = f1 ++ f2 ++ f3 ∧ Rep Z G H t v f2 := fun {xs} => by
  induction xs with
  | nil => intro vs fp i t h e; simp at e
  | cons x xs ih =>
    intro vs fp i t h e
    obtain ⟨v, vs', g1, g2, rfl, rfl, r1, r2⟩ := h
    cases i with
    | zero => simp at e; subst e; exact ⟨v, [], g1, g2, rfl, rfl, r1⟩
    | succ i =>
      obtain ⟨w, f1, f2, f3, a, rfl, b⟩ := ih r2 (by simpa using e)
      exact ⟨w, g1 ++ f1, f2, f3, by simpa using a, by simp [List.append_assoc], b⟩

/-! the frame's slots -/
abbrev Env := List (Option T)
def Wo.as (Z : Wo) (W : Value → Option Addr → L2.St → Hp → Prop) : Wo := { Z with ws := W }
mutual
theorem Rep.ws {W : Value → Option Addr → L2.St → Hp → Prop} : ∀ (t : T) (v : V) (fp : List Addr), Rep Z G H t v fp → Rep (Z.as W) G H t v fp := fun t v fp h => by
  cases t with
  | non => exact h
  | bl _ => exact h
  | int _ => exact h
  | str _ => exact h
  | ptr _ => exact h
  | exn _ _ => exact h
  | scr _ => exact h
  | tup xs => obtain ⟨p, vs, e, q, r⟩ := h; exact ⟨p, vs, e, q, RepL.ws xs vs fp r⟩
  | lst f xs => obtain ⟨p, vs, fp', e, g, hp, e2, e3, r⟩ := h; exact ⟨p, vs, fp', e, g, hp, e2, e3, RepL.ws xs vs fp' r⟩
  | dic f ks xs => obtain ⟨p, vs, fp', e, g, l, hp, e2, e3, r⟩ := h; exact ⟨p, vs, fp', e, g, l, hp, e2, e3, RepL.ws xs vs fp' r⟩
  | ins f c xs => obtain ⟨p, dx, vs, fp', e, g, l, hp, e2, e3, r⟩ := h; exact ⟨p, dx, vs, fp', e, g, l, hp, e2, e3, RepL.ws xs vs fp' r⟩
theorem RepL.ws {W : Value → Option Addr → L2.St → Hp → Prop} : ∀ (xs : List T) (vs : List V) (fp : List Addr), RepL Z G H xs vs fp → RepL (Z.as W) G H xs vs fp := fun xs vs fp h => by
  cases xs with
  | nil => exact h
  | cons x xs => obtain ⟨v, vs', f1, f2, e, e2, r1, r2⟩ := h; exact ⟨v, vs', f1, f2, e, e2, Rep.ws x v f1 r1, RepL.ws xs vs' f2 r2⟩
end
def EnvRep (Z : Wo) (G : Sh) (H : Hp) : St → Env → List Addr → Prop
  | [], env, S => env = [] ∧ S = []
  | vo :: σ, env, S => ∃ to env', env = to :: env' ∧ match to with
    | none => EnvRep Z G H σ env' S
    | some t => ∃ v f1 S', vo = some v ∧ S = f1 ++ S' ∧ Rep Z G H t v f1 ∧ EnvRep Z G H σ env' S'
theorem EnvRep.ws {W : Value → Option Addr → L2.St → Hp → Prop} : ∀ {σ : St} {env : Env} {S : List Addr}, EnvRep Z G H σ env S → EnvRep (Z.as W) G H σ env S := fun {σ} => by
  induction σ with
  | nil => intro env S h; exact h
  | cons vo σ ih =>
    intro env S h
    obtain ⟨to, env', e, h⟩ := h
    refine ⟨to, env', e, ?_⟩
    cases to with
    | none => exact ih h
    | some t => obtain ⟨v, f1, S', e1, e2, r, h⟩ := h; exact ⟨v, f1, S', e1, e2, Rep.ws _ _ _ r, ih h⟩
theorem EnvRep.length : ∀ {σ : St} {env : Env} {S : List Addr}, EnvRep Z G H σ env S → σ.length = env.length := fun {σ} => by
  induction σ with
  | nil => intro env S h; rw [h.1]; rfl
  | cons vo σ ih =>
    intro env S h
    obtain ⟨to, env', rfl, h⟩ := h
    cases to with
    | none => simp [ih h]
    | some t => obtain ⟨_, _, _, _, _, _, h⟩ := h; simp [ih h]
/-- a slot, and the environment around it -/
theorem EnvRep.get : ∀ {σ : St} {env : Env} {S : List Addr} {i : Nat} {t : T}, EnvRep Z G H σ env S → env[i]? = some (some t) →
    ∃ v f1 f2 f3, σ[i]? = some (some v) ∧ S = f1 ++ f2 ++ f3 ∧ Rep Z G H t v f2 ∧ EnvRep Z G H σ (env.set i none) (f1 ++ f3) := fun {σ} => by
  induction σ with
  | nil => intro env S i t h e; rw [h.1] at e; simp at e
  | cons vo σ ih =>
    intro env S i t h e
    obtain ⟨to, env', rfl, h⟩ := h
    cases i with
    | zero =>
      simp at e; subst e
      obtain ⟨v, f1, S', rfl, rfl, r, h⟩ := h
      exact ⟨v, [], f1, S', rfl, rfl, r, none, env', rfl, h⟩
    | succ i =>
      have e' : env'[i]? = some (some t) := by simpa using e
      cases to with
      | none =>
        obtain ⟨v, f1, f2, f3, a, b, c, d⟩ := ih h e'
        exact ⟨v, f1, f2, f3, by simpa using a, b, c, none, env'.set i none, rfl, d⟩
      | some u =>
        obtain ⟨w, g1, S', rfl, rfl, r, h⟩ := h
        obtain ⟨v, f1, f2, f3, a, rfl, c, d⟩ := ih h e'
        exact ⟨v, g1 ++ f1, f2, f3, by simpa using a, by simp [List.append_assoc], c, some u, env'.set i none, rfl, w, g1, f1 ++ f3, rfl, by rw [List.append_assoc], r, d⟩
/-- a slot is filled -/
theorem EnvRep.put : ∀ {σ : St} {env : Env} {S : List Addr} {i : Nat} {t : T} {v : V} {fp : List Addr}, EnvRep Z G H σ env S → env[i]? = some none → Rep Z G H t v fp →
    ∃ f1 f3, S = f1 ++ f3 ∧ EnvRep Z G H (σ.set i (some v)) (env.set i (some t)) (f1 ++ fp ++ f3) := fun {σ} => by
  induction σ with
  | nil => intro env S i t v fp h e; rw [h.1] at e; simp at e
  | cons vo σ ih =>
    intro env S i t v fp h e r
    obtain ⟨to, env', rfl, h⟩ := h
    cases i with
    | zero =>
      simp at e; subst e
      exact ⟨[], S, rfl, some t, env', rfl, v, fp, S, rfl, by simp, r, h⟩
    | succ i =>
      have e' : env'[i]? = some none := by simpa using e
      cases to with
      | none =>
        obtain ⟨f1, f3, rfl, d⟩ := ih h e' r
        exact ⟨f1, f3, rfl, none, _, rfl, d⟩
      | some u =>
        obtain ⟨w, g1, S', rfl, rfl, q, h⟩ := h
        obtain ⟨f1, f3, rfl, d⟩ := ih h e' r
        exact ⟨g1 ++ f1, f3, by rw [List.append_assoc], some u, _, rfl, w, g1, f1 ++ fp ++ f3, rfl, by simp [List.append_assoc], q, d⟩
/-- a slot is forgotten -/
theorem EnvRep.drop : ∀ {σ : St} {env : Env} {S : List Addr} {i : Nat}, EnvRep Z G H σ env S → ∃ S', S'.Sublist S ∧ EnvRep Z G H σ (env.set i none) S' := fun {σ env S i} h => by
  cases e : env[i]? with
  | none =>
    have : env.set i none = env := List.set_eq_of_length_le (List.getElem?_eq_none_iff.mp e)
    rw [this]; exact ⟨S, List.Sublist.refl _, h⟩
  | some to =>
    cases to with
    | none =>
      have : env.set i none = env := by
        apply List.ext_getElem?
        intro j
        by_cases hj : i = j
        · subst hj
          obtain ⟨hl, e2⟩ := List.getElem?_eq_some_iff.mp e
          rw [List.getElem?_set_self hl, e]
        · rw [List.getElem?_set_ne hj]
      rw [this]; exact ⟨S, List.Sublist.refl _, h⟩
    | some t =>
      obtain ⟨v, f1, f2, f3, _, rfl, _, d⟩ := h.get e
      refine ⟨f1 ++ f3, ?_, d⟩
      rw [List.append_assoc]
      exact List.Sublist.append (List.Sublist.refl _) (List.sublist_append_right _ _)
theorem EnvRep.mut : ∀ {σ : St} {env : Env} {S : List Addr}, EnvRep Z G H σ env S → ∀ a ∈ S, Mut (H a) := fun {σ} => by
  induction σ with
  | nil => intro env S h a ha; rw [h.2] at ha; simp at ha
  | cons vo σ ih =>
    intro env S h a ha
    obtain ⟨to, env', rfl, h⟩ := h
    cases to with
    | none => exact ih h a ha
    | some t =>
      obtain ⟨w, g1, S', _, rfl, q, h⟩ := h
      rcases List.mem_append.mp ha with z | z
      · exact Rep.mut t w g1 q a z
      · exact ih h a z
theorem EnvRep.mono (hF : ∀ a, G.F a → G'.F a) (hB : ∀ a, G.B a → G'.B a) (hW : ∀ a, G.W a → G'.W a) : ∀ {σ : St} {env : Env} {S : List Addr}, EnvRep Z G H σ env S →
    (∀ a o, H a = some o → Leans G S a o → H' a = some o) → EnvRep Z G' H' σ env S := fun {σ} => by
  induction σ with
  | nil => intro env S h k; exact h
  | cons vo σ ih =>
    intro env S h k
    obtain ⟨to, env', rfl, h⟩ := h
    refine ⟨to, env', rfl, ?_⟩
    cases to with
    | none => exact ih h k
    | some t =>
      obtain ⟨w, g1, S', e, rfl, q, h⟩ := h
      exact ⟨w, g1, S', e, rfl, Rep.mono hF hB hW t w g1 q fun a o h1 h2 => k a o h1 (h2.sub fun _ z => List.mem_append_left _ z), ih h fun a o h1 h2 => k a o h1 (h2.sub fun _ z => List.mem_append_right _ z)⟩
/-- slots forgotten on the side of V -/
theorem EnvRep.slots : ∀ {σ σ' : St} {env : Env} {S : List Addr}, EnvRep Z G H σ env S → σ'.length = σ.length → (∀ (i : Nat) (t : T), env[i]? = some (some t) → σ'[i]? = σ[i]?) → EnvRep Z G H σ' env S := fun {σ} => by
  induction σ with
  | nil => intro σ' env S h l _; have : σ' = [] := List.length_eq_zero_iff.mp l; subst this; exact h
  | cons vo σ ih =>
    intro σ' env S h l k
    cases σ' with
    | nil => simp at l
    | cons vo' σ' =>
      obtain ⟨to, env', rfl, h⟩ := h
      refine ⟨to, env', rfl, ?_⟩
      have k' : ∀ (i : Nat) (t : T), env'[i]? = some (some t) → σ'[i]? = σ[i]? := fun i t e => by simpa using k (i + 1) t (by simpa using e)
      cases to with
      | none => exact ih h (by simpa using l) k'
      | some t =>
        obtain ⟨w, g1, S', e, rfl, q, h⟩ := h
        have := k 0 t rfl
        simp at this
        exact ⟨w, g1, S', by rw [this, e], rfl, q, ih h (by simpa using l) k'⟩
end
end VI

namespace VI
open PySem L2
def cn (a : Addr) : List Addr → Nat
  | [] => 0
  | b :: r => (if b = a then 1 else 0) + cn a r
@[simp] theorem cn_nil {a : Addr} : cn a [] = 0 := rfl
@[simp] theorem cn_cons {a b : Addr} {r : List Addr} : cn a (b :: r) = (if b = a then 1 else 0) + cn a r := rfl
@[simp] theorem cn_append {a : Addr} : ∀ {x y : List Addr}, cn a (x ++ y) = cn a x + cn a y := fun {x} => by
  induction x with
  | nil => intro y; simp
  | cons b r ih => intro y; simp [ih]; omega
theorem cn_pos {a : Addr} : ∀ {x : List Addr}, 0 < cn a x ↔ a ∈ x := fun {x} => by
  induction x with
  | nil => simp
  | cons b r ih =>
    by_cases e : b = a
    · subst e; simp; omega
    · simp only [cn_cons, if_neg e, Nat.zero_add, ih, List.mem_cons]
      constructor
      · exact .inr
      · rintro (h | h)
        · exact absurd h.symm e
        · exact h
theorem cn_zero {a : Addr} {x : List Addr} : cn a x = 0 ↔ a ∉ x := by
  rw [← cn_pos]; omega
theorem cn_sub {a : Addr} {x y : List Addr} (h : x.Sublist y) : cn a x ≤ cn a y := by
  induction h with
  | slnil => exact Nat.le_refl _
  | cons b _ ih => simp only [cn_cons]; split <;> omega
  | cons_cons b _ ih => simp only [cn_cons]; split <;> omega
structure Wd (Z : Wo) (F B : Addr → Prop) (H : Hp) (σ : St) (env : Env) (xs : List T) (vs : List V) (Se St : List Addr) : Prop where
  er : EnvRep Z ⟨F, B, fun _ => False⟩ H σ env Se
  tr : RepL Z ⟨F, B, fun a => 0 < cn a Se⟩ H xs vs St
  nd : ∀ a, cn a Se + cn a St ≤ 1
  dj : ∀ a, F a ∨ B a → cn a Se + cn a St = 0
  al : ∀ a, F a ∨ B a → ∃ o, H a = some o
theorem Wd.ws {Z : Wo} {F B : Addr → Prop} {H : Hp} {σ : St} {env : Env} {xs : List T} {vs : List V} {Se St : List Addr} {W : Value → Option Addr → L2.St → Hp → Prop} (w : Wd Z F B H σ env xs vs Se St) : Wd (Z.as W) F B H σ env xs vs Se St := ⟨w.er.ws, RepL.ws _ _ _ w.tr, w.nd, w.dj, w.al⟩
theorem Wd.ws' {Z : Wo} {F B : Addr → Prop} {H : Hp} {σ : St} {env : Env} {xs : List T} {vs : List V} {Se St : List Addr} {W : Value → Option Addr → L2.St → Hp → Prop} (w : Wd (Z.as W) F B H σ env xs vs Se St) : Wd Z F B H σ env xs vs Se St := Wd.ws (Z := Z.as W) (W := Z.ws) w
structure Step (F : Addr → Prop) (H : Hp) (S : List Addr) (F' : Addr → Prop) (H' : Hp) (S' : List Addr) : Prop where
  fF : ∀ a, F a → F' a
  kp : ∀ a o, H a = some o → cn a S = 0 → H' a = some o
  ne : ∀ a o, H a = some o → ∃ o', H' a = some o'
  nS : ∀ a, 0 < cn a S' → 0 < cn a S ∨ H a = none
  nF : ∀ a, F' a → F a ∨ 0 < cn a S ∨ H a = none
theorem Step.refl {F : Addr → Prop} {H : Hp} {S : List Addr} : Step F H S F H S := ⟨fun _ h => h, fun _ _ h _ => h, fun _ o h => ⟨o, h⟩, fun _ h => .inl h, fun _ h => .inl h⟩
theorem Step.trans {F F1 F2 : Addr → Prop} {H H1 H2 : Hp} {S S1 S2 : List Addr} (a : Step F H S F1 H1 S1) (b : Step F1 H1 S1 F2 H2 S2) : Step F H S F2 H2 S2 where
  fF := fun x h => b.fF x (a.fF x h)
  kp := fun x o h n => by
    refine b.kp x o (a.kp x o h n) ?_
    have := a.nS x
    rw [h, n] at this
    cases e : cn x S1 with
    | zero => rfl
    | succ k => rcases this (by omega) with q | q; omega; cases q
  ne := fun x o h => by obtain ⟨o1, h1⟩ := a.ne x o h; exact b.ne x o1 h1
  nS := fun x h => by
    rcases b.nS x h with q | q
    · exact a.nS x q
    · cases e : H x with
      | none => exact .inr rfl
      | some o => obtain ⟨o1, h1⟩ := a.ne x o e; rw [h1] at q; cases q
  nF := fun x h => by
    rcases b.nF x h with q | q | q
    · exact a.nF x q
    · rcases a.nS x q with z | z
      · exact .inr (.inl z)
      · exact .inr (.inr z)
    · cases e : H x with
      | none => exact .inr (.inr rfl)
      | some o => obtain ⟨o1, h1⟩ := a.ne x o e; rw [h1] at q; cases q
theorem Step.le {F : Addr → Prop} {H : Hp} {S S' : List Addr} (h : ∀ a, cn a S' ≤ cn a S) : Step F H S F H S' := ⟨fun _ h => h, fun _ _ h _ => h, fun _ o h => ⟨o, h⟩, fun a h2 => .inl (by have := h a; omega), fun _ h => .inl h⟩
section
variable {Z : Wo} {F B : Addr → Prop} {H H' : Hp} {σ : St} {env : Env} {xs ys : List T} {vs ws : List V} {Se St : List Addr} {t : T} {v : V}
theorem Wd.mutE (w : Wd Z F B H σ env xs vs Se St) {a : Addr} (h : 0 < cn a Se) : Mut (H a) := w.er.mut a (cn_pos.mp h)
theorem Wd.mutT (w : Wd Z F B H σ env xs vs Se St) {a : Addr} (h : 0 < cn a St) : Mut (H a) := RepL.mut _ _ _ w.tr a (cn_pos.mp h)
theorem mut_none {a : Addr} (h : H a = none) : ¬ Mut (H a) := by rw [h]; exact fun z => z
/-- a fresh place is nobody's -/
theorem Wd.fresh (w : Wd Z F B H σ env xs vs Se St) {p : Addr} (h : H p = none) : cn p Se = 0 ∧ cn p St = 0 ∧ ¬ F p ∧ ¬ B p := by
  refine ⟨?_, ?_, fun z => ?_, fun z => ?_⟩
  · cases e : cn p Se with
    | zero => rfl
    | succ k => exact absurd (w.mutE (a := p) (by omega)) (mut_none h)
  · cases e : cn p St with
    | zero => rfl
    | succ k => exact absurd (w.mutT (a := p) (by omega)) (mut_none h)
  · obtain ⟨o, e⟩ := w.al p (.inl z); rw [h] at e; cases e
  · obtain ⟨o, e⟩ := w.al p (.inr z); rw [h] at e; cases e
/-- the heap grows, or stays -/
theorem Wd.grow (w : Wd Z F B H σ env xs vs Se St) (k : ∀ a o, H a = some o → H' a = some o) : Wd Z F B H' σ env xs vs Se St :=
  ⟨w.er.mono (fun _ h => h) (fun _ h => h) (fun _ h => h) fun a o h _ => k a o h, RepL.mono (fun _ h => h) (fun _ h => h) (fun _ h => h) _ _ _ w.tr fun a o h _ => k a o h, w.nd, w.dj, fun a h => let ⟨o, e⟩ := w.al a h; ⟨o, k a o e⟩⟩
theorem upd_keep {p : Addr} {o : HO} (hp : H p = none) : ∀ a u, H a = some u → upd H p o a = some u := fun a u h => by rw [upd_ne (ne_of_none h hp)]; exact h
theorem Step.alloc {S : List Addr} {p : Addr} {o : HO} (hp : H p = none) {S' : List Addr} (h : ∀ a, cn a S' ≤ cn a S + (if p = a then 1 else 0)) : Step F H S F (upd H p o) S' :=
  ⟨fun _ h => h, fun a u h _ => upd_keep hp a u h, fun a u h => ⟨u, upd_keep hp a u h⟩, fun a z => by
    have := h a
    by_cases e : p = a
    · subst e; exact .inr hp
    · rw [if_neg e] at this; exact .inl (by omega), fun _ h => .inl h⟩
/-- a value without own nodes comes to hand -/
theorem Wd.push (w : Wd Z F B H σ env xs vs Se St) (r : Rep Z ⟨F, B, fun a => 0 < cn a Se⟩ H t v []) : Wd Z F B H σ env (xs ++ [t]) (vs ++ [v]) Se St :=
  ⟨w.er, by simpa using w.tr.append (RepL.one.mpr r), w.nd, w.dj, w.al⟩
/-- the values in hand, parted -/
theorem Wd.split (w : Wd Z F B H σ env (xs ++ ys) vs Se St) : ∃ v1 v2 f1 f2, vs = v1 ++ v2 ∧ St = f1 ++ f2 ∧ RepL Z ⟨F, B, fun a => 0 < cn a Se⟩ H ys v2 f2 ∧ Wd Z F B H σ env xs v1 Se f1 := by
  obtain ⟨v1, v2, f1, f2, rfl, rfl, a, b⟩ := w.tr.split
  refine ⟨v1, v2, f1, f2, rfl, rfl, b, w.er, a, fun x => ?_, fun x h => ?_, w.al⟩
  · have := w.nd x; simp at this; omega
  · have := w.dj x h; simp at this; omega
theorem append_inj1 {α : Type} {a b : List α} {x y : α} (h : a ++ [x] = b ++ [y]) : a = b ∧ x = y := by
  have := List.append_inj' h rfl
  exact ⟨this.1, by simpa using this.2⟩
/-- with the list of values given -/
theorem Wd.split' (w : Wd Z F B H σ env (xs ++ ys) (vs ++ ws) Se St) (hl : ys.length = ws.length) : ∃ f1 f2, St = f1 ++ f2 ∧ RepL Z ⟨F, B, fun a => 0 < cn a Se⟩ H ys ws f2 ∧ Wd Z F B H σ env xs vs Se f1 := by
  obtain ⟨v1, v2, f1, f2, e, rfl, r, w'⟩ := w.split
  have l := r.length
  obtain ⟨rfl, rfl⟩ := List.append_inj' e (by omega)
  exact ⟨f1, f2, rfl, r, w'⟩
theorem Wd.pop (w : Wd Z F B H σ env (xs ++ [t]) (vs ++ [v]) Se St) : ∃ f1 f2, St = f1 ++ f2 ∧ Rep Z ⟨F, B, fun a => 0 < cn a Se⟩ H t v f2 ∧ Wd Z F B H σ env xs vs Se f1 := by
  obtain ⟨f1, f2, e, r, w'⟩ := w.split' rfl
  exact ⟨f1, f2, e, RepL.one.mp r, w'⟩
theorem step_drop {f1 f2 : List Addr} : Step F H (Se ++ (f1 ++ f2)) F H (Se ++ f1) := Step.le fun a => by simp
/-- a new own list of values in hand -/
theorem Wd.newList (w : Wd Z F B H σ env (xs ++ ys) (vs ++ ws) Se St) (hl : ys.length = ws.length) (nv : T.hasL Fl.isVw ys = false) {p : Addr} (hp : H p = none) :
    ∃ St', Wd Z F B (upd H p (.lst ws)) σ env (xs ++ [.lst .own ys]) (vs ++ [.ref p]) Se St' ∧ Step F H (Se ++ St) F (upd H p (.lst ws)) (Se ++ St') := by
  obtain ⟨f1, f2, rfl, r, w'⟩ := w.split' hl
  have g := w'.grow (upd_keep (o := .lst ws) hp)
  obtain ⟨c1, c2, c3, c4⟩ := w.fresh hp
  refine ⟨f1 ++ (p :: f2), ⟨g.er, g.tr.append (RepL.one.mpr ⟨p, ws, f2, rfl, trivial, upd_same, rfl, fun z => absurd rfl z, RepL.mono (fun _ h => h) (fun _ h => h) (fun _ h => h) _ _ _ r fun a o h _ => upd_keep hp a o h⟩), fun a => ?_, fun a h => ?_, g.al⟩, Step.alloc hp fun a => ?_⟩
  · have := w.nd a
    simp at this ⊢
    by_cases e : p = a
    · subst e; simp at c2; simp [c1, c2]
    · simp [e]; omega
  · have := w.dj a h
    simp at this ⊢
    have e : ¬ p = a := by rintro rfl; exact h.elim c3 c4
    simp [e]; omega
  · simp; omega
/-- a new tuple of values in hand -/
theorem Wd.newTup (w : Wd Z F B H σ env (xs ++ ys) (vs ++ ws) Se St) (hl : ys.length = ws.length) {p : Addr} (hp : H p = none) :
    ∃ St', Wd Z F B (upd H p (.tup ws)) σ env (xs ++ [.tup ys]) (vs ++ [.ref p]) Se St' ∧ Step F H (Se ++ St) F (upd H p (.tup ws)) (Se ++ St') := by
  obtain ⟨f1, f2, rfl, r, w'⟩ := w.split' hl
  have g := w'.grow (upd_keep (o := .tup ws) hp)
  refine ⟨f1 ++ f2, ⟨g.er, g.tr.append (RepL.one.mpr ⟨p, ws, rfl, SqT.of upd_same, RepL.mono (fun _ h => h) (fun _ h => h) (fun _ h => h) _ _ _ r fun a o h _ => upd_keep hp a o h⟩), w.nd, w.dj, g.al⟩, Step.alloc hp fun a => ?_⟩
  omega
/-- a new own dict of values in hand -/
theorem Wd.newDic (w : Wd Z F B H σ env (xs ++ ys) (vs ++ ws) Se St) (hl : ys.length = ws.length) {ks : List Key} (hk : ks.length = ws.length ∧ ks.Nodup) {p : Addr} (hp : H p = none) :
    ∃ St', Wd Z F B (upd H p (.dK (ks.zip ws))) σ env (xs ++ [.dic .own ks ys]) (vs ++ [.ref p]) Se St' ∧ Step F H (Se ++ St) F (upd H p (.dK (ks.zip ws))) (Se ++ St') := by
  obtain ⟨f1, f2, rfl, r, w'⟩ := w.split' hl
  have g := w'.grow (upd_keep (o := .dK (ks.zip ws)) hp)
  obtain ⟨c1, c2, c3, c4⟩ := w.fresh hp
  refine ⟨f1 ++ (p :: f2), ⟨g.er, g.tr.append (RepL.one.mpr ⟨p, ws, f2, rfl, trivial, hk, .inl upd_same, rfl, fun z => absurd rfl z, RepL.mono (fun _ h => h) (fun _ h => h) (fun _ h => h) _ _ _ r fun a o h _ => upd_keep hp a o h⟩), fun a => ?_, fun a h => ?_, g.al⟩, Step.alloc hp fun a => ?_⟩
  · have := w.nd a
    simp at this ⊢
    by_cases e : p = a
    · subst e; simp at c2; simp [c1, c2]
    · simp [e]; omega
  · have := w.dj a h
    simp at this ⊢
    have e : ¬ p = a := by rintro rfl; exact h.elim c3 c4
    simp [e]; omega
  · simp; omega
/-- a slot is looked at -/
theorem Wd.view (w : Wd Z F B H σ env xs vs Se St) {i : Nat} (e : env[i]? = some (some t)) : ∃ v, σ[i]? = some (some v) ∧ Wd Z F B H σ env (xs ++ [t.mapF Fl.vie]) (vs ++ [v]) Se St := by
  obtain ⟨v, f1, f2, f3, hv, hS, r, _⟩ := w.er.get e
  refine ⟨v, hv, w.push ?_⟩
  refine Rep.map (G := ⟨F, B, fun _ => False⟩) (G' := ⟨F, B, fun a => 0 < cn a Se⟩) (g := Fl.vie) ⟨by decide, fun f nf => ⟨by cases f <;> first | exact absurd rfl nf | decide, fun a h => ?_⟩, fun _ h => h⟩ t v f2 r fun a h => ?_
  · cases f with
    | own => exact absurd rfl nf
    | frz => exact h
    | brw => exact h
    | vw => exact h.elim
  · show 0 < cn a Se
    have : 0 < cn a f2 := cn_pos.mpr h
    rw [hS]; simp; omega
/-- a slot is emptied into the hand -/
theorem Wd.move (w : Wd Z F B H σ env xs vs Se St) (nv : T.hasL Fl.isVw xs = false) {i : Nat} (e : env[i]? = some (some t)) :
    ∃ v Se' St', σ[i]? = some (some v) ∧ Wd Z F B H σ (env.set i none) (xs ++ [t]) (vs ++ [v]) Se' St' ∧ Step F H (Se ++ St) F H (Se' ++ St') := by
  obtain ⟨v, f1, f2, f3, hv, rfl, r, d⟩ := w.er.get e
  refine ⟨v, f1 ++ f3, St ++ f2, hv, ⟨d, (RepL.noW (W' := fun a => 0 < cn a (f1 ++ f3)) xs vs St nv w.tr).append (RepL.one.mpr (Rep.mono (G := ⟨F, B, fun _ => False⟩) (G' := ⟨F, B, fun a => 0 < cn a (f1 ++ f3)⟩) (fun _ h => h) (fun _ h => h) (fun _ h => False.elim h) t v f2 r fun a o h _ => h)), fun a => ?_, fun a h => ?_, w.al⟩, Step.le fun a => ?_⟩
  · have := w.nd a; simp at this ⊢; omega
  · have := w.dj a h; simp at this ⊢; omega
  · simp; omega
/-- a slot is forgotten -/
theorem Wd.forget (w : Wd Z F B H σ env xs vs Se St) (nv : T.hasL Fl.isVw xs = false) (i : Nat) : ∃ Se', Wd Z F B H σ (env.set i none) xs vs Se' St ∧ Step F H (Se ++ St) F H (Se' ++ St) := by
  obtain ⟨S', hs, d⟩ := w.er.drop (i := i)
  refine ⟨S', ⟨d, RepL.noW (W' := fun a => 0 < cn a S') xs vs St nv w.tr, fun a => ?_, fun a h => ?_, w.al⟩, Step.le fun a => ?_⟩
  · have := w.nd a; have := cn_sub (a := a) hs; omega
  · have := w.dj a h; have := cn_sub (a := a) hs; omega
  · have := cn_sub (a := a) hs; simp; omega
/-- the last value in hand is stored in a slot -/
theorem Wd.store (w : Wd Z F B H σ env (xs ++ [t]) (vs ++ [v]) Se St) (nv : T.hasL Fl.isVw (xs ++ [t]) = false) {i : Nat} (hi : i < env.length) :
    ∃ Se' St', Wd Z F B H (σ.set i (some v)) (env.set i (some t)) xs vs Se' St' ∧ Step F H (Se ++ St) F H (Se' ++ St') := by
  obtain ⟨S1, w1, s1⟩ := w.forget nv i
  obtain ⟨f1, f2, rfl, r, w2⟩ := w1.pop
  have nv1 : T.hasL Fl.isVw xs = false ∧ t.has Fl.isVw = false := by
    rw [hasL_eq] at nv ⊢
    simp at nv ⊢
    exact nv
  obtain ⟨g1, g2, rfl, d⟩ := w2.er.put (i := i) (by simp [hi]) (Rep.noW (W' := fun _ => False) t v f2 nv1.2 r)
  rw [List.set_set] at d
  refine ⟨g1 ++ f2 ++ g2, f1, ⟨d, RepL.noW (W' := fun a => 0 < cn a (g1 ++ f2 ++ g2)) xs vs f1 nv1.1 w2.tr, fun a => ?_, fun a h => ?_, w.al⟩, s1.trans (Step.le fun a => ?_)⟩
  · have := w1.nd a; simp at this ⊢; omega
  · have := w1.dj a h; simp at this ⊢; omega
  · simp; omega
/-- the last value in hand is frozen -/
theorem Wd.freeze (w : Wd Z F B H σ env (xs ++ [t]) (vs ++ [v]) Se St) :
    ∃ F' St', Wd Z F' B H σ env (xs ++ [t.mapF Fl.fre]) (vs ++ [v]) Se St' ∧ Step F H (Se ++ St) F' H (Se ++ St') := by
  obtain ⟨f1, f2, rfl, r, w2⟩ := w.pop
  have mT : ∀ a, 0 < cn a f2 → ∃ o, H a = some o := fun a h => by
    have := Rep.mut _ _ _ r a (cn_pos.mp h)
    cases e : H a with
    | none => rw [e] at this; exact this.elim
    | some o => exact ⟨o, rfl⟩
  refine ⟨fun a => F a ∨ 0 < cn a f2, f1, ⟨EnvRep.mono (G := ⟨F, B, fun _ => False⟩) (G' := ⟨fun a => F a ∨ 0 < cn a f2, B, fun _ => False⟩) (fun _ h => .inl h) (fun _ h => h) (fun _ h => h) w2.er fun a o h _ => h, ?_, w2.nd, fun a h => ?_, fun a h => ?_⟩, ⟨fun _ h => .inl h, fun _ _ h _ => h, fun _ o h => ⟨o, h⟩, fun a h => .inl (by simp at h ⊢; omega), fun a h => ?_⟩⟩
  · have r' := Rep.map (G := ⟨F, B, fun a => 0 < cn a Se⟩) (G' := ⟨fun a => F a ∨ 0 < cn a f2, B, fun a => 0 < cn a Se⟩) (g := Fl.fre) ⟨by decide, fun f nf => ⟨by cases f <;> first | exact absurd rfl nf | decide, fun a h => ?_⟩, fun _ h => .inl h⟩ t v f2 r fun a h => .inr (cn_pos.mpr h)
    · simpa using (RepL.mono (G := ⟨F, B, fun a => 0 < cn a Se⟩) (G' := ⟨fun a => F a ∨ 0 < cn a f2, B, fun a => 0 < cn a Se⟩) (fun _ h => .inl h) (fun _ h => h) (fun _ h => h) _ _ _ w2.tr fun a o h _ => h).append (RepL.one.mpr r')
    · cases f with
      | own => exact absurd rfl nf
      | frz => exact .inl h
      | brw => exact h
      | vw => exact h
  · rcases h with (h | h) | h
    · have := w2.dj a (.inl h); exact this
    · have := w.nd a; simp at this ⊢; omega
    · have := w2.dj a (.inr h); exact this
  · rcases h with (h | h) | h
    · exact w.al a (.inl h)
    · exact mT a h
    · exact w.al a (.inr h)
  · rcases h with h | h
    · exact .inl h
    · exact .inr (.inl (by simp; omega))
end
end VI

namespace VI
open PySem L2
/-! places within a tree -/
/-- a step: a field of an instance of a class, a key (of a dict, a list, a tuple) -/
inductive Pst where | f (c k : Nat) | k (k : Key)
  deriving DecidableEq
def kix (ks : List Key) (k : Key) : Option Nat := ks.findIdx? fun x => decide (x = k)
def stepT : Pst → T → Option (Nat × T)
  | .f c k, .ins .own c' vs => if c' = c then (vs[k]?).map fun t => (k, t) else none
  | .k k, .dic .own ks vs => (kix ks k).bind fun j => (vs[j]?).map fun t => (j, t)
  | .k (.inl i), .lst .own vs => (L2.ixN vs.length i).bind fun j => (vs[j]?).map fun t => (j, t)
  | .k (.inl i), .tup vs => (L2.ixN vs.length i).bind fun j => (vs[j]?).map fun t => (j, t)
  | _, _ => none
/-- a child replaced -/
def setC : T → Nat → T → T
  | .ins f c vs, j, t => .ins f c (vs.set j t)
  | .dic f ks vs, j, t => .dic f ks (vs.set j t)
  | .lst f vs, j, t => .lst f (vs.set j t)
  | .tup vs, j, t => .tup (vs.set j t)
  | u, _, _ => u
def getP : List Pst → T → Option T
  | [], t => some t
  | s :: r, t => (stepT s t).bind fun p => getP r p.2
def setP : List Pst → T → T → T
  | [], _, u => u
  | s :: r, t, u => match stepT s t with | some p => setC t p.1 (setP r p.2 u) | none => t
/-! dicts by their keys -/
theorem kix_cons {a k : Key} {ks : List Key} : kix (a :: ks) k = if a = k then some 0 else (kix ks k).map (· + 1) := by
  unfold kix
  rw [List.findIdx?_cons]
  by_cases e : a = k <;> simp [e]
theorem valV_zip : ∀ {ks : List Key} {vs : List V} {k : Key}, ks.length = vs.length → valV (ks.zip vs) k = (kix ks k).bind fun j => vs[j]?
  | [], [], k, _ => rfl
  | a :: ks, v :: vs, k, h => by
    rw [List.zip_cons_cons, kix_cons]
    by_cases e : a = k
    · rw [valV_pos e, if_pos e]; rfl
    · rw [valV_neg e, if_neg e, valV_zip (by simpa using h)]
      cases kix ks k <;> rfl
  | [], _ :: _, _, h => by simp at h
  | _ :: _, [], _, h => by simp at h
theorem kix_lt : ∀ {ks : List Key} {k : Key} {j : Nat}, kix ks k = some j → j < ks.length
  | [], k, j, h => by simp [kix] at h
  | a :: ks, k, j, h => by
    rw [kix_cons] at h
    split at h
    · cases h; simp
    · obtain ⟨i, hi, rfl⟩ := Option.map_eq_some_iff.mp h
      have := kix_lt hi
      simp; omega
theorem kix_none : ∀ {ks : List Key} {k : Key}, kix ks k = none → ∀ a ∈ ks, a ≠ k
  | [], k, _ => by simp
  | a :: ks, k, h => by
    rw [kix_cons] at h
    split at h
    · cases h
    · rename_i e
      intro b hb
      rcases List.mem_cons.mp hb with rfl | hb
      · exact e
      · exact kix_none (Option.map_eq_none_iff.mp h) b hb
/-- the children of a node -/
def kids : T → List T
  | .ins _ _ vs => vs | .dic _ _ vs => vs | .lst _ vs => vs | .tup vs => vs | _ => []
section
variable {Z : Wo} {G G' : Sh} {H H' : Hp}
/-- the heap says that the step leads there -/
def VS (Z : Wo) (H : Hp) : Pst → V → V → Prop
  | .f c k, v, u => ∃ p dx us x, v = .ref p ∧ H p = some (.ins (Z.cls c) dx ((Z.fl c).zip us)) ∧ us.length ≤ (Z.fl c).length ∧ (Z.fl c)[k]? = some x ∧ us[k]? = some u
  | .k k, v, u => ∃ p, v = .ref p ∧ ((∃ kvs, Rd H p (.dK kvs) ∧ valV kvs k = some u) ∨ ∃ i us, k = .inl i ∧ L2.atI us i = some u ∧ ((H p = some (.lst us)) ∨ SqT Z.K H p us))
theorem RepL.parts : ∀ {xs : List T} {vs : List V} {fp : List Addr} {j : Nat} {t : T}, RepL Z G H xs vs fp → xs[j]? = some t → ∃ v g1 g2, vs[j]? = some v ∧ (∀ a, cn a fp = cn a g1 + cn a g2) ∧ Rep Z G H t v g2 ∧
    ∀ (G' : Sh) (H' : Hp) (t' : T) (g2' : List Addr), (∀ a, G.F a → G'.F a) → (∀ a, G.B a → G'.B a) → (∀ a, G.W a → G'.W a) → (∀ a o, H a = some o → Leans G g1 a o → H' a = some o) → Rep Z G' H' t' v g2' →
      ∃ fp', RepL Z G' H' (xs.set j t') vs fp' ∧ ∀ a, cn a fp' = cn a g1 + cn a g2' := fun {xs} => by
  induction xs with
  | nil => intro vs fp j t h e; simp at e
  | cons x xs ih =>
    intro vs fp j t h e
    obtain ⟨v, vs', f1, f2, rfl, rfl, r1, r2⟩ := h
    cases j with
    | zero =>
      simp at e; subst e
      refine ⟨v, f2, f1, rfl, fun a => by simp; omega, r1, fun G' H' t' g2' hF hB hW k r => ⟨g2' ++ f2, ⟨v, vs', g2', f2, rfl, rfl, r, RepL.mono hF hB hW _ _ _ r2 k⟩, fun a => by simp; omega⟩⟩
    | succ j =>
      obtain ⟨u, g1, g2, hu, hc, r, mk⟩ := ih r2 (by simpa using e)
      refine ⟨u, f1 ++ g1, g2, by simpa using hu, fun a => by have := hc a; simp; omega, r, fun G' H' t' g2' hF hB hW k r' => ?_⟩
      obtain ⟨fp', r3, hc'⟩ := mk G' H' t' g2' hF hB hW (fun a o h l => k a o h (l.sub fun _ z => List.mem_append_right _ z)) r'
      exact ⟨f1 ++ fp', ⟨v, vs', f1, fp', rfl, rfl, Rep.mono hF hB hW _ _ _ r1 fun a o h l => k a o h (l.sub fun _ z => List.mem_append_left _ z), r3⟩, fun a => by have := hc' a; simp; omega⟩
/-- c stands within t, at w; f1 is the footprint around it -/
structure Zip (Z : Wo) (G : Sh) (H : Hp) (t : T) (v : V) (fp : List Addr) (c : T) (w : V) (f1 f2 : List Addr) (st : T → T) : Prop where
  cnt : ∀ a, cn a fp = cn a f1 + cn a f2
  rep : Rep Z G H c w f2
  re : ∀ (G' : Sh) (H' : Hp) (c' : T) (f2' : List Addr), (∀ a, G.F a → G'.F a) → (∀ a, G.B a → G'.B a) → (∀ a, G.W a → G'.W a) → (∀ a o, H a = some o → Leans G f1 a o → H' a = some o) → Rep Z G' H' c' w f2' →
    ∃ fp', Rep Z G' H' (st c') v fp' ∧ ∀ a, cn a fp' = cn a f1 + cn a f2'
theorem Zip.refl {t : T} {v : V} {fp : List Addr} (r : Rep Z G H t v fp) : Zip Z G H t v fp t v [] fp id :=
  ⟨fun a => by simp, r, fun G' H' c' f2' _ _ _ _ r' => ⟨f2', r', fun a => by simp⟩⟩
theorem leans_hd {p : Addr} {g : List Addr} {o : HO} : Leans G (Fl.own.hd p ++ g) p o := .inr (.inl (by simp [hd_own]))
/-- one step, by itself -/
theorem Rep.step {s : Pst} {c d : T} {w : V} {f2 : List Addr} {j : Nat} (r : Rep Z G H c w f2) (h : stepT s c = some (j, d)) : ∃ u g1 g2, VS Z H s w u ∧ Zip Z G H c w f2 d u g1 g2 (setC c j) := by
  unfold stepT at h
  split at h
  · rename_i c0 k c' vs
    split at h
    case isFalse => cases h
    rename_i e
    subst e
    obtain ⟨t, ht, e⟩ := Option.map_eq_some_iff.mp h
    obtain ⟨rfl, rfl⟩ : k = j ∧ t = d := by cases e; exact ⟨rfl, rfl⟩
    obtain ⟨p, dx, us, fp', rfl, _, l, hp, rfl, _, rl⟩ := r
    obtain ⟨u, g1, g2, hu, hc, r, mk⟩ := rl.parts ht
    have hk : k < (Z.fl c').length := by have := (List.getElem?_eq_some_iff.mp ht).1; omega
    refine ⟨u, Fl.own.hd p ++ g1, g2, ⟨p, dx, us, _, rfl, hp, by rw [← rl.length]; exact l, (List.getElem?_eq_some_iff.mpr ⟨hk, rfl⟩), hu⟩, fun a => by have := hc a; simp; omega, r, fun G' H' t' g2' hF hB hW k' r' => ?_⟩
    obtain ⟨fp', r3, hc'⟩ := mk G' H' t' g2' hF hB hW (fun a o h l => k' a o h (l.sub fun _ z => List.mem_append_right _ z)) r'
    exact ⟨Fl.own.hd p ++ fp', ⟨p, dx, us, fp', rfl, trivial, by simpa using l, k' _ _ hp leans_hd, rfl, fun z => absurd rfl z, r3⟩, fun a => by have := hc' a; simp; omega⟩
  · rename_i k ks vs
    obtain ⟨i, hi, h⟩ := Option.bind_eq_some_iff.mp h
    obtain ⟨t, ht, e⟩ := Option.map_eq_some_iff.mp h
    cases e
    obtain ⟨p, us, fp', rfl, _, l, hp, rfl, _, rl⟩ := r
    obtain ⟨u, g1, g2, hu, hc, r, mk⟩ := rl.parts ht
    refine ⟨u, Fl.own.hd p ++ g1, g2, ⟨p, rfl, .inl ⟨_, hp.rd, by rw [valV_zip l.1, hi]; exact hu⟩⟩, fun a => by have := hc a; simp; omega, r, fun G' H' t' g2' hF hB hW k' r' => ?_⟩
    obtain ⟨fp', r3, hc'⟩ := mk G' H' t' g2' hF hB hW (fun a o h l => k' a o h (l.sub fun _ z => List.mem_append_right _ z)) r'
    exact ⟨Fl.own.hd p ++ fp', ⟨p, us, fp', rfl, trivial, l, .inl (k' _ _ hp.own leans_hd), rfl, fun z => absurd rfl z, r3⟩, fun a => by have := hc' a; simp; omega⟩
  · rename_i i vs
    obtain ⟨j', hi, h⟩ := Option.bind_eq_some_iff.mp h
    obtain ⟨t, ht, e⟩ := Option.map_eq_some_iff.mp h
    cases e
    obtain ⟨p, us, fp', rfl, _, hp, rfl, _, rl⟩ := r
    obtain ⟨u, g1, g2, hu, hc, r, mk⟩ := rl.parts ht
    refine ⟨u, Fl.own.hd p ++ g1, g2, ⟨p, rfl, .inr ⟨i, us, rfl, by unfold L2.atI; rw [← rl.length, hi]; exact hu, .inl hp⟩⟩, fun a => by have := hc a; simp; omega, r, fun G' H' t' g2' hF hB hW k' r' => ?_⟩
    obtain ⟨fp', r3, hc'⟩ := mk G' H' t' g2' hF hB hW (fun a o h l => k' a o h (l.sub fun _ z => List.mem_append_right _ z)) r'
    exact ⟨Fl.own.hd p ++ fp', ⟨p, us, fp', rfl, trivial, k' _ _ hp leans_hd, rfl, fun z => absurd rfl z, r3⟩, fun a => by have := hc' a; simp; omega⟩
  · rename_i i vs
    obtain ⟨j', hi, h⟩ := Option.bind_eq_some_iff.mp h
    obtain ⟨t, ht, e⟩ := Option.map_eq_some_iff.mp h
    cases e
    obtain ⟨p, us, rfl, hp, rl⟩ := r
    obtain ⟨u, g1, g2, hu, hc, r, mk⟩ := rl.parts ht
    refine ⟨u, g1, g2, ⟨p, rfl, .inr ⟨i, us, rfl, by unfold L2.atI; rw [← rl.length, hi]; exact hu, .inr hp⟩⟩, hc, r, fun G' H' t' g2' hF hB hW k' r' => ?_⟩
    obtain ⟨fp', r3, hc'⟩ := mk G' H' t' g2' hF hB hW k' r'
    exact ⟨fp', ⟨p, us, rfl, SqT.keep hp fun a o h1 h2 => k' a o h1 (.inl h2), r3⟩, hc'⟩
  · cases h
theorem Zip.trans {t c d : T} {v w u : V} {fp f1 f2 g1 g2 : List Addr} {st st' : T → T} (a : Zip Z G H t v fp c w f1 f2 st) (b : Zip Z G H c w f2 d u g1 g2 st') : Zip Z G H t v fp d u (f1 ++ g1) g2 (st ∘ st') where
  cnt := fun x => by have := a.cnt x; have := b.cnt x; simp; omega
  rep := b.rep
  re := fun G' H' c' f2' hF hB hW k r => by
    obtain ⟨p1, r1, h1⟩ := b.re G' H' c' f2' hF hB hW (fun a o h l => k a o h (l.sub fun _ z => List.mem_append_right _ z)) r
    obtain ⟨p2, r2, h2⟩ := a.re G' H' _ p1 hF hB hW (fun a o h l => k a o h (l.sub fun _ z => List.mem_append_left _ z)) r1
    exact ⟨p2, r2, fun a => by have := h1 a; have := h2 a; simp; omega⟩
/-- the heap grows, the sharings too -/
theorem Zip.grow {t c : T} {v w : V} {fp f1 f2 : List Addr} {st : T → T} (z : Zip Z G H t v fp c w f1 f2 st) (hF : ∀ a, G.F a → G'.F a) (hB : ∀ a, G.B a → G'.B a) (hW : ∀ a, G.W a → G'.W a) (k : ∀ a o, H a = some o → H' a = some o) : Zip Z G' H' t v fp c w f1 f2 st where
  cnt := z.cnt
  rep := Rep.mono hF hB hW _ _ _ z.rep fun a o h _ => k a o h
  re := fun G2 H2 c' f2' hF2 hB2 hW2 k2 r => z.re G2 H2 c' f2' (fun a h => hF2 a (hF a h)) (fun a h => hB2 a (hB a h)) (fun a h => hW2 a (hW a h)) (fun a o h l => k2 a o (k a o h) (by
    rcases l with l | l | l | l | l
    · exact .inl l
    · exact .inr (.inl l)
    · exact .inr (.inr (.inl (hF a l)))
    · exact .inr (.inr (.inr (.inl (hB a l))))
    · exact .inr (.inr (.inr (.inr (hW a l)))))) r
end
end VI

namespace VI
open PySem L2
/-! rules by values for dicts -/
section
variable {X : Cx}
def rIxG : R2 := fun x y H Q => ∃ a v, x = .ref a ∧ DGet H a y (some v) ∧ Q v H
theorem ix_dict (hu : X.A.units + 1 < cLine) : IxR X rIxG := by
  intro value slice pins s σ H x y v u Q I rx ry h hs
  obtain ⟨a, w, rfl, g, q⟩ := h
  obtain rfl : v = Value.ref a := rx
  exact PyProof.Rows.tail_any (dict_typeIs I g) PySem.F.slot_dict_getitem.lookup (d_getItem hu I g ry fun w' s3 I3 rw' => ⟨w, H, I3, rw', q⟩) hs
def rInG (neg : Bool) : R2 := fun y x H Q => ∃ a o, x = .ref a ∧ DGet H a y o ∧ Q (.bl (if neg then !o.isSome else o.isSome)) H
theorem op_inD (hu : X.A.units + 1 < cLine) : OpR X (compareOp .In) (rInG false) := by
  intro pins s σ H y x u v Q I ry rx h
  obtain ⟨a, o, rfl, g, q⟩ := h
  obtain rfl : v = Value.ref a := rx
  exact d_in hu I g ry fun s3 I3 => ⟨.bl o.isSome, H, I3, rfl, q⟩
theorem op_ninD (hu : X.A.units + 1 < cLine) : OpR X (compareOp .NotIn) (rInG true) := by
  intro pins s σ H y x u v Q I ry rx h
  obtain ⟨a, o, rfl, g, q⟩ := h
  obtain rfl : v = Value.ref a := rx
  exact d_notIn hu I g ry fun s3 I3 => ⟨.bl (!o.isSome), H, I3, rfl, q⟩
def rSetG : V → V → V → Hp → (Hp → Prop) → Prop := fun o i v H Q => ∃ a H4, o = .ref a ∧ DPut H a i v H4 ∧ Q H4
theorem set_dict (hu : X.A.units + 1 < cLine) : PSet X rSetG := by
  intro pins s σ H o i v ov iv u Q I ro ri rv h
  obtain ⟨a, H4, rfl, g, q⟩ := h
  obtain rfl : ov = Value.ref a := ro
  exact d_setItem hu I g ri rv fun s4 I4 => ⟨H4, I4, q⟩
theorem call_lenG : CallR X (.builtin "len") (fun xs H Q => ∃ a kvs, xs = [V.ref a] ∧ Rd H a (.dK kvs) ∧ Q (.int kvs.length) H) := by
  intro pins s σ H xs us Q I r h
  obtain ⟨a, kvs, rfl, ha, q⟩ := h
  obtain ⟨u, rfl, ru⟩ := vals1 r
  cases ru
  exact d_len I ha fun t s' I' => ⟨.int kvs.length, H, I', ⟨t, rfl⟩, q⟩
end
/-! dicts as trees -/
def dput (ks : List Key) (vs : List T) (k : Key) (t : T) : List Key × List T := match kix ks k with
  | some j => (ks, vs.set j t)
  | none => (ks ++ [k], vs ++ [t])
theorem zip_keys {α : Type} : ∀ {ks : List Key} {vs : List α}, ks.length = vs.length → (ks.zip vs).map (·.1) = ks
  | [], [], _ => rfl
  | a :: ks, v :: vs, h => by simp [zip_keys (ks := ks) (vs := vs) (by simpa using h)]
  | [], _ :: _, h => by simp at h
  | _ :: _, [], h => by simp at h
theorem any_kix : ∀ {ks : List Key} {vs : List V} {k : Key}, ks.length = vs.length → ((ks.zip vs).any fun kv => decide (kv.1 = k)) = (kix ks k).isSome
  | [], [], k, _ => rfl
  | a :: ks, v :: vs, k, h => by
    rw [List.zip_cons_cons, List.any_cons, any_kix (by simpa using h), kix_cons]
    by_cases e : a = k <;> simp [e]
  | [], _ :: _, _, h => by simp at h
  | _ :: _, [], _, h => by simp at h
/-- a store under a key that is there once -/
theorem putK_set : ∀ {ks : List Key} {vs : List V} {k : Key} {j : Nat} {v : V}, ks.length = vs.length → ks.Nodup → kix ks k = some j → (ks.zip vs).map (fun kv => if kv.1 = k then (kv.1, v) else kv) = ks.zip (vs.set j v)
  | [], [], k, j, v, _, _, h => by simp [kix] at h
  | a :: ks, w :: vs, k, j, v, hl, hn, h => by
    rw [kix_cons] at h
    rw [List.zip_cons_cons, List.map_cons]
    obtain ⟨h1, h2⟩ := List.nodup_cons.mp hn
    by_cases e : a = k
    · rw [if_pos e] at h
      cases h
      subst e
      rw [List.set_cons_zero, List.zip_cons_cons]
      congr 1
      · simp
      · have : ∀ {ks : List Key} {vs : List V}, a ∉ ks → (ks.zip vs).map (fun kv => if kv.1 = a then (kv.1, v) else kv) = ks.zip vs := by
          intro ks
          induction ks with
          | nil => intro vs _; rfl
          | cons b ks ih =>
            intro vs hb
            cases vs with
            | nil => rfl
            | cons y vs =>
              simp only [List.mem_cons, not_or] at hb
              rw [List.zip_cons_cons, List.map_cons, ih hb.2, if_neg (fun z => hb.1 z.symm)]
        exact this h1
    · rw [if_neg e] at h
      obtain ⟨i, hi, rfl⟩ := Option.map_eq_some_iff.mp h
      rw [List.set_cons_succ, List.zip_cons_cons, putK_set (by simpa using hl) h2 hi, if_neg e]
  | [], _ :: _, _, _, _, h, _, _ => by simp at h
  | _ :: _, [], _, _, _, h, _, _ => by simp at h
end VI

namespace VI
open PySem PySem.Spec PyProof.Rows L2
/-! enumerate over a dict -/
section
variable {prog : Program} {w : World} {A : Around} {E : Value → Shared → Prop} {s : Shared}
theorem nextOf_key_item {it d : Addr} {i n ep : Nat} {od : Obj} {es : Array DictEntry} {en : DictEntry} {Q : Value → Shared → Prop} (hit : s.heap.IsKeyIter it d i n ep) (hod : s.heap.get? d = some od) (hdd : od.data = .dict es ep)
    (hsz : es.size = n) (hx : es[i]? = some en) (hQ : ∀ h', h'.IsKeyIter it d (i + 1) n ep → Heap.SameBut it s.heap h' → Q en.key { s with heap := h' }) : wpAny (model prog w) A (Builtin.SmallTypes.nextOf (.ref it)) Q E s := by
  obtain ⟨o, ho, hc, hd⟩ := id hit
  unfold Builtin.SmallTypes.nextOf
  refine wpAny_bind (wpAny_callSpecial?_slot (name := Str.ofString "__next__") hit.typeIs F.slot_dict_keyiterator_next
    (wpAny_call_entry F.slot_dict_keyiterator_next hit.typeIs F.entry_dict_keyiterator_next ?_ (F.args_dict_keyiterator_next_1 _)))
  refine wpAny_bind (wpAny_pure ?_)
  refine wpAny_bind ?_
  refine wpAny_bind ?_
  first | refine wpAny_bind (wpAny_typeNameOfWhole_keyiter hit.typeIs (wpAny_pure ?_)) | refine wpAny_bind (wpAny_typeNameOf_keyiter hit.typeIs (wpAny_pure ?_))
  refine wpAny_bind (wpAny_fieldsOf ho hd ?_)
  have hown : Builtin.Dict_items.ownsTuple "dict_keyiterator" = false := by decide
  simp only [hown, Bool.false_eq_true, if_false]
  show wpAny _ _ (if (Value.ref d == Value.none) = true then _ else _) _ _ s
  rw [if_neg (show ¬ ((Value.ref d == Value.none) = true) from Bool.false_ne_true)]
  refine wpAny_bind (wpAny_pure ?_)
  refine wpAny_bind (wpAny_dictEntries hod hdd ?_)
  rw [if_neg (by rw [hsz]; simp)]
  refine wpAny_bind (wpAny_pure ?_)
  refine wpAny_bind (wpAny_dictEpoch hod hdd ?_)
  rw [if_neg (by simp)]
  refine wpAny_pure ?_
  obtain ⟨hlt', hen⟩ := Array.getElem?_eq_some_iff.mp hx
  simp only [show ¬ ((i : Int) < 0) from by omega, if_false, Int.toNat_natCast, Array.getElem?_eq_getElem hlt']
  refine wpAny_bind ?_
  first | refine wpAny_bind (wpAny_typeNameOfWhole_keyiter hit.typeIs (wpAny_pure ?_)) | refine wpAny_bind (wpAny_typeNameOf_keyiter hit.typeIs (wpAny_pure ?_))
  refine wpAny_bind (wpAny_isOneOf_keyiter hit.typeIs ?_)
  show wpAny _ _ (setField (.ref it) 1 (rawInt ((i : Int) + 1)) >>= _) _ _ s
  refine wpAny_bind (wpAny_setField ho hd (by simp) ?_)
  have hit' : (s.heap.update it (Obj.mapFields (·.setIfInBounds 1 (rawInt ((i : Int) + 1))))).IsKeyIter it d (i + 1) n ep :=
    ⟨_, Heap.get?_update_self _ ho (Obj.isFreed_of_fields (Obj.data_mapFields hd _)), (Obj.cls_mapFields ..).trans hc, by rw [Obj.data_mapFields hd]; simp [rawInt]⟩
  refine wpAny_bind (wpAny_holding ?_)
  refine wpAny_bind (wpAny_isOneOf_keyiter (s := { s with heap := s.heap.update it (Obj.mapFields (·.setIfInBounds 1 (rawInt ((i : Int) + 1)))) }) hit'.typeIs ?_)
  show wpAny _ _ (pure es[i].key) _ _ _
  rw [hen]
  exact wpAny_pure (wpAny_pure ⟨_, rfl, wpAny_pure (hQ _ hit' (Heap.SameBut.update ..))⟩)
theorem nextOf_key_end {it d : Addr} {i n ep : Nat} {od : Obj} {es : Array DictEntry} {Q : Value → Shared → Prop} (hh : A.handled = none) (hit : s.heap.IsKeyIter it d i n ep) (hod : s.heap.get? d = some od) (hdd : od.data = .dict es ep)
    (hsz : es.size = n) (hge : n ≤ i) (hE : ∀ h' e, Heap.ExtBut it s.heap h' → (∃ o, h'.get? e = some o ∧ o.cls = .type "StopIteration") → E (.ref e) { s with heap := h' }) : wpAny (model prog w) A (Builtin.SmallTypes.nextOf (.ref it)) Q E s := by
  obtain ⟨o, ho, hc, hd⟩ := id hit
  unfold Builtin.SmallTypes.nextOf
  refine wpAny_bind (wpAny_callSpecial?_slot (name := Str.ofString "__next__") hit.typeIs F.slot_dict_keyiterator_next
    (wpAny_call_entry F.slot_dict_keyiterator_next hit.typeIs F.entry_dict_keyiterator_next ?_ (F.args_dict_keyiterator_next_1 _)))
  refine wpAny_bind (wpAny_pure ?_)
  refine wpAny_bind ?_
  refine wpAny_bind ?_
  first | refine wpAny_bind (wpAny_typeNameOfWhole_keyiter hit.typeIs (wpAny_pure ?_)) | refine wpAny_bind (wpAny_typeNameOf_keyiter hit.typeIs (wpAny_pure ?_))
  refine wpAny_bind (wpAny_fieldsOf ho hd ?_)
  have hown : Builtin.Dict_items.ownsTuple "dict_keyiterator" = false := by decide
  simp only [hown, Bool.false_eq_true, if_false]
  show wpAny _ _ (if (Value.ref d == Value.none) = true then _ else _) _ _ s
  rw [if_neg (show ¬ ((Value.ref d == Value.none) = true) from Bool.false_ne_true)]
  refine wpAny_bind (wpAny_pure ?_)
  refine wpAny_bind (wpAny_dictEntries hod hdd ?_)
  rw [if_neg (by rw [hsz]; simp)]
  refine wpAny_bind (wpAny_pure ?_)
  refine wpAny_bind (wpAny_dictEpoch hod hdd ?_)
  rw [if_neg (by simp)]
  refine wpAny_pure ?_
  have hge' : es.size ≤ i := by rw [hsz]; exact hge
  simp only [show ¬ ((i : Int) < 0) from by omega, if_false, Int.toNat_natCast, Array.getElem?_eq_none hge']
  refine wpAny_bind ?_
  first | refine wpAny_bind (wpAny_typeNameOfWhole_keyiter hit.typeIs (wpAny_pure ?_)) | refine wpAny_bind (wpAny_typeNameOf_keyiter hit.typeIs (wpAny_pure ?_))
  show wpAny _ _ (setField (.ref it) 0 .none >>= _) _ _ s
  refine wpAny_bind (wpAny_setField ho hd (by simp) ?_)
  show wpAny _ _ (newExc (.type "StopIteration") [] >>= _) _ _ _
  refine wpAny_bind ?_
  simp only [newExc, newTuple]
  refine wpAny_bind (wpAny_newObj_type ?_ (by size_fits))
  refine wpAny_bind (m := firstArgMember _ _) (wpAny_of_eq (a := Value.none) (by first | rfl | (simp only [firstArgMember]; rfl)) ?_)
  refine wpAny_newObj_type ?_ (by size_fits)
  simp only [raiseNew]
  refine wpAny_bind (wpAny_handled ?_)
  first | rw [show A.in1.handled = none from hh] | rw [hh]
  refine wpAny_bind (wpAny_pure (wpAny_throw ?_))
  exact hE _ _ (((Heap.SameBut.update ..).extBut.push _).push _) ⟨_, Heap.get?_push_size _ rfl, rfl⟩
end
theorem draws_keys {prog : Program} {w : World} {A : Around} (hh : A.handled = none) {it d : Addr} (hne : d ≠ it) {od : Obj} {es : Array DictEntry} {ep n : Nat} (hdd : od.data = .dict es ep) (hsz : es.size = n) :
    Draws prog w A it [it, d] n (fun i v => ∃ en, es[i]? = some en ∧ v = en.key) (fun i h => h.IsKeyIter it d i n ep ∧ h.get? d = some od) where
  live := fun _ _ st => let ⟨o, ho, _⟩ := st.1; ⟨o, ho⟩
  frame := fun _ _ _ st hk => ⟨let ⟨o, ho, r⟩ := st.1; ⟨o, hk it (by simp) o ho, r⟩, hk d (by simp) od st.2⟩
  item := fun i s Q E hi st hQ => by
    have hx : es[i]? = some es[i] := by simp [hsz, hi]
    refine nextOf_key_item st.1 st.2 hdd hsz hx fun h' hit' hs' => ?_
    exact hQ _ h' s.toks ⟨_, hx, rfl⟩ ⟨hit', (hs'.2 d hne).trans st.2⟩ hs'
  done := fun s Q E st hE => nextOf_key_end hh st.1 st.2 hdd hsz (Nat.le_refl _) hE
theorem begins_dict {d : Addr} {od : Obj} {es : Array DictEntry} {ep : Nat} (hd : (d == sysModules) = false) (hx : od.ExactDict) (hdd : od.data = .dict es ep) :
    Begins (.ref d) { cls := .type "dict_keyiterator", data := .fields #[.ref d, .int 0 0, .int es.size 0, .int ep 0] } fun h => h.get? d = some od where
  iter := fun prog w A E s Q ho h => L2.iter_keys hd ho hx hdd h
  keeps := fun h h' x hk => hk d od x
  free := rfl
set_option maxHeartbeats 1000000 in
theorem meets_enumerate_new1 {v : Value} {o : Obj} {H : Heap → Prop} (B : Begins v o H) :
    Meets (Builtin.«enumerate.__new__» ⟨[.type "enumerate", v], []⟩) (fun _ R s => H s.heap ∧
      R (.ok (.ret (.ref (s.heap.push o).objs.size))) { s with heap := (s.heap.push o).push { cls := .type "enumerate", data := .fields #[.none, .bool false, .ref s.heap.objs.size, rawInt 0, .none, .none] } }) :=
  .of_wp fun prog w A R s h => by
    obtain ⟨hp, g, d, tk, os⟩ := s; obtain ⟨h1, h⟩ := h
    have hsub := sub_enumerate
    have q1 : ∀ {A' : Around} {E : Value → Shared → Prop} {Q : Value → Shared → Prop}, Q (.ref hp.objs.size) ⟨hp.push o, g, d, tk, os⟩ → wpAny (model prog w) A' (pyIter v) Q E ⟨hp, g, d, tk, os⟩ :=
      fun q => B.iter prog w _ _ ⟨hp, g, d, tk, os⟩ _ h1 q
    wp_walk using q1
    refine wpAny_stack_any fun st => wpAny_pure ?_
    split
    · rename_i c _ _ _ _ _
      cases (c == Value.type "enumerate")
      · wp_walk using q1
        exact ⟨_, rfl, h⟩
      · wp_walk using q1
        exact ⟨_, rfl, h⟩
    · wp_walk using q1
      exact ⟨_, rfl, h⟩
section
variable {prog : Program} {w : World} {A : Around} {E : Value → Shared → Prop} {s : Shared}
theorem call_enumerate_new1 {v : Value} {o : Obj} {H : Heap → Prop} {Q : Value → Shared → Prop} (B : Begins v o H) (h1 : H s.heap)
    (h : ∀ h', IsEnum h' (s.heap.objs.size + 1) s.heap.objs.size 0 .none → h'.get? s.heap.objs.size = some o → h'.objs.size = s.heap.objs.size + 2 →
      (∀ b o, s.heap.get? b = some o → h'.get? b = some o) → Q (.ref (s.heap.objs.size + 1)) { s with heap := h' }) :
    wpAny (model prog w) A (call (.type "enumerate") [v]) Q E s := by
  refine callType_new F.called_enumerate (by decide) (F.typeCall_enumerate_1 _) (F.newCall_enumerate_1 _) (fun obj => F.args_object_init_2 obj _) F.entry_enumerate_new
    (meets_enumerate_new1 B) ⟨h1, ?_⟩
  have hz : (s.heap.push o).objs.size = s.heap.objs.size + 1 := Heap.size_push ..
  show _ ∧ _
  rw [hz]
  have he : IsEnum ((s.heap.push o).push { cls := .type "enumerate", data := .fields #[.none, .bool false, .ref s.heap.objs.size, rawInt 0, .none, .none] }) (s.heap.objs.size + 1) s.heap.objs.size 0 .none := by
    have := Heap.get?_push_size (s.heap.push o) (o := { cls := .type "enumerate", data := .fields #[.none, .bool false, .ref s.heap.objs.size, rawInt 0, .none, .none] }) rfl
    rw [hz] at this; exact this
  refine ⟨⟨_, he, rfl⟩, h _ he (Heap.get?_push_of_some _ (Heap.get?_push_size _ B.free)) (by rw [Heap.size_push, hz]) fun b o x => Heap.get?_push_of_some _ (Heap.get?_push_of_some _ x)⟩
end
/-- the keys of the locked dict at d, each with its count in a new pair -/
def Itek (d : Addr) (o : Obj) (kvs : List (Key × V)) : It :=
  ⟨fun i H => H d = some (.frz o (.dK kvs)) ∧ i < kvs.length, fun i H x H' => ∃ T k v, x = .ref T ∧ kvs[i]? = some (k, v) ∧ H T = none ∧ H' = upd H T (.tup [.int (i : Nat), kV k]), fun i H => H d = some (.frz o (.dK kvs)) ∧ i = kvs.length⟩
theorem turn_enumK {P : Program} {w : World} {K : PySem.W.Frag} {elts : List Expr} {kk : Nat} {tpos : Pos} {d : Addr} {o : Obj} {es : Array DictEntry} {ep : Nat} {kvs : List (Key × V)} (e it : Addr) (hod : o.data = .dict es ep) :
    Turn P w K (.Tuple elts kk tpos) (Itek d o kvs) [e, it] e (fun i h => (∃ old, IsEnum h e it ((i : Nat) : Int) old) ∧ h.IsKeyIter it d i kvs.length ep ∧ e ≠ it ∧ e ≠ d ∧ d ≠ it) where
  mem := by simp
  obj := fun i h st b hb => by
    obtain ⟨⟨old, he⟩, ⟨o, ho, hc, hd⟩, _⟩ := st
    have e' : b = e ∨ b = it := by simpa using hb
    rcases e' with z | z
    · rw [z]; exact ⟨_, he, fun v q => nomatch q⟩
    · rw [z]; exact ⟨o, ho, fun v q => by rw [hd] at q; cases q⟩
  keep := fun i h h' st k => let ⟨⟨old, he⟩, ⟨o, ho, r⟩, hne⟩ := st; ⟨⟨old, k e (by simp) _ he⟩, ⟨o, k it (by simp) o ho, r⟩, hne⟩
  item := by
    intro X hP hw hK hc i pins s σ H E I hf st hg
    subst hP hw hK
    obtain ⟨⟨old, he⟩, hit, hei, hed, hdi⟩ := st
    obtain ⟨hd, hi⟩ := hg
    obtain ⟨hs, hgd, hx, es', ep', vs, hdt, hsz, kv, hm⟩ := I.frzK hd
    obtain ⟨rfl, rfl⟩ := dict_ep hod hdt
    obtain ⟨⟨k, v⟩, hkv⟩ : ∃ p, kvs[i]? = some p := ⟨kvs[i], List.getElem?_eq_getElem hi⟩
    obtain ⟨u, hu, ru⟩ := kv_get kv hkv
    have hel : e < s.heap.objs.size := Heap.lt_size he
    have hil : it < s.heap.objs.size := by obtain ⟨_, q, _⟩ := hit; exact Heap.lt_size q
    have hh : X.A.in1.handled = none := I.ok.hd hc
    refine wpAny_pyNext_enum_itemC (draws_keys hh hdi hdt hsz) he ⟨hit, hgd⟩ hi hei (by simp [hei, hed]) fun x h' tk hP ho hst' hT hsz' hk => ?_
    obtain ⟨en, hen, rfl⟩ := hP
    have hkey : keyIs k en.key = true := by
      obtain ⟨o2, es2, ho2, hx2, hd2, hk2, hp2, hn2⟩ := hm
      rw [hgd] at ho2
      cases ho2
      obtain ⟨rfl, _⟩ := dict_ep hdt hd2
      exact (hp2.get? (by simpa using hen) hu).1
    refine ⟨_, rfl, wpAny_letOwnedTupleGo_enum (s := { s with heap := h', toks := tk + 1 }) ho fun h'' he' sb => ?_⟩
    have hT2 : h''.get? s.heap.objs.size = some { cls := .type "tuple", data := .seq #[.int i tk, en.key] } := (sb.2 _ (Nat.ne_of_gt hel)).trans hT
    have new : ObjOk X.prog X.w (upd H s.heap.objs.size (.tup [.int (i : Nat), kV k])) h'' s.heap.objs.size (.tup [.int (i : Nat), kV k]) :=
      ⟨by show 2 ≤ sizeLine; decide, [.int i tk, en.key], .cons ⟨_, rfl⟩ (.cons (relV_key hkey) .nil), ⟨_, hT2, rfl, _, rfl⟩⟩
    have I1 : Inv X pins σ (upd H s.heap.objs.size (.tup [.int (i : Nat), kV k])) { s with heap := h'', toks := tk + 1 } :=
      I.turnedNew (ch := [e, it]) (fun b ob hb q => (sb.2 b (fun z => hb (by simp [z]))).trans (hk b ob (fun z => hb (by simp [z])) (fun z => hb (by simp [z])) q)) hf (Nat.le_refl _) new
    refine ⟨.ref s.heap.objs.size, _, I1, rfl, ⟨_, k, v, rfl, hkv, I.hok.fresh (Nat.le_refl _), rfl⟩, ⟨⟨en.key, ?_⟩, ?_, hei, hed, hdi⟩, fun b hb => ?_⟩
    · have e1 : ((i + 1 : Nat) : Int) = (i : Int) + 1 := by omega
      rw [e1]; exact he'
    · obtain ⟨⟨o3, ho3, r3⟩, _⟩ := hst'
      exact ⟨o3, (sb.2 it (Ne.symm hei)).trans ho3, r3⟩
    · have hb' : b < s.heap.objs.size := by
        have e' : b = e ∨ b = it := by simpa using hb
        rcases e' with z | z
        · rw [z]; exact hel
        · rw [z]; exact hil
      rw [upd_ne (Nat.ne_of_lt hb')]
      exact (hf b hb).1
  done := by
    intro X hP hw hK hc i pins s σ H E I hf st hg
    subst hP hw hK
    obtain ⟨⟨old, he⟩, hit, hei, hed, hdi⟩ := st
    obtain ⟨hd, rfl⟩ := hg
    obtain ⟨hs, hgd, hx, es', ep', vs, hdt, hsz, kv, hm⟩ := I.frzK hd
    obtain ⟨rfl, rfl⟩ := dict_ep hod hdt
    obtain ⟨f0, f1, f2, f3, f4, f5⟩ := hf it (by simp)
    have hh : X.A.in1.handled = none := I.ok.hd hc
    exact wpAny_pyNext_enum_endD (draws_keys hh hdi hdt hsz) he ⟨hit, hgd⟩ fun h' eb => ⟨rfl, I.turned (t' := s.toks) (fun b o hb q => eb b o hb q) f0 f1 f3 f4 f5⟩
  self := fun A i s Q E st h => let ⟨⟨_, he⟩, _⟩ := st; wpAny_pyIter_enum he h
def iEnumK (ta : TA) : TI := fun σ H R => ta σ H fun vs H1 => ∃ d o kvs, vs = [.ref d] ∧ H1 d = some (.frz o (.dK kvs)) ∧ R (Itek d o kvs) H1
theorem pi_enumK {X : Cx} {e : Expr} {ta : TA} {p pos tpos : Pos} {elts : List Expr} {kk : Nat} (hg : Gl X "enumerate") (hm : X.mg "enumerate" = none) (ha : PA X [e] ta) (hs : starEach [e] X.env = [(false, eval e X.env)] := by rfl) :
    PI X (.Tuple elts kk tpos) (.Call (.Name "enumerate" p) [e] [] pos) (iEnumK ta) := by
  refine ⟨fun pins s σ H R I h => ?_⟩
  refine Call_ (ld_blt I hg hm boot_enumerate (PyProof.Rows.callWith_type1 (thn (ha.run pos pins s σ H _ I h) fun us s1 ⟨vs, H1, I1, r1, q1⟩ => ?_) hs rfl))
  obtain ⟨d, o, kvs, ex, hd, q⟩ := q1
  subst ex
  cases r1 with
  | cons r rr =>
    cases rr
    cases r
    obtain ⟨hs, hgd, hx, es, ep, vs, hdt, hsz, kv, hm⟩ := I1.frzK hd
    have hdl : d < s1.heap.objs.size := Heap.lt_size hgd
    refine call_enumerate_new1 (begins_dict hs hx hdt) hgd fun h' he hit hsz2 hk => wpAny_pyIter_enum he ?_
    have I2 : Inv X pins σ H1 { s1 with heap := h' } := I1.kept (t' := s1.toks) hk
    refine ⟨s1.heap.objs.size + 1, [s1.heap.objs.size + 1, s1.heap.objs.size], _, _, H1, rfl, I2, turn_enumK (s1.heap.objs.size + 1) s1.heap.objs.size hdt, ⟨⟨.none, he⟩, ⟨_, hit, rfl, by rw [hsz] <;> rfl⟩, Nat.succ_ne_self _, Nat.ne_of_gt (Nat.lt_succ_of_lt hdl), Nat.ne_of_lt hdl⟩, fun b hb => ?_, q⟩
    have e' : b = s1.heap.objs.size + 1 ∨ b = s1.heap.objs.size := by simpa using hb
    have hle : s1.heap.objs.size ≤ b := by
      rcases e' with z | z
      · rw [z]; exact Nat.le_add_right _ _
      · rw [z]; exact Nat.le_refl _
    exact I1.fpOk hle (I1.hok.fresh hle)
end VI

namespace VI
open PySem PySem.Spec PyProof.Rows L2 SrtO
/-- by the number, then by the text -/
def lexS (p q : Int × Str) : Bool := if p.1 = q.1 then decide (p.2.cps.toList < q.2.cps.toList) else decide (p.1 < q.1)
theorem lexS_iff {p q : Int × Str} : lexS p q = true ↔ p.1 < q.1 ∨ (p.1 = q.1 ∧ p.2.cps.toList < q.2.cps.toList) := by
  unfold lexS
  by_cases e : p.1 = q.1
  · rw [if_pos e, decide_eq_true_eq]
    constructor
    · exact fun h => .inr ⟨e, h⟩
    · rintro (h | h)
      · omega
      · exact h.2
  · rw [if_neg e, decide_eq_true_eq]
    constructor
    · exact fun h => .inl h
    · rintro (h | h)
      · exact h
      · exact absurd h.1 e
theorem lexS_no {p q : Int × Str} : lexS p q = false ↔ ¬ (p.1 < q.1 ∨ (p.1 = q.1 ∧ p.2.cps.toList < q.2.cps.toList)) := by
  rw [← lexS_iff]
  cases lexS p q <;> simp
theorem lstr_asym {a b : List Nat} (h : a < b) : ¬ b < a := List.lt_asymm h
theorem lstr_tr {a b c : List Nat} (h : ¬ a < b) (h2 : ¬ b < c) : ¬ a < c := by
  rw [List.not_lt] at *
  exact List.le_trans h2 h
theorem swo_lexS {α : Type} (k : α → Int × Str) : Swo fun v u => lexS (k v) (k u) := by
  refine ⟨fun x y h => ?_, fun x y z h1 h2 => ?_⟩
  · have a := lexS_iff.mp h
    refine lexS_no.mpr ?_
    rintro (b | b)
    · rcases a with a | a <;> omega
    · rcases a with a | a
      · omega
      · exact lstr_asym a.2 b.2
  · have a := lexS_no.mp h1
    have b := lexS_no.mp h2
    refine lexS_no.mpr ?_
    have h3 : ¬ (k y).1 < (k x).1 := fun q => a (.inl q)
    have h4 : ¬ (k z).1 < (k y).1 := fun q => b (.inl q)
    rintro (c | c)
    · omega
    · have e1 : (k y).1 = (k x).1 := by omega
      have e2 : (k z).1 = (k y).1 := by omega
      exact lstr_tr (fun q => b (.inr ⟨e2, q⟩)) (fun q => a (.inr ⟨e1, q⟩)) c.2
def IsPairS (h : Heap) (v : Value) (x : Int) (y : Str) : Prop := ∃ a o t u n, v = .ref a ∧ h.get? a = some o ∧ o.cls = .type "tuple" ∧ o.data = .seq #[.int x t, .str y u] n
theorem IsPairS.keeps {h h' : Heap} {v : Value} {x : Int} {y : Str} (p : IsPairS h v x y) (k : ∀ b o, h.get? b = some o → o.cls = .type "tuple" → h'.get? b = some o) : IsPairS h' v x y := by
  obtain ⟨a, o, t, u, n, e, ho, hc, hd⟩ := p
  exact ⟨a, o, t, u, n, e, k _ _ ho hc, hc, hd⟩
theorem firsts_ofS {h : Heap} : ∀ {vs : List Value}, (∀ v ∈ vs, ∃ x y, IsPairS h v x y) → ∃ fs : List Value, PySem.W.KatTups h vs fs ∧ fs.length = vs.length ∧ ∀ f ∈ fs, ∃ x t, f = Value.int x t
  | [], _ => ⟨[], PySem.W.KatTups.nil, rfl, fun _ hm => by simp at hm⟩
  | v :: vs, hp => by
    obtain ⟨fs, h1, h2, h3⟩ := firsts_ofS (vs := vs) fun v' hm => hp v' (List.mem_cons_of_mem _ hm)
    obtain ⟨x, y, a, o, t, u, n, e, ho, hc, hd⟩ := hp v (List.mem_cons_self ..)
    subst e
    refine ⟨.int x t :: fs, PySem.W.KatTups.cons ho hc hd rfl h1, by rw [List.length_cons, List.length_cons, h2], fun f hf => ?_⟩
    rcases List.mem_cons.mp hf with rfl | hf
    · exact ⟨x, t, rfl⟩
    · exact h3 f hf
section
variable {prog : Program} {w : World} {A : Around} {s : Shared} {E : Value → Shared → Prop}
theorem pairS_cmp {vs : List Value} {k : Value → Int × Str} (hp : ∀ v ∈ vs, IsPairS s.heap v (k v).1 (k v).2) : Cmp prog w A s (tuples' true) (fun p => p.1 ∈ vs) (lt2 fun v u => lexS (k v) (k u)) := by
  intro p q hm hm'
  have h1 := hp _ hm
  have h2 := hp _ hm'
  show wpAny (model prog w) A (keyLt' (tuples' true) p.1 q.1) (fun r s' => s' = s ∧ r = lexS (k p.1) (k q.1)) (fun _ _ => False) s
  unfold lexS
  generalize (k p.1).1 = x at h1 ⊢
  generalize (k p.1).2 = y at h1 ⊢
  generalize (k q.1).1 = x' at h2 ⊢
  generalize (k q.1).2 = y' at h2 ⊢
  obtain ⟨a, o, t, u, n, e, ho, hc, hd⟩ := h1
  obtain ⟨a', o', t', u', n', e', ho', hc', hd'⟩ := h2
  rw [e, e']
  refine PySem.W.kat_lt ho hd ho' hd' ?_
  show PySem.W.KatLex prog w A true (decide (2 < 2)) _ [(.int x t, .int x' t'), (.str y u, .str y' u')] 0 s
  refine PySem.W.kat_cons (SeqAt.EqAt.int_int x t x' t' prog w _ _ ?_)
  refine PySem.W.kat_go (fun e1 => ?_) (fun e1 => ?_)
  · have ex : x = x' := by simpa using e1
    refine PySem.W.kat_yes (PySem.W.kat_cons (SeqAt.EqAt.str_str y u y' u' prog w _ _ ?_))
    refine PySem.W.kat_go (fun e2 => ?_) (fun e2 => ?_)
    · have ey : y = y' := by simpa using e2
      have e3 : (if x = x' then decide (y.cps.toList < y'.cps.toList) else decide (x < x')) = false := by
        rw [if_pos ex, ey]
        exact decide_eq_false (List.lt_irrefl _)
      exact PySem.W.kat_yes (PySem.W.kat_nil ⟨rfl, e3.symm⟩)
    · have e3 : (if x = x' then decide (y.cps.toList < y'.cps.toList) else decide (x < x')) = decide (y.cps.toList < y'.cps.toList) := if_pos ex
      refine PySem.W.kat_no (PySem.W.kat_one _ _ (PyProof.Rows.lt_str ?_))
      exact (show s = s ∧ decide (y.cps.toList < y'.cps.toList) = (if x = x' then decide (y.cps.toList < y'.cps.toList) else decide (x < x')) from ⟨rfl, e3.symm⟩)
  · have ex : ¬ x = x' := by simpa using e1
    have e3 : (if x = x' then decide (y.cps.toList < y'.cps.toList) else decide (x < x')) = decide (x < x') := if_neg ex
    exact PySem.W.kat_no (oneLt_int ⟨rfl, e3.symm⟩)
theorem pairsS_sortable {a : Addr} {vs : List Value} {k : Value → Int × Str} (h0 : 0 < vs.length) (hp : ∀ v ∈ vs, IsPairS s.heap v (k v).1 (k v).2) (ha : ∀ o, s.heap.get? a = some o → o.cls ≠ .type "tuple") : SortableO prog w A s a vs fun v u => lexS (k v) (k u) := by
  intro h' keep
  have hp' : ∀ v ∈ vs, IsPairS h' v (k v).1 (k v).2 := fun v hm => (hp v hm).keeps fun b o e c => keep b o (fun z => by subst z; exact ha o e c) e
  obtain ⟨fs, h1, h2, h3⟩ := firsts_ofS fun v hm => ⟨_, _, hp' v hm⟩
  refine ⟨tuples' true, fun Q E hq => ?_, pairS_cmp hp'⟩
  refine PySem.W.kat_kind (T := .type "int") h1 (by omega) (fun f hm => ?_) (by rfl) ?_
  · obtain ⟨x, t, rfl⟩ := h3 f hm
    exact PySem.W.Looks.now
  · have e : (Value.type "int" != Value.type "tuple") = true := by first | decide +kernel | rfl | decide
    rw [e]
    exact hq
theorem sorted_pairsS {l : Addr} {vs : List Value} {k : Value → Int × Str} {Q : Value → Shared → Prop} (hl : s.heap.IsList l vs.toArray) (hz : vs.length ≤ sizeLine) (hp : ∀ v ∈ vs, IsPairS s.heap v (k v).1 (k v).2)
    (h : ∀ (h' : Heap) (d : Addr) (out : List Value), Srtd (fun v u => lexS (k v) (k u)) out → Stb (fun v u => lexS (k v) (k u)) out vs → (∀ b o, s.heap.get? b = some o → h'.get? b = some o) → s.heap.objs.size ≤ d → (∃ n, h'.get? d = some (seqObj "list" out.toArray n)) → Q (.ref d) { s with heap := h' }) :
    wpAny (model prog w) A (call (.builtin "sorted") [.ref l]) Q E s := by
  refine sorted_ord (swo_lexS k) hl hz (fun h2 h₁ a ha kk => ?_) fun out hs hb => ?_
  · refine pairsS_sortable (s := { s with heap := h₁ }) (by omega) (fun v hm => (hp v hm).keeps fun b o e _ => (kk b o e).2) fun o e => ?_
    have e' : some o = some (seqObj "list" vs.toArray 0) := e.symm.trans ha
    cases e'
    intro c
    exact absurd (Value.type.inj c) (by decide)
  · exact h _ _ out hs hb (fun b o e => sortedAll_old e) (Nat.le_succ _) (sortedAll_at s.heap vs out.toArray)
end
/-- sorted(xs), xs a list of pairs of an int and a text -/
def rSortedIS (K : PySem.W.Frag) : List V → Hp → VK → Prop := fun vs H Q => ∃ (a : Addr) (xs : List V) (k : V → Int × Str), vs = [V.ref a] ∧ SqL K H a xs ∧ (∀ x ∈ xs, ∃ t, x = V.ref t ∧ SqT K H t [.int (k x).1, .str (k x).2]) ∧
  ∀ ys p, Srtd (fun v u => lexS (k v) (k u)) ys → Stb (fun v u => lexS (k v) (k u)) ys xs → H p = none → Q (.ref p) (upd H p (.lst ys))
theorem cr_sortedIS {X : Cx} : CallR X (.builtin "sorted") (rSortedIS X.K) := by
  intro pins s σ H vs us Q I r h
  obtain ⟨a, xs, k, rfl, hs, hx, q⟩ := h
  obtain ⟨its, rv, hl, hz⟩ := I.list hs
  obtain ⟨u, rfl, ru⟩ := vals1 r
  obtain rfl : u = Value.ref a := ru
  obtain ⟨e1, e2⟩ := refs_back rv fun x m => by
    obtain ⟨t, e, _⟩ := hx x m
    exact ⟨t, e⟩
  refine sorted_pairsS (k := fun u => k (backV u)) hl.isList (by rw [← rv.length]; exact hz) (fun v hv => ?_) fun h' d out h1 h2 kp hd hn => ?_
  · obtain ⟨t, rfl⟩ := e2 v hv
    have hm : V.ref t ∈ xs := by rw [e1]; exact List.mem_map.mpr ⟨_, hv, rfl⟩
    obtain ⟨t', e, ht⟩ := hx _ hm
    cases e
    obtain ⟨its2, r2, ⟨o, ho, hc, n, hd⟩, _⟩ := I.tuple ht
    obtain ⟨u1, u2, rfl, ri, rj⟩ := vals2 r2
    obtain ⟨t1, rfl⟩ := ri
    obtain ⟨t2, rfl⟩ := rj
    exact ⟨t, o, t1, t2, n, rfl, ho, hc, hd⟩
  · have h3 : ∀ u ∈ out, ∃ a, u = Value.ref a := fun u hu => e2 u (h2.perm.mem_iff.mp hu)
    obtain ⟨n, hn⟩ := hn
    have hb : Stb (fun v u => lexS (k v) (k u)) (out.map backV) xs := by
      rw [e1]
      exact Stb.map (swo_lexS k) backV h2
    refine ⟨.ref d, upd H d (.lst (out.map backV)), I.laid (t' := s.toks) kp hd ⟨?_, out, n, vals_back h3, hn⟩, rfl, q _ d (srtd_map h1) hb (I.hok.fresh hd)⟩
    rw [hb.len]
    exact hz
/-! the same, by keys alone -/
theorem lexS_anti {a b : Int × Str} (h1 : lexS a b = false) (h2 : lexS b a = false) : a = b := by
  have x := lexS_no.mp h1
  have y := lexS_no.mp h2
  obtain ⟨i, u⟩ := a
  obtain ⟨j, v⟩ := b
  have e : i = j := by
    have p : ¬ i < j := fun z => x (.inl z)
    have q : ¬ j < i := fun z => y (.inl z)
    omega
  subst e
  have e2 : u.cps.toList = v.cps.toList := by
    refine List.le_antisymm ?_ ?_
    · exact List.not_lt.mp fun z => y (.inr ⟨rfl, z⟩)
    · exact List.not_lt.mp fun z => x (.inr ⟨rfl, z⟩)
  have e3 : u = v := by
    cases u; cases v
    congr 1
    exact Array.toList_inj.mp e2
  rw [e3]
theorem lexS_self (a : Int × Str) : lexS a a = false := (swo_lexS (id : Int × Str → Int × Str)).refl a
theorem stb_perm {l m : List (Int × Str)} (h : l.Perm m) : Stb (fun a b => lexS (id a) (id b)) l m := by
  refine ⟨h, fun x => ?_⟩
  have hp := h.filter (eqv (fun a b => lexS (id a) (id b)) x)
  have al : ∀ k : List (Int × Str), ∀ y ∈ k.filter (eqv (fun a b => lexS (id a) (id b)) x), y = x := fun k y hy => by
    have := eqv_iff.mp (List.mem_filter.mp hy).2
    exact lexS_anti this.2 this.1
  rw [List.eq_replicate_of_mem (al l), List.eq_replicate_of_mem (al m), hp.length_eq]
def sortIS (ps : List (Int × Str)) : List (Int × Str) := ps.mergeSort fun a b => !lexS b a
theorem sortIS_perm (ps : List (Int × Str)) : (sortIS ps).Perm ps := List.mergeSort_perm _ _
theorem sortIS_srtd (ps : List (Int × Str)) : Srtd (fun a b => lexS (id a) (id b)) (sortIS ps) := by
  have O := swo_lexS (id : Int × Str → Int × Str)
  have h := List.pairwise_mergeSort (le := fun a b => !lexS b a) (fun a b c h1 h2 => by
    simp only [Bool.not_eq_true'] at *
    exact O.tr a b c h1 h2) (fun a b => by
    cases e : lexS b a with
    | false => rfl
    | true => rw [show lexS a b = false from O.asym b a e]; rfl) ps
  exact h.imp fun hab => by simpa using hab
theorem sortIS_eq {l m : List (Int × Str)} (h : l.Perm m) (hs : Srtd (fun a b => lexS (id a) (id b)) l) : l = sortIS m :=
  stb_uniq (swo_lexS id) hs (sortIS_srtd m) (stb_perm (h.trans (sortIS_perm m).symm))
/-! the values and their keys side by side -/
def PairV (K : PySem.W.Frag) (H : Hp) (x : V) (p : Int × Str) : Prop := ∃ t, x = V.ref t ∧ SqT K H t [.int p.1, .str p.2]
inductive PairsV (K : PySem.W.Frag) (H : Hp) : List V → List (Int × Str) → Prop where
  | nil : PairsV K H [] []
  | cons {x : V} {p : Int × Str} {xs : List V} {ps : List (Int × Str)} (h : PairV K H x p) (r : PairsV K H xs ps) : PairsV K H (x :: xs) (p :: ps)
theorem pairV_inj {X : Cx} {pins : List (Addr × Obj)} {σ : L2.St} {H : Hp} {s : Shared} {x : V} {p q : Int × Str} (I : Inv X pins σ H s) (h1 : PairV X.K H x p) (h2 : PairV X.K H x q) : p = q := by
  obtain ⟨t, rfl, h1⟩ := h1
  obtain ⟨t', e, h2⟩ := h2
  cases e
  obtain ⟨i1, r1, ⟨o1, ho1, _, n1, hd1⟩, _⟩ := I.tuple h1
  obtain ⟨i2, r2, ⟨o2, ho2, _, n2, hd2⟩, _⟩ := I.tuple h2
  rw [ho1] at ho2
  cases ho2
  rw [hd1] at hd2
  injection hd2 with e1 _
  have e1 : i1 = i2 := by simpa using congrArg Array.toList e1
  subst e1
  obtain ⟨u1, u2, rfl, ⟨t1, rfl⟩, ⟨t2, rfl⟩⟩ := vals2 r1
  obtain ⟨v1, v2, e2, ⟨t3, rfl⟩, ⟨t4, rfl⟩⟩ := vals2 r2
  simp at e2
  exact Prod.ext e2.1.1 e2.2.1
def rSortedQ (K : PySem.W.Frag) : List V → Hp → VK → Prop := fun vs H Q => ∃ (a : Addr) (xs : List V) (ps : List (Int × Str)), vs = [V.ref a] ∧ SqL K H a xs ∧ PairsV K H xs ps ∧ ∀ ys p, PairsV K H ys (sortIS ps) → H p = none → Q (.ref p) (upd H p (.lst ys))
theorem PairsV.mem {K : PySem.W.Frag} {H : Hp} {xs : List V} {ps : List (Int × Str)} (h : PairsV K H xs ps) : ∀ x ∈ xs, ∃ p, PairV K H x p := by
  induction h with
  | nil => intro x hx; cases hx
  | cons h r ih =>
    intro x hx
    rcases List.mem_cons.mp hx with rfl | hx
    · exact ⟨_, h⟩
    · exact ih x hx
open Classical in
theorem cr_sortedQ {X : Cx} : CallR X (.builtin "sorted") (rSortedQ X.K) := by
  intro pins s σ H vs us Q I r h
  obtain ⟨a, xs, ps, rfl, hs, hp, q⟩ := h
  let k : V → Int × Str := fun x => if h : ∃ p, PairV X.K H x p then h.choose else (0, ⟨#[]⟩)
  have hk : ∀ x, (∃ p, PairV X.K H x p) → PairV X.K H x (k x) := fun x h => by
    show PairV X.K H x (if h : ∃ p, PairV X.K H x p then h.choose else (0, ⟨#[]⟩))
    rw [dif_pos h]
    exact h.choose_spec
  have hm : xs.map k = ps := by
    clear hs q r
    induction hp with
    | nil => rfl
    | cons h r ih => rw [List.map_cons, ih, pairV_inj I (hk _ ⟨_, h⟩) h]
  refine cr_sortedIS pins s σ H [.ref a] us Q I r ⟨a, xs, k, rfl, hs, fun x hx => hk x (hp.mem x hx), fun ys p h1 h2 hp0 => q ys p ?_ hp0⟩
  have e : ys.map k = sortIS ps := by
    rw [← hm]
    exact sortIS_eq (h2.perm.map k) (srtd_map (lt := fun a b => lexS (id a) (id b)) (f := k) h1)
  rw [← e]
  have all : ∀ y ∈ ys, ∃ p, PairV X.K H y p := fun y hy => hp.mem y (h2.perm.mem_iff.mp hy)
  clear e h1 h2
  induction ys with
  | nil => exact .nil
  | cons y ys ih => exact .cons (hk y (all y List.mem_cons_self)) (ih fun z hz => all z (List.mem_cons_of_mem _ hz))
end VI

namespace VI
open PySem L2
/-! the intermediate language -/
/-- a step of a place, as it is written -/
inductive PX where | f (c k : Nat) | ks (s : Str) | ki (n : Int) | kv (j : Nat)
/-- a class that an exception is asked for: one of its own, the base of these, ValueError -/
inductive XC where | own (c : Nat) | base | val
  deriving DecidableEq
mutual
inductive IE where
  | var (i : Nat) | mov (i : Nat)
  | int (n : Int) | bl (b : Bool) | non | str (s : Str)
  | bop (op : Operator) (a b : IE)
  | neg (a : IE) | nt (a : IE)
  | cmp (op : CmpOp) (a b : IE)
  | cmp2 (op op' : CmpOp) (a b c : IE)
  | an (a b : IE) | orr (a b : IE)
  | ite (c a b : IE)
  | lst (xs : IL) | tup (xs : IL)
  | idx (a b : IE)
  | slc (a : IE) (lo hi : IO)
  | call (f : Nat) (xs : IL)
  | blt (x : Str) (xs : IL)
  | isi (a : IE) (x : Str)
  | isiN (a : IE) (xs : List Str)
  | mxd (a d : IE)
  | gv (x : Str)
  | smt (m : Str) (o : IE) (xs : IL)
  | fld (c k : Nat) (a : IE)
  | dct (ks : List Str) (xs : IL)
  | meth (c f : Nat) (o : IE) (xs : IL)
  | new (c f : Nat) (xs : IL)
  | lmt (m : Str) (o : IE) (xs : IL)
  | popE (i : Nat) (ps : List PX) (n : Option Int)
  | isx (a : IE) (cs : List XC) | xfl (a : IE) (f : Str)
  | comp (tg : List Nat) (it : IT) (c : IO) (elt : IE)
inductive IO where
  | no | so (e : IE)
inductive IL where
  | nil | cons (e : IE) (r : IL)
inductive IT where
  | seq (e : IE) | rng1 (a : IE) | rng2 (a b : IE) | enu (e : IE) | zip (a b : IE)
  | keys (i : Nat) (ps : List PX) | enuK (i : Nat) (ps : List PX)
end
mutual
inductive IS where
  | setv (i : Nat) (e : IE) | setf (i : Nat) (e : IE)
  | seti (i : Nat) (k : IE) (e : IE)
  | expr (e : IE)
  | mut (m : Str) (i : Nat) (xs : IL)
  | ite (c : IE) (a b : IB)
  | forr (tg : List Nat) (it : IT) (body : IB)
  | whil (c : IE) (body : IB)
  | ret (e : IE) | retN
  | setp (i : Nat) (ps : List PX) (k e : IE) | seta (i : Nat) (ps : List PX) (c k : Nat) (e : IE)
  | mutp (m : Str) (i : Nat) (ps : List PX) (xs : IL)
  | unp (tg : List Nat) (e : IE) | pass | bad
  | rais (c : Nat) (keep : Bool) (xs : IL) | tryx (body : IB) (k : XC) (i : Option Nat) (hd : IB)
inductive IB where
  | nil | cons (s : IS) (r : IB)
end
inductive Md where | bor | frz | io
  deriving DecidableEq
/-- an exception: its class, its fields -/
structure Xn where
  c : Nat
  vs : List T
inductive COut where
  | ok (t : T) (ios : List T) | exc (x : Xn) (ios : List T) | stuck
/-- what is known of the program's defs: how each takes its arguments, what it hands back -/
structure CI where
  md : Nat → List Md
  run : Nat → List T → COut
  gl : Str → Option T
  xf : Nat → List Str
  xo : Nat → Bool
inductive Out (α : Type) where
  | ok (a : α) (e : Env) | exc (x : Xn) (e : Env) | stuck
def Out.bind {α β : Type} (m : Out α) (f : α → Env → Out β) : Out β := match m with | .ok a e => f a e | .exc x e => .exc x e | .stuck => .stuck
/-- where nothing may be raised -/
def Out.noX {α : Type} (m : Out α) : Out α := match m with | .ok a e => .ok a e | _ => .stuck
@[simp] theorem Out.bind_exc {α β : Type} (x : Xn) (e : Env) (f : α → Env → Out β) : (Out.exc x e : Out α).bind f = .exc x e := rfl
@[simp] theorem Out.bind_ok {α β : Type} (a : α) (e : Env) (f : α → Env → Out β) : (Out.ok a e).bind f = f a e := rfl
@[simp] theorem Out.bind_stuck {α β : Type} (f : α → Env → Out β) : (Out.stuck : Out α).bind f = .stuck := rfl
def Out.ofO {α : Type} (o : Option α) (e : Env) : Out α := match o with | some a => .ok a e | none => .stuck
@[simp] theorem Out.ofO_some {α : Type} (a : α) (e : Env) : Out.ofO (some a) e = .ok a e := rfl
@[simp] theorem Out.ofO_none {α : Type} (e : Env) : Out.ofO (none : Option α) e = .stuck := rfl
def T.vw (t : T) : Bool := t.has Fl.isVw
def T.lent (t : T) : Bool := t.has Fl.lent
def T.hasBrw (t : T) : Bool := t.has Fl.isBrw
def vwL (ts : List T) : Bool := T.hasL Fl.isVw ts
def gd {α : Type} (v p : Bool) (k : Out α) : Out α := if v && !p then .stuck else k
@[simp] theorem gd_pure {α : Type} (v : Bool) (k : Out α) : gd v true k = k := by unfold gd; simp
@[simp] theorem gd_noVw {α : Type} (p : Bool) (k : Out α) : gd false p k = k := by unfold gd; simp
def anyIo : List Md → Bool
  | [] => false
  | m :: r => m == .io || anyIo r
mutual
/-- leaves the slots as they are -/
def pE (I : CI) : IE → Bool
  | .var _ => true | .mov _ => false
  | .int _ => true | .bl _ => true | .non => true | .str _ => true
  | .bop _ a b => pE I a && pE I b
  | .neg a => pE I a | .nt a => pE I a
  | .cmp _ a b => pE I a && pE I b
  | .cmp2 _ _ a b c => pE I a && (pE I b && pE I c)
  | .an a b => pE I a && pE I b
  | .orr a b => pE I a && pE I b
  | .ite c a b => pE I c && (pE I a && pE I b)
  | .lst xs => pL I xs | .tup xs => pL I xs
  | .idx a b => pE I a && pE I b
  | .slc a lo hi => pE I a && (pO I lo && pO I hi)
  | .call f xs => !anyIo (I.md f) && pL I xs
  | .blt _ xs => pL I xs
  | .isi a _ => pE I a
  | .isiN a _ => pE I a
  | .mxd a d => pE I a && pE I d
  | .gv _ => true
  | .smt _ o xs => pE I o && pL I xs
  | .fld _ _ a => pE I a
  | .dct _ xs => pL I xs
  | .meth _ f o xs => !anyIo (I.md f) && (pE I o && pL I xs)
  | .new _ _ _ => false
  | .lmt _ o xs => pE I o && pL I xs
  | .popE _ _ _ => false
  | .isx a _ => pE I a
  | .xfl a _ => pE I a
  | .comp _ _ _ _ => false
def pO (I : CI) : IO → Bool
  | .no => true | .so e => pE I e
def pL (I : CI) : IL → Bool
  | .nil => true | .cons e r => pE I e && pL I r
end
def Fl.clear (f : Fl) : Bool := !f.isOwn && !f.isVw
def T.imm : T → Bool
  | .non => true | .bl _ => true | .int _ => true | .str _ => true | _ => false

/-- asked of an exception -/
def xcB (c : Nat) : XC → Bool | .own d => c == d | .base => true | .val => true
def isxT (x : T) (cs : List XC) : Option Bool := match x with
  | .exn c _ => some (cs.any (xcB c))
  | _ => none
def xflT (I : CI) (x : T) (f : Str) : Option T := match x with
  | .exn c vs => ((I.xf c).findIdx? fun g => decide (g = f)).bind fun j => vs[j]?
  | _ => none
/-- by a truth -/
def T.cond {α : Type} (x : T) (A B S : α) : α := match x with | .bl true => A | .bl false => B | _ => S
@[simp] theorem T.cond_bl {α : Type} (c : Bool) (A B S : α) : T.cond (.bl c) A B S = if c = true then A else B := by cases c <;> rfl
/-! operations on trees -/
abbrev LIM : Nat := 16777216
instance (i j : Int) : Decidable (CMulW i j) := by unfold CMulW; infer_instance
instance (i j : Int) : Decidable (CDivW i j) := by unfold CDivW; infer_instance
instance (i j : Int) : Decidable (CPow i j) := by unfold CPow; infer_instance
instance (s : Str) (j : Int) : Decidable (CRep s j) := by unfold CRep; infer_instance
mutual
def T.toD : T → PyData
  | .non => .none | .bl b => .bool b | .int i => .int i | .str s => .str s
  | .scr ns => .list (ns.map PyData.int)
  | .tup xs => .tuple (T.toDL xs) | .lst _ xs => .list (T.toDL xs)
  | .dic _ _ _ => .dict [] | .ins _ _ _ => .dict [] | .ptr _ => .dict [] | .exn _ _ => .dict []
def T.toDL : List T → List PyData
  | [] => []
  | x :: r => T.toD x :: T.toDL r
end
theorem toDL_eq : ∀ xs : List T, T.toDL xs = xs.map T.toD
  | [] => rfl
  | x :: r => by rw [T.toDL, toDL_eq r]; rfl
/-- scalars of which == asks no more than themselves -/
def scalT : T → T → Bool
  | .non, .non => true | .non, .int _ => true | .int _, .non => true | .non, .bl _ => true | .bl _, .non => true | .non, .str _ => true | .str _, .non => true
  | .int _, .int _ => true | .bl _, .bl _ => true | .str _, .str _ => true
  | .int _, .str _ => true | .str _, .int _ => true | .bl _, .str _ => true | .str _, .bl _ => true
  | _, _ => false
def sameT : T → T → Bool
  | .non, .non => true | .int i, .int j => decide (i = j) | .bl a, .bl b => decide (a = b) | .str a, .str b => decide (a = b)
  | _, _ => false
def eqT (x y : T) : Option Bool :=
  if scalT x y then some (sameT x y)
  else if SeqAt.shaped x.toD && SeqAt.shaped y.toD then some (PyData.eqv x.toD y.toD) else none
def T.flat : T → Bool
  | .bl _ => true | .int _ => true | .str _ => true | _ => false
def memT (x : T) (ys : List T) : Bool := ys.any fun y => sameT y x
/-- only ints, or only texts (or only truths): then in asks no more than sameT -/
def kindT : T → T → Bool
  | .int _, .int _ => true | .str _, .str _ => true | .bl _, .bl _ => true | .str _, .int _ => true | .int _, .str _ => true | _, _ => false
def sign1 (y : Str) : Option Nat := match y.cps.toList with | [c] => some c | _ => none
def signIn (x : T) (z : Str) : Option Bool := match x with
  | .str y => (sign1 y).map fun c => decide (c ∈ z.cps.toList)
  | _ => none
def inT (x y : T) : Option Bool := match y with
  | .lst _ ys => if x.flat && ys.all (fun z => kindT z x) then some (memT x ys) else none
  | .tup ys => if x.flat && ys.all (fun z => kindT z x) then some (memT x ys) else none
  | .str z => signIn x z
  | .dic _ ks _ => match x with | .str s => some (kix ks (.inr s)).isSome | .int i => some (kix ks (.inl i)).isSome | _ => none
  | _ => none
def keyT : Key → T | .inl i => .int i | .inr s => .str s
def bopT (op : Operator) (x y : T) : Option T := match op, x, y with
  | .Add, .int i, .int j => some (.int (i + j))
  | .Add, .str a, .str b => if a.length + b.length ≤ LIM then some (.str (a ++ b)) else none
  | .Add, .lst _ xs, .lst _ ys => if xs.length + ys.length ≤ LIM ∧ vwL (xs ++ ys) = false then some (.lst .own (xs ++ ys)) else none
  | .Sub, .int i, .int j => some (.int (i - j))
  | .Mult, .int i, .int j => if CMulW i j then some (.int (i * j)) else none
  | .Mult, .lst _ xs, .int k => if xs.all T.imm = true ∧ -(2 ^ 63) ≤ k ∧ k < 2 ^ 63 ∧ xs.length * k.toNat ≤ LIM then some (.lst .own (List.replicate k.toNat xs).flatten) else none
  | .Mult, .str s, .int k => if CRep s k then some (.str (repS s k)) else none
  | .Mod, .int i, .int j => if 0 < j then some (.int (i % j)) else none
  | .FloorDiv, .int i, .int j => if CDivW i j then some (.int (i / j)) else none
  | .Pow, .int i, .int j => if CPow i j then some (.int (i ^ j.toNat)) else none
  | _, _, _ => none
def cmpT (op : CmpOp) (x y : T) : Option Bool := match op with
  | .Lt => match x, y with | .int i, .int j => some (decide (i < j)) | _, _ => none
  | .LtE => match x, y with | .int i, .int j => some (decide (i ≤ j)) | _, _ => none
  | .Gt => match x, y with | .int i, .int j => some (decide (j < i)) | _, _ => none
  | .GtE => match x, y with | .int i, .int j => some (decide (j ≤ i)) | _, _ => none
  | .Eq => eqT x y
  | .NotEq => (eqT x y).map (!·)
  | .Is => match y with | .non => (match x with | .non => some true | .ptr _ => none | _ => some false) | _ => none
  | .IsNot => match y with | .non => (match x with | .non => some false | .ptr _ => none | _ => some true) | _ => none
  | .In => inT x y
  | .NotIn => (inT x y).map (!·)
/-- an item by its place -/
def idxT (x y : T) : Option T := match x, y with
  | .lst _ xs, .int i => L2.atI xs i
  | .tup xs, .int i => L2.atI xs i
  | .scr ns, .int i => (L2.atI ns i).map T.int
  | .str s, .int i => if s.length ≤ LIM then (L2.atI s.cps.toList i).map fun c => .str ⟨#[c]⟩ else none
  | .dic _ ks vs, .str s => (kix ks (.inr s)).bind fun j => vs[j]?
  | .dic _ ks vs, .int i => (kix ks (.inl i)).bind fun j => vs[j]?
  | _, _ => none
/-- a field -/
def fldT (c k : Nat) (x : T) : Option T := match x with
  | .ins _ c' vs => if c' = c then vs[k]? else none
  | _ => none
def isC (c : Nat) (x : T) : Bool := match x with | .ins _ c' _ => c' == c | _ => false
def intO : Option T → Option (Option Int)
  | none => some none
  | some (.int i) => some (some i)
  | _ => none
def cutT (xs : List T) (lo hi : Option Int) : List T := (xs.drop (HT.sIx xs.length 0 lo)).take (HT.sIx xs.length xs.length hi - HT.sIx xs.length 0 lo)
def slcT (x : T) (lo hi : Option T) : Option T := match x, intO lo, intO hi with
  | .lst _ xs, some l, some h => if vwL (cutT xs l h) then none else some (.lst .own (cutT xs l h))
  | .scr ns, some l, some h => some (.lst .own (cutT (ns.map T.int) l h))
  | .str s, some l, some h => if s.length ≤ LIM then some (.str (cutS s l h)) else none
  | _, _, _ => none
def intsT : List T → Option (List Int)
  | [] => some []
  | .int i :: r => (intsT r).map (i :: ·)
  | _ => none
def blsT : List T → Option (List Bool)
  | [] => some []
  | .bl i :: r => (blsT r).map (i :: ·)
  | _ => none
/-- a number and a text, as a pair -/
def eIS (p : Int × Str) : T := .tup [.int p.1, .str p.2]
def pairsT : List T → Option (List (Int × Str))
  | [] => some []
  | .tup [.int i, .str s] :: r => (pairsT r).map ((i, s) :: ·)
  | _ => none
/-- the built-in functions that are served -/
def bltT (x : Str) (ts : List T) : Option T :=
  if x = "len" then match ts with
    | [.lst _ xs] => some (.int xs.length) | [.tup xs] => some (.int xs.length) | [.scr ns] => some (.int ns.length)
    | [.str s] => if s.length ≤ LIM then some (.int s.length) else none
    | [.dic _ ks _] => some (.int ks.length)
    | _ => none
  else if x = "abs" then match ts with
    | [.int i] => some (.int (if i < 0 then -i else i)) | _ => none
  else if x = "max" then match ts with
    | [.int i, .int j] => some (.int (if j > i then j else i))
    | [.int i, .int j, .int k] => some (.int (if (if i < j then j else i) < k then k else (if i < j then j else i)))
    | [.lst _ xs] => match intsT xs with | some (n :: r) => some (.int (r.foldl max n)) | _ => none
    | _ => none
  else if x = "min" then match ts with
    | [.int i, .int j] => some (.int (if j < i then j else i))
    | [.lst _ xs] => match intsT xs with | some (n :: r) => some (.int (r.foldl min n)) | _ => none
    | _ => none
  else if x = "sum" then match ts with
    | [.lst _ xs] => (intsT xs).map fun ns => .int ns.sum
    | _ => none
  else if x = "all" then match ts with
    | [.lst _ xs] => (blsT xs).map fun ns => .bl (ns.all id)
    | _ => none
  else if x = "list" then match ts with
    | [.lst _ xs] => if vwL xs then none else some (.lst .own xs)
    | [.tup xs] => if vwL xs then none else some (.lst .own xs)
    | [.dic _ ks _] => some (.lst .own (ks.map keyT))
    | _ => none
  else if x = "int" then match ts with
    | [.bl b] => some (.int (if b then 1 else 0))
    | [.int i] => some (.int i)
    | [.str s] => if s.length ≤ 640 then (PySem.intText? s).map T.int else none
    | _ => none
  else if x = "str" then match ts with
    | [.int i] => if i.natAbs.log2 < 1920 then some (.str (toString i)) else none
    | [.str s] => some (.str s)
    | _ => none
  else if x = "tuple" then match ts with
    | [.lst _ xs] => some (.tup xs)
    | [.tup xs] => some (.tup xs)
    | _ => none
  else if x = "dict" then match ts with
    | [.dic _ ks vs] => if vwL vs then none else some (.dic .own ks vs)
    | _ => none
  else if x = "sorted" then match ts with
    | [.lst _ xs] => (pairsT xs).map fun ps => .lst .own ((sortIS ps).map eIS)
    | _ => none
  else none
def strsT : List T → Option (List Str)
  | [] => some []
  | .str i :: r => (strsT r).map (i :: ·)
  | _ => none
/-- a text's methods -/
def smtT (m : Str) (x : T) (ts : List T) : Option T := match x with
  | .str s =>
    if m = "join" then match ts with
      | [.lst _ xs] => match strsT xs with | some ys => if (ys.map (·.length)).sum + ys.length * s.length ≤ LIM then some (.str (Txt.join s ys)) else none | none => none
      | _ => none
    else if m = "split" then match ts with
      | [.str b] => if (b.length == 0) = false ∧ s.length + 2 ≤ LIM then some (.lst .own ((Txt.split s b).map T.str)) else none
      | _ => none
    else if m = "startswith" then match ts with
      | [.str b] => some (.bl (Txt.startswith s b))
      | _ => none
    else if m = "index" then match ts with
      | [.str b] => match Builtin.Str.occurrences s b 0 s.length 1 with | i :: _ => some (.int (i : Nat)) | [] => none
      | _ => none
    else if m = "find" then match ts with
      | [.str b] => some (.int (Txt.find s b))
      | _ => none
    else none
  | _ => none
/-- the greatest, or what is told -/
def mxdT (x d : T) : Option T := match x with
  | .lst _ xs => match intsT xs with | some (n :: r) => if d.imm then some (.int (r.foldl max n)) else none | some [] => if d.imm then some d else none | none => none
  | _ => none
/-- the first place of a thing -/
def ixOf (x : T) : List T → Option Nat
  | [] => none
  | z :: r => if sameT z x then some 0 else (ixOf x r).map (· + 1)
/-- a list's methods that leave it as it is -/
def lmtT (m : Str) (x : T) (ts : List T) : Option T := match x with
  | .lst _ xs => if m = "index" then match ts with
      | [y] => if y.flat && xs.all (fun z => kindT z y) then (ixOf y xs).map fun j => .int (j : Nat) else none
      | _ => none
    else none
  | _ => none
/-- isinstance with a built-in type -/
def isiT (x : T) (ty : Str) : Option Bool := match x with
  | .non => if ty = "int" ∨ ty = "bool" ∨ ty = "str" ∨ ty = "list" ∨ ty = "tuple" then some false else none
  | .bl _ => if ty = "int" ∨ ty = "bool" then some true else if ty = "str" ∨ ty = "list" ∨ ty = "tuple" then some false else none
  | .int _ => if ty = "int" then some true else if ty = "bool" ∨ ty = "str" ∨ ty = "list" ∨ ty = "tuple" then some false else none
  | .str _ => if ty = "str" then some true else if ty = "int" ∨ ty = "bool" ∨ ty = "list" ∨ ty = "tuple" then some false else none
  | .lst _ _ => if ty = "list" then some true else if ty = "int" ∨ ty = "bool" ∨ ty = "str" ∨ ty = "tuple" then some false else none
  | .tup _ => if ty = "tuple" then some true else if ty = "int" ∨ ty = "bool" ∨ ty = "str" ∨ ty = "list" then some false else none
  | _ => none
def isiNT (x : T) : List Str → Option Bool
  | [] => some false
  | ty :: r => match isiT x ty, isiNT x r with | some a, some b => some (a || b) | _, _ => none
/-- a list's own methods that change it -/
def mutT (m : Str) (xs ys : List T) : Option (List T) :=
  if m = "append" then match ys with
    | [y] => if xs.length < LIM ∧ y.vw = false then some (xs ++ [y]) else none
    | _ => none
  else if m = "clear" then match ys with | [] => some [] | _ => none
  else if m = "reverse" then match ys with | [] => some xs.reverse | _ => none
  else if m = "pop" then match ys with
    | [] => if xs = [] then none else some xs.dropLast
    | _ => none
  else if m = "insert" then match ys with
    | [.int i, y] => if xs.length < LIM ∧ y.vw = false ∧ 0 ≤ i ∧ i < 2 ^ 62 then some (xs.take i.toNat ++ y :: xs.drop i.toNat) else none
    | _ => none
  else none
/-- a target: one name, or several for a tuple -/
def bindTg (tg : List Nat) (x : T) (env : Env) : Option Env := match tg, x with
  | [i], x => if i < env.length ∧ x.vw = false then some (env.set i (some x)) else none
  | is, .tup xs => if is.length = xs.length ∧ vwL xs = false ∧ (∀ i ∈ is, i < env.length) then some ((is.zip xs).foldl (fun e p => e.set p.1 (some p.2)) env) else none
  | _, _ => none
def wipeE (env : Env) : List Nat → Env
  | [] => env
  | i :: r => (wipeE env r).set i none
/-- the arguments of a call, as the def takes them -/
def prep : List Md → IL → List T → Env → Option (List T × Env)
  | [], .nil, [], env => some ([], env)
  | .bor :: ms, .cons _ r, t :: ts, env => (prep ms r ts env).map fun p => (t.mapF Fl.bor :: p.1, p.2)
  | .frz :: ms, .cons _ r, t :: ts, env => if t.vw then none else (prep ms r ts env).map fun p => (t.mapF Fl.fre :: p.1, p.2)
  | .io :: ms, .cons (.var i) r, _ :: ts, env => match env[i]? with
    | some (some u) => (prep ms r ts (env.set i none)).map fun p => (u :: p.1, p.2)
    | _ => none
  | _, _, _, _ => none
def putb : List Md → IL → List T → Env → Option Env
  | [], .nil, [], env => some env
  | .bor :: ms, .cons _ r, ios, env => putb ms r ios env
  | .frz :: ms, .cons _ r, ios, env => putb ms r ios env
  | .io :: ms, .cons (.var i) r, t :: ios, env => if t.hasBrw || t.vw then none else putb ms r ios (env.set i (some t))
  | _, _, _, _ => none
/-- own things, lent for the call -/
def lentBy : List Md → List T → Bool
  | .bor :: ms, t :: ts => t.lent || lentBy ms ts
  | _ :: ms, _ :: ts => lentBy ms ts
  | _, _ => false
def vwBor : List Md → List T → Bool
  | .bor :: ms, t :: ts => t.vw || vwBor ms ts
  | _ :: ms, _ :: ts => vwBor ms ts
  | _, _ => false
def callT (I : CI) (f : Nat) (xs : IL) (ts : List T) (env : Env) : Out T :=
  if anyIo (I.md f) && vwBor (I.md f) ts then .stuck else
  match prep (I.md f) xs ts env with
  | none => .stuck
  | some (us, e1) => match I.run f us with
    | .stuck => .stuck
    | .exc x ios => match putb (I.md f) xs ios e1 with
      | none => .stuck
      | some e2 => .exc x e2
    | .ok t ios => if t.vw || t.hasBrw then .stuck else match putb (I.md f) xs ios e1 with
      | none => .stuck
      | some e2 => .ok t e2
def compLoop (tst : Env → Out Bool) (el : Env → Out T) (tg : List Nat) : List T → List T → Env → Out T
  | [], acc, env => .ok (.lst .own acc) env
  | x :: xs, acc, env => match bindTg tg x env with
    | none => .stuck
    | some e1 => (tst e1).noX.bind fun b e2 => if b then (el e2).noX.bind fun y e3 => if y.vw || !decide (acc.length < LIM) then .stuck else compLoop tst el tg xs (acc ++ [y]) (wipeE e3 tg) else compLoop tst el tg xs acc (wipeE e2 tg)
def toB (x : T) (e : Env) : Out Bool := match x with | .bl b => .ok b e | _ => .stuck
/-- what a for walks: the items of a thing -/
def itemsT (x : T) : Option (List T) := match x with
  | .lst _ xs => some xs | .tup xs => some xs | .scr ns => some (ns.map T.int)
  | .str s => some (s.cps.toList.map fun c => .str ⟨#[c]⟩)
  | _ => none
def rngT (a b : Int) : List T := (List.range (b - a).toNat).map fun k => .int (a + (k : Nat))
def enuT : Nat → List T → List T
  | _, [] => []
  | k, x :: r => .tup [.int (k : Nat), x] :: enuT (k + 1) r
def zipT : List T → List T → List T
  | x :: xs, y :: ys => .tup [x, y] :: zipT xs ys
  | _, _ => []
def int62 (i : Int) : Prop := -(2 ^ 62) ≤ i ∧ i < 2 ^ 62
instance (i : Int) : Decidable (int62 i) := by unfold int62; infer_instance
/-- a place's step, as the slots stand -/
def resX (env : Env) : PX → Option Pst
  | .f c k => some (.f c k)
  | .ks s => some (.k (.inr s))
  | .ki n => some (.k (.inl n))
  | .kv j => match env[j]? with | some (some (.str s)) => some (.k (.inr s)) | some (some (.int n)) => some (.k (.inl n)) | _ => none
def resP (env : Env) : List PX → Option (List Pst)
  | [] => some []
  | x :: r => match resX env x, resP env r with | some a, some b => some (a :: b) | _, _ => none
/-- what is read: of any sharing -/
def stepR : Pst → T → Option T
  | .f c k, .ins _ c' vs => if c' = c then vs[k]? else none
  | .k k, .dic _ ks vs => (kix ks k).bind fun j => vs[j]?
  | .k (.inl i), .lst _ vs => L2.atI vs i
  | .k (.inl i), .tup vs => L2.atI vs i
  | _, _ => none
def getR : List Pst → T → Option T
  | [], t => some t
  | s :: r, t => (stepR s t).bind (getR r)
/-- the keys of a dict that is not one's own -/
def keysR (i : Nat) (ps : List PX) (env : Env) : Option (List Key) := match env[i]?, resP env ps with
  | some (some t), some p => match getR p t with
    | some (.dic f ks _) => if f = .own then none else some ks
    | _ => none
  | _, _ => none
/-- a value out of a list: the last one, or at a place -/
def popAt (xs : List T) : Option Int → Option (T × List T)
  | none => match xs.getLast? with | some x => some (x, xs.dropLast) | none => none
  | some i => if 0 ≤ i ∧ i < 2 ^ 62 then (match xs[i.toNat]? with | some x => some (x, xs.eraseIdx i.toNat) | none => none) else none
/-- an instance is made -/
def newT (I : CI) (c f : Nat) (xs : IL) (ts : List T) (env : Env) : Out T := match I.md f with
  | .io :: ms => if anyIo ms || vwBor ms ts then .stuck else match prep ms xs ts env with
    | none => .stuck
    | some (us, e1) => match I.run f (.ins .own c [] :: us) with
      | .ok .non [t] => if t.vw || t.hasBrw || !isC c t then .stuck else .ok t e1
      | .exc x [t] => if t.vw || t.hasBrw then .stuck else .exc x e1
      | _ => .stuck
  | _ => .stuck
mutual
def evE (I : CI) : IE → Env → Out T
  | .var i, env => match env[i]? with | some (some t) => .ok (t.mapF Fl.vie) env | _ => .stuck
  | .mov i, env => match env[i]? with | some (some t) => .ok t (env.set i none) | _ => .stuck
  | .int n, env => .ok (.int n) env
  | .bl b, env => .ok (.bl b) env
  | .non, env => .ok .non env
  | .str s, env => .ok (.str s) env
  | .bop op a b, env => (evE I a env).bind fun x e1 => gd x.vw (pE I b) ((evE I b e1).bind fun y e2 => .ofO (bopT op x y) e2)
  | .neg a, env => (evE I a env).bind fun x e1 => match x with | .int i => .ok (.int (-i)) e1 | _ => .stuck
  | .nt a, env => (evE I a env).bind fun x e1 => match x with | .bl b => .ok (.bl (!b)) e1 | _ => .stuck
  | .cmp op a b, env => (evE I a env).bind fun x e1 => gd x.vw (pE I b) ((evE I b e1).bind fun y e2 => .ofO ((cmpT op x y).map T.bl) e2)
  | .cmp2 op op' a b c, env => (evE I a env).bind fun x e1 => gd x.vw (pE I b) ((evE I b e1).bind fun y e2 => match cmpT op x y with
    | some b => if b = true then gd (x.vw || y.vw) (pE I c) ((evE I c e2).bind fun z e3 => .ofO ((cmpT op' y z).map T.bl) e3) else .ok (.bl false) e2
    | none => .stuck)
  | .an a b, env => (evE I a env).bind fun x e1 => x.cond (evE I b e1) (.ok (.bl false) e1) .stuck
  | .orr a b, env => (evE I a env).bind fun x e1 => x.cond (.ok (.bl true) e1) (evE I b e1) .stuck
  | .ite c a b, env => (evE I c env).bind fun x e1 => x.cond (evE I a e1) (evE I b e1) .stuck
  | .lst xs, env => (evL I xs env).bind fun ts e1 => if vwL ts || !decide (ts.length ≤ LIM) then .stuck else .ok (.lst .own ts) e1
  | .tup xs, env => (evL I xs env).bind fun ts e1 => if !decide (ts.length ≤ LIM) then .stuck else .ok (.tup ts) e1
  | .idx a b, env => (evE I a env).bind fun x e1 => gd x.vw (pE I b) ((evE I b e1).bind fun y e2 => .ofO (idxT x y) e2)
  | .slc a lo hi, env => (evE I a env).bind fun x e1 => gd x.vw (pO I lo && pO I hi) ((evO I lo e1).noX.bind fun l e2 => (evO I hi e2).noX.bind fun h e3 => .ofO (slcT x l h) e3)
  | .call f xs, env => (evA I (I.md f) xs env).bind fun ts e1 => callT I f xs ts e1
  | .blt x xs, env => (evL I xs env).bind fun ts e1 => .ofO (bltT x ts) e1
  | .isi a x, env => (evE I a env).bind fun t e1 => .ofO ((isiT t x).map T.bl) e1
  | .isiN a xs, env => (evE I a env).bind fun t e1 => .ofO ((isiNT t xs).map T.bl) e1
  | .mxd a d, env => (evE I a env).bind fun x e1 => gd x.vw (pE I d) ((evE I d e1).bind fun y e2 => .ofO (mxdT x y) e2)
  | .gv x, env => .ofO (I.gl x) env
  | .smt m o xs, env => (evE I o env).bind fun x e1 => gd x.vw (pL I xs) ((evL I xs e1).noX.bind fun ts e2 => .ofO (smtT m x ts) e2)
  | .fld c k a, env => (evE I a env).bind fun x e1 => .ofO (fldT c k x) e1
  | .dct ks xs, env => (evL I xs env).bind fun ts e1 => if vwL ts || !decide (ts.length = ks.length) || !decide ((ks.map Sum.inr : List Key).Nodup) || !decide (ts.length ≤ 15) then .stuck else .ok (.dic .own (ks.map Sum.inr) ts) e1
  | .meth c f o xs, env => match I.md f with
    | .io :: ms => match o with
      | .var i => match env[i]? with
        | some (some (.ins .own c' vs)) => if c' = c then (evA I ms xs env).bind fun ts e2 => callT I f (.cons (.var i) xs) (.non :: ts) e2 else .stuck
        | _ => .stuck
      | _ => .stuck
    | _ :: ms => (evE I o env).bind fun x e1 => if isC c x then gd x.vw (pL I xs) ((evA I ms xs e1).bind fun ts e2 => callT I f (.cons o xs) (x :: ts) e2) else .stuck
    | [] => .stuck
  | .new c f xs, env => (evA I (I.md f).tail xs env).bind fun ts e1 => newT I c f xs ts e1
  | .lmt m o xs, env => (evE I o env).bind fun x e1 => gd x.vw (pL I xs) ((evL I xs e1).noX.bind fun ts e2 => .ofO (lmtT m x ts) e2)
  | .popE i ps n, env => .stuck
  | .isx a cs, env => (evE I a env).bind fun x e1 => .ofO ((isxT x cs).map T.bl) e1
  | .xfl a f, env => (evE I a env).bind fun x e1 => .ofO (xflT I x f) e1
  | .comp tg it c elt, env => (evIT I it env).bind fun items e1 => compLoop (fun e => evC I c e) (fun e => evE I elt e) tg items [] (wipeE e1 tg)
/-- a test that may lack -/
def evC (I : CI) : IO → Env → Out Bool
  | .no, env => .ok true env
  | .so e, env => (evE I e env).bind toB
def evO (I : CI) : IO → Env → Out (Option T)
  | .no, env => .ok none env
  | .so e, env => (evE I e env).bind fun x e1 => .ok (some x) e1
def evL (I : CI) : IL → Env → Out (List T)
  | .nil, env => .ok [] env
  | .cons e r, env => (evE I e env).bind fun x e1 => gd x.vw (pL I r) ((evL I r e1).bind fun xs e2 => .ok (x :: xs) e2)
/-- arguments: what the def changes is not looked at here -/
def evA (I : CI) : List Md → IL → Env → Out (List T)
  | .io :: ms, .cons (.var i) r, env => match env[i]? with
    | some (some _) => (evA I ms r env).bind fun xs e2 => .ok (.non :: xs) e2
    | _ => .stuck
  | .io :: _, .cons _ _, _ => .stuck
  | _ :: ms, .cons e r, env => (evE I e env).bind fun x e1 => gd x.vw (pL I r) ((evA I ms r e1).bind fun xs e2 => .ok (x :: xs) e2)
  | _, .nil, env => .ok [] env
  | [], .cons _ _, _ => .stuck
def evIT (I : CI) : IT → Env → Out (List T)
  | .seq a, env => (evE I a env).noX.bind fun x e1 => if x.vw then .stuck else .ofO (itemsT (x.mapF Fl.fre)) e1
  | .rng1 a, env => (evE I a env).noX.bind fun x e1 => match x with | .int n => if int62 n then .ok (rngT 0 n) e1 else .stuck | _ => .stuck
  | .rng2 a b, env => (evE I a env).noX.bind fun x e1 => gd x.vw (pE I b) ((evE I b e1).noX.bind fun y e2 => match x, y with | .int n, .int m => if int62 n ∧ int62 m then .ok (rngT n m) e2 else .stuck | _, _ => .stuck)
  | .enu a, env => (evE I a env).noX.bind fun x e1 => if x.vw then .stuck else match x.mapF Fl.fre with
    | .lst _ xs => .ok (enuT 0 xs) e1
    | _ => .stuck
  | .zip a b, env => (evE I a env).noX.bind fun x e1 => gd x.vw (pE I b) ((evE I b e1).noX.bind fun y e2 => if x.vw || y.vw then .stuck else match x.mapF Fl.fre, y.mapF Fl.fre with
    | .lst _ xs, .lst _ ys => .ok (zipT xs ys) e2
    | _, _ => .stuck)
  | .keys i ps, env => .ofO ((keysR i ps env).map fun ks => ks.map keyT) env
  | .enuK i ps, env => .ofO ((keysR i ps env).map fun ks => enuT 0 (ks.map keyT)) env
end
inductive SOut where
  | next (e : Env) | ret (t : T) (e : Env) | exc (x : Xn) (e : Env) | stuck
def SOut.bind (m : SOut) (f : Env → SOut) : SOut := match m with | .next e => f e | .ret t e => .ret t e | .exc x e => .exc x e | .stuck => .stuck
@[simp] theorem SOut.bind_exc (x : Xn) (e : Env) (f : Env → SOut) : (SOut.exc x e).bind f = .exc x e := rfl
@[simp] theorem SOut.bind_next (e : Env) (f : Env → SOut) : (SOut.next e).bind f = f e := rfl
@[simp] theorem SOut.bind_ret (t : T) (e : Env) (f : Env → SOut) : (SOut.ret t e).bind f = .ret t e := rfl
@[simp] theorem SOut.bind_stuck (f : Env → SOut) : SOut.stuck.bind f = .stuck := rfl
/-- where nothing may be raised: while the keys of a dict are walked -/
def SOut.noK (m : SOut) (it : IT) : SOut := match it, m with | .keys _ _, .exc _ _ => .stuck | .enuK _ _, .exc _ _ => .stuck | _, m => m
@[simp] theorem SOut.noK_next (e : Env) (it : IT) : (SOut.next e).noK it = .next e := by cases it <;> rfl
@[simp] theorem SOut.noK_ret (t : T) (e : Env) (it : IT) : (SOut.ret t e).noK it = .ret t e := by cases it <;> rfl
@[simp] theorem SOut.noK_seq (m : SOut) (a : IE) : m.noK (.seq a) = m := by cases m <;> rfl
@[simp] theorem SOut.noK_rng1 (m : SOut) (a : IE) : m.noK (.rng1 a) = m := by cases m <;> rfl
@[simp] theorem SOut.noK_rng2 (m : SOut) (a b : IE) : m.noK (.rng2 a b) = m := by cases m <;> rfl
@[simp] theorem SOut.noK_enu (m : SOut) (a : IE) : m.noK (.enu a) = m := by cases m <;> rfl
@[simp] theorem SOut.noK_zip (m : SOut) (a b : IE) : m.noK (.zip a b) = m := by cases m <;> rfl
def Out.thn {α : Type} (m : Out α) (f : α → Env → SOut) : SOut := match m with | .ok a e => f a e | .exc x e => .exc x e | .stuck => .stuck
@[simp] theorem Out.thn_exc {α : Type} (x : Xn) (e : Env) (f : α → Env → SOut) : (Out.exc x e : Out α).thn f = .exc x e := rfl
@[simp] theorem Out.thn_ok {α : Type} (a : α) (e : Env) (f : α → Env → SOut) : (Out.ok a e).thn f = f a e := rfl
@[simp] theorem Out.thn_stuck {α : Type} (f : α → Env → SOut) : (Out.stuck : Out α).thn f = .stuck := rfl
def putS (i : Nat) (t : T) (env : Env) : SOut := if t.vw || !decide (i < env.length) then .stuck else .next (env.set i (some t))
def forLoop (body : Env → SOut) (tg : List Nat) : List T → Env → SOut
  | [], env => .next env
  | x :: xs, env => match bindTg tg x env with
    | none => .stuck
    | some e1 => (body e1).bind fun e2 => forLoop body tg xs e2
def whileN (c : Env → Out T) (body : Env → SOut) : Nat → Env → Option SOut
  | 0, _ => none
  | n + 1, env => match c env with
    | .ok x e1 => x.cond (match body e1 with
      | .next e2 => whileN c body n e2
      | .ret t e => some (.ret t e)
      | .exc x e => some (.exc x e)
      | .stuck => some .stuck) (some (.next e1)) (some .stuck)
    | .exc x e => some (.exc x e)
    | .stuck => some .stuck
open Classical in
noncomputable def whileL (c : Env → Out T) (body : Env → SOut) (env : Env) : SOut :=
  if h : ∃ n o, whileN c body n env = some o then h.choose_spec.choose else .stuck
/-- x[k] = t, of an own list -/
def setT (u k t : T) : Option T := match u, k with
  | .lst .own xs, .int i => (L2.ixN xs.length i).map fun j => .lst .own (xs.set j t)
  | _, _ => none
/-- x[k] = t, of an own list or dict -/
def setK (u k t : T) : Option T := match u, k with
  | .lst .own xs, .int i => (L2.ixN xs.length i).map fun j => .lst .own (xs.set j t)
  | .dic .own ks vs, .str s => if ks.length < LIM then some (.dic .own (dput ks vs (.inr s) t).1 (dput ks vs (.inr s) t).2) else none
  | .dic .own ks vs, .int i => if ks.length < LIM then some (.dic .own (dput ks vs (.inl i) t).1 (dput ks vs (.inl i) t).2) else none
  | _, _ => none
/-- x.f = t -/
def setF (c k : Nat) (u t : T) : Option T := match u with
  | .ins .own c' vs => if c' = c then (if k < vs.length then some (.ins .own c (vs.set k t)) else if k = vs.length then some (.ins .own c (vs ++ [t])) else none) else none
  | _ => none
/-- a place's thing is changed -/
def atPl (i : Nat) (ps : List PX) (env : Env) (g : T → Option T) : SOut := match env[i]?, resP env ps with
  | some (some t), some p => match getP p t with
    | some c => match g c with
      | some c' => .next (env.set i (some (setP p t c')))
      | none => .stuck
    | none => .stuck
  | _, _ => .stuck
/-- the slots, lent for a while -/
def lend (env : Env) : Env := env.map fun o => o.map (T.mapF Fl.bor)
def clean (ts : List T) : Bool := !vwL ts && !T.hasL Fl.isBrw ts
mutual
/-- an exception is in it -/
def T.hasX : T → Bool
  | .exn _ _ => true
  | .tup xs => T.hasXL xs | .lst _ xs => T.hasXL xs | .dic _ _ xs => T.hasXL xs | .ins _ _ xs => T.hasXL xs
  | .non => false | .bl _ => false | .int _ => false | .str _ => false | .scr _ => false | .ptr _ => false
def T.hasXL : List T → Bool
  | [] => false
  | x :: r => T.hasX x || T.hasXL r
end
def xfree (e : Env) : Bool := e.all fun o => match o with | some t => !t.hasX | none => true
mutual
noncomputable def exS (I : CI) : IS → Env → SOut
  | .setv i e, env => (evE I e env).thn fun t e1 => putS i t e1
  | .setf i e, env => (evE I e env).thn fun t e1 => putS i (t.mapF Fl.fre) e1
  | .seti i k e, env => (evE I e env).thn fun t e1 => if t.vw then .stuck else match e1[i]? with
    | some (some _) => (evE I k e1).thn fun kk e2 => if kk.vw then .stuck else match e2[i]? with
      | some (some u) => match setT u kk t with
        | some u' => .next (e2.set i (some u'))
        | none => .stuck
      | _ => .stuck
    | _ => .stuck
  | .expr e, env => (evE I e env).thn fun _ e1 => .next e1
  | .mut m i xs, env => match env[i]? with
    | some (some (.lst .own _)) => (evL I xs env).thn fun ts e1 => match e1[i]? with
      | some (some (.lst .own ys)) => match mutT m ys ts with
        | some zs => .next (e1.set i (some (.lst .own zs)))
        | none => .stuck
      | _ => .stuck
    | _ => .stuck
  | .ite c a b, env => (evE I c env).thn fun x e1 => x.cond (exB I a e1) (exB I b e1) .stuck
  | .forr tg it body, env => (evIT I it env).thn fun items e1 => (forLoop (fun e => exB I body e) tg items e1).noK it
  | .whil c body, env => whileL (fun e => evE I c e) (fun e => exB I body e) env
  | .ret e, env => (evE I e env).thn fun t e1 => if t.vw then .stuck else .ret t e1
  | .retN, env => .ret .non env
  | .setp i ps k e, env => (evE I e env).thn fun t e1 => if t.vw then .stuck else match evE I k (lend e1) with
    | .ok kk _ => atPl i ps e1 fun u => setK u kk t
    | _ => .stuck
  | .seta i ps c k e, env => (evE I e env).thn fun t e1 => if t.vw then .stuck else atPl i ps e1 fun u => setF c k u t
  | .mutp m i ps xs, env => match evL I xs (lend env) with
    | .ok ts _ => if clean ts then atPl i ps env fun u => match u with | .lst .own ys => (mutT m ys ts).map (T.lst .own) | _ => none else .stuck
    | _ => .stuck
  | .unp tg e, env => (evE I e env).thn fun t e1 => match bindTg tg (t.mapF Fl.fre) e1 with | some e2 => .next e2 | none => .stuck
  | .pass, env => .next env
  | .bad, env => .stuck
  | .rais c keep xs, env => (evL I xs env).thn fun ts e1 => if ts.all T.imm && decide (ts.length = if keep then (I.xf c).length else 1) then .exc ⟨c, if keep then ts else []⟩ e1 else .stuck
  | .tryx body k i hd, env => match exB I body env with
    | .next e => .next e
    | .ret t e => .ret t e
    | .stuck => .stuck
    | .exc x e => if I.xo x.c then (if xcB x.c k then (match i with
      | none => (match exB I hd e with
        | .next e2 => if xfree e2 then .next e2 else .stuck
        | .ret t e2 => if xfree e2 && (!t.hasX && !t.vw) then .ret t e2 else .stuck
        | _ => .stuck)
      | some i => if i < e.length then (match exB I hd (e.set i (some (.exn x.c x.vs))) with
        | .next e2 => if xfree (e2.set i none) then .next (e2.set i none) else .stuck
        | .ret t e2 => if xfree (e2.set i none) && (!t.hasX && !t.vw) then .ret t (e2.set i none) else .stuck
        | _ => .stuck) else .stuck) else .exc x e) else .stuck
noncomputable def exB (I : CI) : IB → Env → SOut
  | .nil, env => .next env
  | .cons s r, env => (exS I s env).bind fun e => exB I r e
end
end VI

namespace VI
open PySem L2
section
variable {Z : Wo} {F B : Addr → Prop} {H H' : Hp} {σ : St} {env : Env} {xs ys ys' : List T} {vs ws ws' : List V} {Se St : List Addr} {t x y : T} {v u : V}
/-- the top values (own footprint f2) may be taken otherwise -/
def Top (Z : Wo) (F B : Addr → Prop) (H : Hp) (σ : L2.St) (env : Env) (xs : List T) (vs : List V) (Se S f2 : List Addr) : Prop :=
  ∃ f1, S = f1 ++ f2 ∧ ∀ (ys' : List T) (ws' : List V) (g' : List Addr), (∀ a, cn a g' ≤ cn a f2) → RepL Z ⟨F, B, fun a => 0 < cn a Se⟩ H ys' ws' g' → Wd Z F B H σ env (xs ++ ys') (vs ++ ws') Se (f1 ++ g')
theorem Wd.top (w : Wd Z F B H σ env (xs ++ ys) (vs ++ ws) Se St) (hl : ys.length = ws.length) : ∃ f2, RepL Z ⟨F, B, fun a => 0 < cn a Se⟩ H ys ws f2 ∧ Top Z F B H σ env xs vs Se St f2 := by
  obtain ⟨f1, f2, rfl, r, w'⟩ := w.split' hl
  refine ⟨f2, r, f1, rfl, fun ys' ws' g' hg r' => ⟨w'.er, w'.tr.append r', fun a => ?_, fun a h => ?_, w'.al⟩⟩
  · have := w.nd a; have := hg a; simp at *; omega
  · have := w.dj a h; have := hg a; simp at *; omega
theorem step_le {St' : List Addr} (h : ∀ a, cn a St' ≤ cn a St) : Step F H (Se ++ St) F H (Se ++ St') := Step.le fun a => by have := h a; simp; omega
/-- what an immediate is, anywhere -/
def ImmIs (t : T) (v : V) : Prop := ∀ (Z : Wo) (G : Sh) (H : Hp), Rep Z G H t v []
theorem imm_int (i : Int) : ImmIs (.int i) (.int i) := fun _ _ _ => ⟨rfl, rfl⟩
theorem imm_bl (i : Bool) : ImmIs (.bl i) (.bl i) := fun _ _ _ => ⟨rfl, rfl⟩
theorem imm_str (i : Str) : ImmIs (.str i) (.str i) := fun _ _ _ => ⟨rfl, rfl⟩
theorem imm_non : ImmIs .non .non := fun _ _ _ => ⟨rfl, rfl⟩
/-- what is wanted of a value that comes next -/
def Nxt (Z : Wo) (F B : Addr → Prop) (H : Hp) (σ : L2.St) (env : Env) (xs : List T) (vs : List V) (S : List Addr) (t : T) (Q : VK) : Prop :=
  ∀ v H' F' Se' St', Wd Z F' B H' σ env (xs ++ [t]) (vs ++ [v]) Se' St' → Step F H S F' H' (Se' ++ St') → Q v H'
/-- an immediate result in the place of the top values -/
theorem Nxt.imm {Q : VK} {f2 : List Addr} (k : Nxt Z F B H σ env xs vs (Se ++ St) t Q) (tp : Top Z F B H σ env xs vs Se St f2) (i : ImmIs t v) : Q v H := by
  obtain ⟨f1, rfl, mk⟩ := tp
  exact k v H F Se _ (mk [t] [v] [] (fun a => by simp) (RepL.one.mpr (i _ _ _))) (step_le fun a => by simp)
/-- one of the values in hand (or of the items of one) is the result -/
theorem Nxt.part {Q : VK} {f2 g' : List Addr} (k : Nxt Z F B H σ env xs vs (Se ++ St) t Q) (tp : Top Z F B H σ env xs vs Se St f2) (l : ∀ a, cn a g' ≤ cn a f2) (r : Rep Z ⟨F, B, fun a => 0 < cn a Se⟩ H t v g') : Q v H := by
  obtain ⟨f1, rfl, mk⟩ := tp
  exact k v H F Se _ (mk [t] [v] g' l (RepL.one.mpr r)) (step_le fun a => by have := l a; simp; omega)
/-- a new list of the items told -/
theorem Nxt.list {Q : VK} {zs : List T} {us : List V} {f2 g' : List Addr} (k : Nxt Z F B H σ env xs vs (Se ++ St) (.lst .own zs) Q) (tp : Top Z F B H σ env xs vs Se St f2) (l : ∀ a, cn a g' ≤ cn a f2)
    (r : RepL Z ⟨F, B, fun a => 0 < cn a Se⟩ H zs us g') (nv : vwL zs = false) {p : Addr} (hp : H p = none) : Q (.ref p) (upd H p (.lst us)) := by
  obtain ⟨f1, rfl, mk⟩ := tp
  obtain ⟨St', w', s⟩ := (mk zs us g' l r).newList r.length nv hp
  exact k _ _ F Se St' w' ((step_le fun a => by have := l a; simp; omega).trans s)
theorem Nxt.tup {Q : VK} {zs : List T} {us : List V} {f2 g' : List Addr} (k : Nxt Z F B H σ env xs vs (Se ++ St) (.tup zs) Q) (tp : Top Z F B H σ env xs vs Se St f2) (l : ∀ a, cn a g' ≤ cn a f2)
    (r : RepL Z ⟨F, B, fun a => 0 < cn a Se⟩ H zs us g') {p : Addr} (hp : H p = none) : Q (.ref p) (upd H p (.tup us)) := by
  obtain ⟨f1, rfl, mk⟩ := tp
  obtain ⟨St', w', s⟩ := (mk zs us g' l r).newTup r.length hp
  exact k _ _ F Se St' w' ((step_le fun a => by have := l a; simp; omega).trans s)
theorem RepL.two {G : Sh} {f : List Addr} (r : RepL Z G H [x, y] [v, u] f) : ∃ f1 f2, f = f1 ++ f2 ∧ Rep Z G H x v f1 ∧ Rep Z G H y u f2 := by
  obtain ⟨v', vs', f1, f2, e, rfl, r1, r2⟩ := r
  cases e
  exact ⟨f1, f2, rfl, r1, RepL.one.mp r2⟩
/-- the two top values -/
theorem Wd.two (w : Wd Z F B H σ env (xs ++ [x] ++ [y]) (vs ++ [v] ++ [u]) Se St) : Wd Z F B H σ env (xs ++ [x, y]) (vs ++ [v, u]) Se St := by simpa [List.append_assoc] using w
/-- the two top values, by themselves -/
theorem Wd.top2 (w : Wd Z F B H σ env (xs ++ [x] ++ [y]) (vs ++ [v] ++ [u]) Se St) : ∃ f1 f2, Rep Z ⟨F, B, fun a => 0 < cn a Se⟩ H x v f1 ∧ Rep Z ⟨F, B, fun a => 0 < cn a Se⟩ H y u f2 ∧ Top Z F B H σ env xs vs Se St (f1 ++ f2) := by
  obtain ⟨f, r, tp⟩ := w.two.top rfl
  obtain ⟨f1, f2, rfl, r1, r2⟩ := r.two
  exact ⟨f1, f2, r1, r2, tp⟩
theorem Wd.top1 (w : Wd Z F B H σ env (xs ++ [x]) (vs ++ [v]) Se St) : ∃ f1, Rep Z ⟨F, B, fun a => 0 < cn a Se⟩ H x v f1 ∧ Top Z F B H σ env xs vs Se St f1 := by
  obtain ⟨f, r, tp⟩ := w.top rfl
  exact ⟨f, RepL.one.mp r, tp⟩
end
/-! rules by values, whichever serves -/
def AnyOp (X : Cx) (f : Value → Value → Sem Value) : R2 := fun x y H Q => ∃ r, OpR X f r ∧ r x y H Q
theorem anyOp (X : Cx) (f : Value → Value → Sem Value) : OpR X f (AnyOp X f) := fun pins s σ H x y v u Q I rx ry h => let ⟨_, h, q⟩ := h; h pins s σ H x y v u Q I rx ry q
def AnyCall (X : Cx) (f : Value) : List V → Hp → VK → Prop := fun vs H Q => ∃ r, CallR X f r ∧ r vs H Q
theorem anyCall (X : Cx) (f : Value) : CallR X f (AnyCall X f) := fun pins s σ H vs us Q I r h => let ⟨_, h, q⟩ := h; h pins s σ H vs us Q I r q
def AnyIx (X : Cx) : R2 := fun x y H Q => ∃ r, IxR X r ∧ r x y H Q
theorem anyIx (X : Cx) : IxR X (AnyIx X) := fun value slice pins s σ H x y v u Q I rx ry h e => let ⟨_, h, q⟩ := h; h value slice pins s σ H x y v u Q I rx ry q e
def AnySl (X : Cx) : V → Option Int → Option Int → Hp → VK → Prop := fun x lo hi H Q => ∃ r, SlR X r ∧ r x lo hi H Q
theorem anySl (X : Cx) : SlR X (AnySl X) := fun pins s σ H x v vl vu lo hi sl Q I rx a b c h => let ⟨_, h, q⟩ := h; h pins s σ H x v vl vu lo hi sl Q I rx a b c q

section
variable {X : Cx} {Z : Wo} {F B : Addr → Prop} {H : Hp} {σ : L2.St} {env : Env} {xs : List T} {vs : List V} {Se St : List Addr} {t x y : T} {v u : V} {Q : VK}
theorem RepL.append_of {Z : Wo} {G : Sh} {H : Hp} {a b : List T} {va vb : List V} {fa fb : List Addr} (h1 : RepL Z G H a va fa) (h2 : RepL Z G H b vb fb) : RepL Z G H (a ++ b) (va ++ vb) (fa ++ fb) := h1.append h2
theorem cn_hd {a p : Addr} {f : Fl} {fp : List Addr} : cn a fp ≤ cn a (f.hd p ++ fp) := by simp
theorem rep_imm {Z : Wo} {G : Sh} {H : Hp} : ∀ {t : T} {v : V} {fp : List Addr}, t.imm = true → Rep Z G H t v fp → fp = [] ∧ ImmIs t v := fun {t v fp} h r => by
  cases t with
  | non => exact ⟨r.2, fun _ _ _ => ⟨r.1, rfl⟩⟩
  | bl _ => exact ⟨r.2, fun _ _ _ => ⟨r.1, rfl⟩⟩
  | int _ => exact ⟨r.2, fun _ _ _ => ⟨r.1, rfl⟩⟩
  | str _ => exact ⟨r.2, fun _ _ _ => ⟨r.1, rfl⟩⟩
  | _ => cases h
theorem repL_rep {Z : Wo} {G : Sh} {H : Hp} : ∀ {xs : List T} {vs : List V} {fp : List Addr}, xs.all T.imm = true → RepL Z G H xs vs fp → fp = [] ∧ ∀ k : Nat, RepL Z G H (List.replicate k xs).flatten (List.replicate k vs).flatten [] := fun {xs} => by
  have one : ∀ {xs : List T} {vs : List V} {fp : List Addr}, xs.all T.imm = true → RepL Z G H xs vs fp → fp = [] := fun {xs} => by
    induction xs with
    | nil => intro vs fp _ h; exact h.2
    | cons x xs ih =>
      intro vs fp hi h
      rw [List.all_cons, Bool.and_eq_true] at hi
      obtain ⟨v, vs', f1, f2, _, rfl, r1, r2⟩ := h
      rw [(rep_imm hi.1 r1).1, ih hi.2 r2]; rfl
  intro vs fp hi h
  have e := one hi h
  subst e
  refine ⟨rfl, fun k => ?_⟩
  induction k with
  | zero => exact ⟨rfl, rfl⟩
  | succ k ih =>
    rw [List.replicate_succ, List.replicate_succ, List.flatten_cons, List.flatten_cons]
    exact h.append ih
theorem vwL_append {a b : List T} : vwL (a ++ b) = (vwL a || vwL b) := by unfold vwL; rw [hasL_eq, hasL_eq, hasL_eq, List.any_append]
theorem bop_ok {op : Operator} (w : Wd Z F B H σ env (xs ++ [x] ++ [y]) (vs ++ [v] ++ [u]) Se St) (h : bopT op x y = some t) (k : Nxt Z F B H σ env xs vs (Se ++ St) t Q) : AnyOp X (binaryOp op) v u H Q := by
  obtain ⟨f1, f2, r1, r2, tp⟩ := w.top2
  unfold bopT at h
  split at h
  · obtain rfl := r1.1; obtain rfl := r2.1; cases h
    exact ⟨_, op_add, _, _, rfl, rfl, k.imm tp (imm_int _)⟩
  · obtain rfl := r1.1; obtain rfl := r2.1
    split at h
    · cases h
      exact ⟨_, op_add_str, _, _, rfl, rfl, by rw [sizeLine_eq]; assumption, k.imm tp (imm_str _)⟩
    · cases h
  · rename_i fa as fb bs
    obtain ⟨p, ps, fp1, rfl, ga, hp, e1, z1, ra⟩ := r1
    obtain ⟨q, qs, fp2, rfl, gb, hq, e2, z2, rb⟩ := r2
    split at h
    · rename_i hc
      cases h
      refine ⟨_, op_cat, p, q, ps, qs, rfl, rfl, hp, hq, ?_, fun n hn => ?_⟩
      · rw [sizeLine_eq, ← ra.length, ← rb.length]; exact hc.1
      · subst e1 e2
        exact k.list tp (fun a => by simp; omega) (ra.append rb) hc.2 hn
    · cases h
  · obtain rfl := r1.1; obtain rfl := r2.1; cases h
    exact ⟨_, op_sub, _, _, rfl, rfl, k.imm tp (imm_int _)⟩
  · obtain rfl := r1.1; obtain rfl := r2.1
    split at h
    · cases h
      exact ⟨_, op_mulW, _, _, rfl, rfl, by assumption, k.imm tp (imm_int _)⟩
    · cases h
  · rename_i fa as n
    obtain ⟨p, ps, fp1, rfl, ga, hp, e1, z1, ra⟩ := r1
    obtain rfl := r2.1
    split at h
    · rename_i hc
      cases h
      refine ⟨_, op_rep, p, n, ps, rfl, rfl, hp, hc.2.1, hc.2.2.1, by rw [sizeLine_eq, ← ra.length]; exact hc.2.2.2, fun m hm => ?_⟩
      refine k.list tp (fun a => by simp) ((repL_rep hc.1 ra).2 _) ?_ hm
      · unfold vwL
        rw [hasL_eq, List.any_eq_false]
        intro z hz
        obtain ⟨l, hl, hz⟩ := List.mem_flatten.mp hz
        rw [List.eq_of_mem_replicate hl] at hz
        have := List.all_eq_true.mp hc.1 z hz
        cases z <;> first | (intro q; cases q; done) | cases this
    · cases h
  · obtain rfl := r1.1; obtain rfl := r2.1
    split at h
    · cases h
      exact ⟨_, op_repS, _, _, rfl, rfl, by assumption, k.imm tp (imm_str _)⟩
    · cases h
  · obtain rfl := r1.1; obtain rfl := r2.1
    split at h
    · cases h
      exact ⟨_, op_mod, _, _, rfl, rfl, by assumption, k.imm tp (imm_int _)⟩
    · cases h
  · obtain rfl := r1.1; obtain rfl := r2.1
    split at h
    · cases h
      exact ⟨_, op_fdivW, _, _, rfl, rfl, by assumption, k.imm tp (imm_int _)⟩
    · cases h
  · obtain rfl := r1.1; obtain rfl := r2.1
    split at h
    · cases h
      exact ⟨_, op_pow, _, _, rfl, rfl, by assumption, k.imm tp (imm_int _)⟩
    · cases h
  · cases h
end
end VI

namespace VI
open PySem L2
section
variable {X : Cx} {Z : Wo} {F B : Addr → Prop} {H : Hp} {σ : L2.St} {env : Env} {xs : List T} {vs : List V} {Se St : List Addr} {t x y : T} {v u : V} {Q : VK}
theorem sameT_dec {x y : T} {v u : V} {Z : Wo} {G : Sh} {H : Hp} {f1 f2 : List Addr} (h : scalT x y = true) (r1 : Rep Z G H x v f1) (r2 : Rep Z G H y u f2) : L2.scal v u = true ∧ sameT x y = decide (v = u) := by
  cases x <;> cases y <;> first | (cases h; done) | skip
  all_goals (obtain rfl := r1.1; obtain rfl := r2.1; refine ⟨rfl, ?_⟩; unfold sameT; simp)
mutual
theorem dp_of {Z : Wo} {G : Sh} {H : Hp} : ∀ (t : T) (v : V) (fp : List Addr), t.toD.canLay0 = true → Rep Z G H t v fp → Dp Z.K H v t.toD := fun t v fp h r => by
  cases t with
  | non => obtain rfl := r.1; exact .non
  | bl b => obtain rfl := r.1; exact .bl b
  | int i => obtain rfl := r.1; exact .int i
  | str s => obtain rfl := r.1; exact .str s
  | ptr _ => cases h
  | exn _ _ => cases h
  | dic _ _ _ => cases h
  | ins _ _ _ => cases h
  | scr ns =>
    obtain ⟨p, rfl, hs, _⟩ := r
    have all : ∀ ns : List Int, DpAll Z.K H (ns.map V.int) (ns.map PyData.int) := fun ns => by
      induction ns with
      | nil => exact .nil
      | cons n ns ih => exact .cons (.int n) ih
    refine .lst (xs := ns.map V.int) ?_ (all ns)
    rcases hs with ⟨_, hs⟩ | hs
    · exact .inl hs
    · exact .inr hs
  | tup xs =>
    obtain ⟨p, ps, rfl, hs, r⟩ := r
    exact .tup hs (dpL_of xs ps fp h r)
  | lst f xs =>
    obtain ⟨p, ps, fp', rfl, _, hs, _, _, r⟩ := r
    exact .lst (SqL.of hs) (dpL_of xs ps fp' h r)
theorem dpL_of {Z : Wo} {G : Sh} {H : Hp} : ∀ (xs : List T) (vs : List V) (fp : List Addr), PyData.canLayAll0 (T.toDL xs) = true → RepL Z G H xs vs fp → DpAll Z.K H vs (T.toDL xs) := fun xs vs fp h r => by
  cases xs with
  | nil => obtain rfl := r.1; exact .nil
  | cons x xs =>
    obtain ⟨w, ws, f1, f2, rfl, _, r1, r2⟩ := r
    rw [T.toDL, PyData.canLayAll0, Bool.and_eq_true] at h
    exact .cons (dp_of x w f1 h.1 r1) (dpL_of xs ws f2 h.2 r2)
end
theorem canLay_of {d : PyData} (h : SeqAt.shaped d = true) : d.canLay0 = true := SeqAt.canLay_of_shaped h
theorem flat_rep {Z : Wo} {G : Sh} {H : Hp} {t : T} {v : V} {fp : List Addr} (h : t.flat = true) (r : Rep Z G H t v fp) : flatV v = true := by
  cases t <;> first | (cases h; done) | (obtain rfl := r.1; rfl)
theorem kind_rep {Z : Wo} {G : Sh} {H : Hp} {t x : T} {v u : V} {fp f2 : List Addr} (h : kindT t x = true) (r : Rep Z G H t v fp) (r2 : Rep Z G H x u f2) : flatV v = true ∧ eqV v u = sameT t x := by
  cases t <;> cases x <;> first | (cases h; done) | (obtain rfl := r.1; obtain rfl := r2.1; refine ⟨rfl, ?_⟩; first | rfl | (unfold sameT eqV; first | rfl | simp | (rw [beq_eq_decide]; done) | (apply Bool.eq_iff_iff.mpr; simp)))
theorem mem_rep {Z : Wo} {G : Sh} {H : Hp} {x : T} {u : V} {f2 : List Addr} (r2 : Rep Z G H x u f2) : ∀ {ys : List T} {ws : List V} {fp : List Addr}, (ys.all fun z => kindT z x) = true → RepL Z G H ys ws fp → ws.all flatV = true ∧ inV u ws = memT x ys := fun {ys} => by
  induction ys with
  | nil => intro ws fp _ r; obtain rfl := r.1; exact ⟨rfl, rfl⟩
  | cons y ys ih =>
    intro ws fp h r
    rw [List.all_cons, Bool.and_eq_true] at h
    obtain ⟨w, ws', f1, f3, rfl, _, r1, r3⟩ := r
    obtain ⟨a, b⟩ := kind_rep h.1 r1 r2
    obtain ⟨c, d⟩ := ih h.2 r3
    refine ⟨by rw [List.all_cons, a, c]; rfl, ?_⟩
    unfold inV memT at *
    rw [List.any_cons, List.any_cons, b, d]
theorem eq_ok {c : Bool} (hu : X.A.units + 64 < cLine) (hK : X.K = Z.K) (w : Wd Z F B H σ env (xs ++ [x] ++ [y]) (vs ++ [v] ++ [u]) Se St) (h : eqT x y = some c) (k : Q (.bl c) H) : AnyOp X (compareOp .Eq) v u H Q := by
  obtain ⟨f1, f2, r1, r2, tp⟩ := w.top2
  unfold eqT at h
  split at h
  · rename_i hs
    cases h
    obtain ⟨a, b⟩ := sameT_dec hs r1 r2
    exact ⟨_, op_eq, a, by rw [← b]; exact k⟩
  · split at h
    · rename_i hs
      cases h
      rw [Bool.and_eq_true] at hs
      refine ⟨_, op_eqD hu, _, _, ?_, ?_, hs.1, hs.2, k⟩
      · rw [hK]; exact dp_of x v f1 (canLay_of hs.1) r1
      · rw [hK]; exact dp_of y u f2 (canLay_of hs.2) r2
    · cases h
theorem ne_ok {c : Bool} (hu : X.A.units + 64 < cLine) (hK : X.K = Z.K) (w : Wd Z F B H σ env (xs ++ [x] ++ [y]) (vs ++ [v] ++ [u]) Se St) (h : (eqT x y).map (!·) = some c) (k : Q (.bl c) H) : AnyOp X (compareOp .NotEq) v u H Q := by
  obtain ⟨f1, f2, r1, r2, tp⟩ := w.top2
  unfold eqT at h
  split at h
  · rename_i hs
    cases h
    obtain ⟨a, b⟩ := sameT_dec hs r1 r2
    exact ⟨_, op_ne, a, by rw [← b]; exact k⟩
  · split at h
    · rename_i hs
      cases h
      rw [Bool.and_eq_true] at hs
      refine ⟨_, op_neD hu, _, _, ?_, ?_, hs.1, hs.2, k⟩
      · rw [hK]; exact dp_of x v f1 (canLay_of hs.1) r1
      · rw [hK]; exact dp_of y u f2 (canLay_of hs.2) r2
    · cases h
def inOp (neg : Bool) : CmpOp := if neg then .NotIn else .In
theorem op_inB (neg : Bool) : OpR X (compareOp (inOp neg)) (rIn X.K neg) := by
  cases neg
  · exact op_in_seq
  · exact op_notIn_seq
theorem in_ok {c : Bool} {neg : Bool} (hu : X.A.units + 1 < cLine) (hK : X.K = Z.K) (w : Wd Z F B H σ env (xs ++ [x] ++ [y]) (vs ++ [v] ++ [u]) Se St) (h : inT x y = some c) (k : Q (.bl (if neg then !c else c)) H) : AnyOp X (compareOp (inOp neg)) v u H Q := by
  obtain ⟨f1, f2, r1, r2, tp⟩ := w.top2
  have go : rIn X.K neg v u H Q → AnyOp X (compareOp (inOp neg)) v u H Q := fun q => ⟨_, op_inB neg, q⟩
  unfold inT at h
  split at h
  · split at h
    · rename_i hs
      cases h
      rw [Bool.and_eq_true] at hs
      obtain ⟨p, ps, fp', rfl, _, hp, _, _, r⟩ := r2
      obtain ⟨a, b⟩ := mem_rep r1 hs.2 r
      exact go ⟨p, ps, rfl, .inl (SqL.of hp), flat_rep hs.1 r1, a, by rw [b]; exact k⟩
    · cases h
  · split at h
    · rename_i hs
      cases h
      rw [Bool.and_eq_true] at hs
      obtain ⟨p, ps, rfl, hp, r⟩ := r2
      obtain ⟨a, b⟩ := mem_rep r1 hs.2 r
      exact go ⟨p, ps, rfl, .inr (by rw [hK]; exact hp), flat_rep hs.1 r1, a, by rw [b]; exact k⟩
    · cases h
  · obtain rfl := r2.1
    unfold signIn at h
    split at h
    · rename_i y0
      obtain rfl := r1.1
      cases e : sign1 y0 with
      | none => rw [e] at h; cases h
      | some a =>
        rw [e] at h; cases h
        have ey : y0 = ⟨#[a]⟩ := by
          unfold sign1 at e
          split at e
          · rename_i e2
            cases e
            obtain ⟨cps⟩ := y0
            congr 1
            exact Array.toList_inj.mp e2
          · cases e
        subst ey
        cases neg
        · exact ⟨_, op_in_sign, _, _, rfl, rfl, k⟩
        · exact ⟨_, op_notIn_sign, _, _, rfl, rfl, k⟩
    · cases h
  · rename_i _ ks _
    obtain ⟨p, ps, fp', rfl, _, l, hp, _, _, r⟩ := r2
    have gd : ∀ kk, DGet H p (kV kk) (valV (List.zip ks ps) kk) := fun kk => .inl ⟨_, kk, hp.rd, rfl, rfl⟩
    have fin : ∀ kk, v = kV kk → (kix ks kk).isSome = c → AnyOp X (compareOp (inOp neg)) v (.ref p) H Q := fun kk ev ec => by
      subst ev
      have e2 : (valV (List.zip ks ps) kk).isSome = c := by
        rw [← ec, valV_zip l.1]
        cases e3 : kix ks kk with
        | none => rfl
        | some j =>
          have := kix_lt e3
          have hj : j < ps.length := by rw [← l.1]; exact this
          simp [hj]
      cases neg
      · exact ⟨_, op_inD hu, p, _, rfl, gd kk, by rw [e2]; exact k⟩
      · exact ⟨_, op_ninD hu, p, _, rfl, gd kk, by rw [e2]; exact k⟩
    split at h
    · obtain rfl := r1.1; cases h; exact fin (.inr _) rfl rfl
    · obtain rfl := r1.1; cases h; exact fin (.inl _) rfl rfl
    · cases h
  · cases h
theorem non_rep {Z : Wo} {G : Sh} {H : Hp} : ∀ {t : T} {v : V} {fp : List Addr}, (∀ w, t ≠ .ptr w) → Rep Z G H t v fp → decide (v = .non) = (match t with | .non => true | _ => false) := fun {t v fp} np r => by
  cases t with
  | non => obtain rfl := r.1; rfl
  | bl _ => obtain rfl := r.1; rfl
  | int _ => obtain rfl := r.1; rfl
  | str _ => obtain rfl := r.1; rfl
  | ptr w => exact absurd rfl (np w)
  | exn _ _ => obtain ⟨⟨p, rfl, _⟩, _⟩ := r; rfl
  | scr _ => obtain ⟨p, rfl, _⟩ := r; rfl
  | tup _ => obtain ⟨p, ps, rfl, _⟩ := r; rfl
  | lst _ _ => obtain ⟨p, ps, fp', rfl, _⟩ := r; rfl
  | dic _ _ _ => obtain ⟨p, ps, fp', rfl, _⟩ := r; rfl
  | ins _ _ _ => obtain ⟨p, dx, ps, fp', rfl, _⟩ := r; rfl
theorem cmp_ok {op : CmpOp} {c : Bool} (hu : X.A.units + 64 < cLine) (hK : X.K = Z.K) (w : Wd Z F B H σ env (xs ++ [x] ++ [y]) (vs ++ [v] ++ [u]) Se St) (h : cmpT op x y = some c) (k : Q (.bl c) H) : AnyOp X (compareOp op) v u H Q := by
  obtain ⟨f1, f2, r1, r2, tp⟩ := w.top2
  unfold cmpT at h
  split at h
  · split at h
    · obtain rfl := r1.1; obtain rfl := r2.1; cases h; exact ⟨_, op_lt, _, _, rfl, rfl, k⟩
    · cases h
  · split at h
    · obtain rfl := r1.1; obtain rfl := r2.1; cases h; exact ⟨_, op_le, _, _, rfl, rfl, k⟩
    · cases h
  · split at h
    · obtain rfl := r1.1; obtain rfl := r2.1; cases h; exact ⟨_, op_gt, _, _, rfl, rfl, k⟩
    · cases h
  · split at h
    · obtain rfl := r1.1; obtain rfl := r2.1; cases h; exact ⟨_, op_ge, _, _, rfl, rfl, k⟩
    · cases h
  · exact eq_ok hu hK w h k
  · exact ne_ok hu hK w h k
  · split at h
    · obtain rfl := r2.1
      have e := non_rep (fun z q => by subst q; cases h) r1
      refine ⟨_, op_isN, rfl, ?_⟩
      rw [e]
      cases x <;> first | (cases h; done) | (cases h; exact k)
    · cases h
  · split at h
    · obtain rfl := r2.1
      have e := non_rep (fun z q => by subst q; cases h) r1
      refine ⟨_, op_notN, rfl, ?_⟩
      rw [e]
      cases x <;> first | (cases h; done) | (cases h; exact k)
    · cases h
  · exact in_ok (neg := false) (by omega) hK w h k
  · cases e : inT x y with
    | none => rw [e] at h; cases h
    | some d =>
      rw [e] at h; cases h
      exact in_ok (neg := true) (by omega) hK w e k
/-- an item -/
theorem RepL.atI {Z : Wo} {G : Sh} {H : Hp} {ts : List T} {ps : List V} {fp : List Addr} {i : Int} {t : T} (r : RepL Z G H ts ps fp) (h : L2.atI ts i = some t) : ∃ p f, L2.atI ps i = some p ∧ (∀ a, cn a f ≤ cn a fp) ∧ Rep Z G H t p f := by
  unfold L2.atI at h ⊢
  rw [← r.length]
  cases e : ixN ts.length i with
  | none => rw [e] at h; cases h
  | some j =>
    rw [e] at h
    obtain ⟨p, f1, f2, f3, hp, rfl, r'⟩ := r.get h
    exact ⟨p, f2, hp, fun a => by simp; omega, r'⟩
theorem scr_sq {Z : Wo} {G : Sh} {H : Hp} {p : Addr} {ps : List V} (h : ScrAt Z G H p ps) : SqL Z.K H p ps := by
  rcases h with ⟨_, h⟩ | h
  · exact .inl h
  · exact .inr h
theorem idx_ok (hu : X.A.units + 1 < cLine) (hK : X.K = Z.K) (w : Wd Z F B H σ env (xs ++ [x] ++ [y]) (vs ++ [v] ++ [u]) Se St) (h : idxT x y = some t) (k : Nxt Z F B H σ env xs vs (Se ++ St) t Q) : AnyIx X v u H Q := by
  obtain ⟨f1, f2, r1, r2, tp⟩ := w.top2
  unfold idxT at h
  split at h
  · obtain rfl := r2.1
    obtain ⟨p, ps, fp', rfl, _, hp, rfl, _, r⟩ := r1
    obtain ⟨q, f, hq, l, rq⟩ := r.atI h
    exact ⟨_, ix_list, p, ps, _, q, rfl, rfl, SqL.of hp, hq, k.part tp (fun a => by have := l a; simp; omega) rq⟩
  · obtain rfl := r2.1
    obtain ⟨p, ps, rfl, hp, r⟩ := r1
    obtain ⟨q, f, hq, l, rq⟩ := r.atI h
    exact ⟨_, ix_tup, p, ps, _, q, rfl, rfl, by rw [hK]; exact hp, hq, k.part tp (fun a => by have := l a; simp; omega) rq⟩
  · rename_i ns i
    obtain rfl := r2.1
    obtain ⟨p, rfl, hs, _⟩ := r1
    cases e : L2.atI ns i with
    | none => rw [e] at h; cases h
    | some n =>
      rw [e] at h; cases h
      refine ⟨_, ix_list, p, _, _, .int n, rfl, rfl, by rw [hK]; exact scr_sq hs, ?_, k.imm tp (imm_int n)⟩
      unfold L2.atI at e ⊢
      rw [List.length_map]
      cases e2 : ixN ns.length i with
      | none => rw [e2] at e; cases e
      | some j =>
        rw [e2] at e
        show (ns.map V.int)[j]? = _
        rw [List.getElem?_map, show ns[j]? = some n from e]; rfl
  · rename_i s0 i
    obtain rfl := r1.1; obtain rfl := r2.1
    split at h
    · rename_i hz
      cases e : L2.atI s0.cps.toList i with
      | none => rw [e] at h; cases h
      | some n =>
        rw [e] at h; cases h
        exact ⟨_, ix_str, s0, _, n, rfl, rfl, by rw [sizeLine_eq]; exact hz, e, k.imm tp (imm_str _)⟩
    · cases h
  · obtain rfl := r2.1
    obtain ⟨j, hj, h⟩ := Option.bind_eq_some_iff.mp h
    obtain ⟨p, ps, fp', rfl, _, l, hp, rfl, _, r⟩ := r1
    obtain ⟨q, f1, f3, f4, hq, rfl, rq⟩ := r.get h
    exact ⟨_, ix_dict hu, p, q, rfl, .inl ⟨_, .inr _, hp.rd, rfl, by rw [valV_zip l.1, hj]; exact hq.symm⟩, k.part tp (fun a => by simp; omega) rq⟩
  · obtain rfl := r2.1
    obtain ⟨j, hj, h⟩ := Option.bind_eq_some_iff.mp h
    obtain ⟨p, ps, fp', rfl, _, l, hp, rfl, _, r⟩ := r1
    obtain ⟨q, f1, f3, f4, hq, rfl, rq⟩ := r.get h
    exact ⟨_, ix_dict hu, p, q, rfl, .inl ⟨_, .inl _, hp.rd, rfl, by rw [valV_zip l.1, hj]; exact hq.symm⟩, k.part tp (fun a => by simp; omega) rq⟩
  · cases h
theorem RepL.take {Z : Wo} {G : Sh} {H : Hp} : ∀ {ts : List T} {ps : List V} {fp : List Addr} (n : Nat), RepL Z G H ts ps fp → ∃ f, (∀ a, cn a f ≤ cn a fp) ∧ RepL Z G H (ts.take n) (ps.take n) f := fun {ts} => by
  induction ts with
  | nil => intro ps fp n r; obtain rfl := r.1; exact ⟨[], fun a => by simp, by simp [RepL]⟩
  | cons t ts ih =>
    intro ps fp n r
    obtain ⟨v, vs', f1, f2, rfl, rfl, r1, r2⟩ := r
    cases n with
    | zero => exact ⟨[], fun a => by simp, rfl, rfl⟩
    | succ n =>
      obtain ⟨f, l, r3⟩ := ih n r2
      exact ⟨f1 ++ f, fun a => by have := l a; simp; omega, v, vs'.take n, f1, f, rfl, rfl, r1, r3⟩
theorem RepL.drop {Z : Wo} {G : Sh} {H : Hp} : ∀ {ts : List T} {ps : List V} {fp : List Addr} (n : Nat), RepL Z G H ts ps fp → ∃ f, (∀ a, cn a f ≤ cn a fp) ∧ RepL Z G H (ts.drop n) (ps.drop n) f := fun {ts} => by
  induction ts with
  | nil => intro ps fp n r; obtain rfl := r.1; exact ⟨[], fun a => by simp, by simp [RepL]⟩
  | cons t ts ih =>
    intro ps fp n r
    obtain ⟨v, vs', f1, f2, rfl, rfl, r1, r2⟩ := r
    cases n with
    | zero => exact ⟨f1 ++ f2, fun a => Nat.le_refl _, v, vs', f1, f2, rfl, rfl, r1, r2⟩
    | succ n =>
      obtain ⟨f, l, r3⟩ := ih n r2
      exact ⟨f, fun a => by have := l a; simp; omega, r3⟩
theorem RepL.cut {Z : Wo} {G : Sh} {H : Hp} {ts : List T} {ps : List V} {fp : List Addr} (lo hi : Option Int) (r : RepL Z G H ts ps fp) : ∃ f, (∀ a, cn a f ≤ cn a fp) ∧ RepL Z G H (cutT ts lo hi) (cutV ps lo hi) f := by
  unfold cutT cutV
  rw [← r.length]
  obtain ⟨f, l, r1⟩ := r.drop (HT.sIx ts.length 0 lo)
  obtain ⟨f', l', r2⟩ := r1.take (HT.sIx ts.length ts.length hi - HT.sIx ts.length 0 lo)
  exact ⟨f', fun a => Nat.le_trans (l' a) (l a), r2⟩
theorem repL_ints {Z : Wo} {G : Sh} {H : Hp} : ∀ ns : List Int, RepL Z G H (ns.map T.int) (ns.map V.int) [] := fun ns => by
  induction ns with
  | nil => exact ⟨rfl, rfl⟩
  | cons n ns ih => exact ⟨.int n, ns.map V.int, [], [], rfl, rfl, ⟨rfl, rfl⟩, ih⟩
theorem vwL_ints : ∀ ns : List Int, vwL (ns.map T.int) = false := fun ns => by
  unfold vwL; rw [hasL_eq, List.any_eq_false]
  intro z hz
  obtain ⟨n, _, rfl⟩ := List.mem_map.mp hz
  intro q; cases q
theorem vwL_cut {ts : List T} (lo hi : Option Int) (h : vwL ts = false) : vwL (cutT ts lo hi) = false := by
  unfold vwL at *; rw [hasL_eq, List.any_eq_false] at *
  intro z hz
  exact h z (List.mem_of_mem_drop (List.mem_of_mem_take hz))
/-- parts of a slice as they stand -/
def PartIs : Option T → Option V → Prop
  | none, none => True
  | some t, some v => ImmIs t v
  | _, _ => False
theorem slc_ok {lo hi : Option T} {l h : Option Int} (hK : X.K = Z.K) (w : Wd Z F B H σ env (xs ++ [x]) (vs ++ [v]) Se St) (hl : intO lo = some l) (hh : intO hi = some h) (hr : slcT x lo hi = some t) (k : Nxt Z F B H σ env xs vs (Se ++ St) t Q) : AnySl X v l h H Q := by
  obtain ⟨f1, r1, tp⟩ := w.top1
  unfold slcT at hr
  rw [hl, hh] at hr
  split at hr
  · rename_i e1 e2
    cases e1; cases e2
    split at hr
    · cases hr
    · rename_i nv
      cases hr
      obtain ⟨p, ps, fp', rfl, _, hp, rfl, _, r⟩ := r1
      obtain ⟨f, lf, r'⟩ := r.cut l h
      exact ⟨_, sl_list, p, ps, rfl, SqL.of hp, fun q hq => k.list tp (fun a => by have := lf a; simp; omega) r' (by simpa using nv) hq⟩
  · rename_i ns _ _ e1 e2
    cases e1; cases e2
    cases hr
    obtain ⟨p, rfl, hs, _⟩ := r1
    obtain ⟨f, lf, r'⟩ := (repL_ints (Z := Z) (G := ⟨F, B, fun a => 0 < cn a Se⟩) (H := H) ns).cut l h
    exact ⟨_, sl_list, p, _, rfl, by rw [hK]; exact scr_sq hs, fun q hq => k.list tp (fun a => by have := lf a; simp at this; omega) r' (vwL_cut l h (vwL_ints ns)) hq⟩
  · rename_i s0 _ _ e1 e2
    cases e1; cases e2
    obtain rfl := r1.1
    split at hr
    · cases hr
      exact ⟨_, sl_str, s0, rfl, by rw [sizeLine_eq]; assumption, k.imm tp (imm_str _)⟩
    · cases hr
  · cases hr
end
end VI

namespace VI
open PySem L2
section
variable {X : Cx} {Z : Wo} {F B : Addr → Prop} {H : Hp} {σ : L2.St} {env : Env} {xs ys : List T} {vs ws : List V} {Se St : List Addr} {t x y : T} {v u : V} {Q : VK}
theorem repL1 {Z : Wo} {G : Sh} {H : Hp} {f : List Addr} (r : RepL Z G H [x] ws f) : ∃ v, ws = [v] ∧ Rep Z G H x v f := by
  obtain ⟨v, vs', f1, f2, rfl, rfl, r1, rfl, rfl⟩ := r
  exact ⟨v, rfl, by simpa using r1⟩
theorem repL2 {Z : Wo} {G : Sh} {H : Hp} {f : List Addr} (r : RepL Z G H [x, y] ws f) : ∃ v u f1 f2, ws = [v, u] ∧ f = f1 ++ f2 ∧ Rep Z G H x v f1 ∧ Rep Z G H y u f2 := by
  obtain ⟨v, vs', f1, f2, rfl, rfl, r1, r2⟩ := r
  obtain ⟨u, hu, r3⟩ := repL1 r2
  exact ⟨v, u, f1, f2, by rw [hu], rfl, r1, r3⟩
theorem intsT_rep {Z : Wo} {G : Sh} {H : Hp} : ∀ {ts : List T} {ns : List Int} {ps : List V} {fp : List Addr}, intsT ts = some ns → RepL Z G H ts ps fp → ps = ns.map V.int := fun {ts} => by
  induction ts with
  | nil => intro ns ps fp h r; cases h; exact r.1
  | cons t ts ih =>
    intro ns ps fp h r
    obtain ⟨v, vs', f1, f2, rfl, _, r1, r2⟩ := r
    cases t <;> first | (cases h; done) | skip
    rename_i i
    rw [intsT] at h
    cases e : intsT ts with
    | none => rw [e] at h; cases h
    | some ms =>
      rw [e] at h; cases h
      rw [ih e r2]
      obtain rfl := r1.1
      rfl
theorem blsT_rep {Z : Wo} {G : Sh} {H : Hp} : ∀ {ts : List T} {ns : List Bool} {ps : List V} {fp : List Addr}, blsT ts = some ns → RepL Z G H ts ps fp → ps = ns.map V.bl := fun {ts} => by
  induction ts with
  | nil => intro ns ps fp h r; cases h; exact r.1
  | cons t ts ih =>
    intro ns ps fp h r
    obtain ⟨v, vs', f1, f2, rfl, _, r1, r2⟩ := r
    cases t <;> first | (cases h; done) | skip
    rw [blsT] at h
    cases e : blsT ts with
    | none => rw [e] at h; cases h
    | some ms =>
      rw [e] at h; cases h
      rw [ih e r2]
      obtain rfl := r1.1
      rfl
theorem foldl_max_mem : ∀ (r : List Int) (n : Int), r.foldl max n ∈ n :: r ∧ ∀ y ∈ n :: r, y ≤ r.foldl max n := fun r => by
  induction r with
  | nil => intro n; simp
  | cons a r ih =>
    intro n
    rw [List.foldl_cons]
    obtain ⟨h1, h2⟩ := ih (max n a)
    refine ⟨?_, fun y hy => ?_⟩
    · rcases List.mem_cons.mp h1 with h | h
      · rw [h]
        rcases Int.le_total n a with q | q
        · rw [Int.max_eq_right q]; simp
        · rw [Int.max_eq_left q]; simp
      · simp [h]
    · have h0 := h2 (max n a) List.mem_cons_self
      rcases List.mem_cons.mp hy with h | h
      · subst h; exact Int.le_trans (Int.le_max_left _ _) h0
      · rcases List.mem_cons.mp h with h | h
        · subst h; exact Int.le_trans (Int.le_max_right _ _) h0
        · exact h2 y (List.mem_cons_of_mem _ h)
theorem foldl_min_mem : ∀ (r : List Int) (n : Int), r.foldl min n ∈ n :: r ∧ ∀ y ∈ n :: r, r.foldl min n ≤ y := fun r => by
  induction r with
  | nil => intro n; simp
  | cons a r ih =>
    intro n
    rw [List.foldl_cons]
    obtain ⟨h1, h2⟩ := ih (min n a)
    refine ⟨?_, fun y hy => ?_⟩
    · rcases List.mem_cons.mp h1 with h | h
      · rw [h]
        rcases Int.le_total n a with q | q
        · rw [Int.min_eq_left q]; simp
        · rw [Int.min_eq_right q]; simp
      · simp [h]
    · have h0 := h2 (min n a) List.mem_cons_self
      rcases List.mem_cons.mp hy with h | h
      · subst h; exact Int.le_trans h0 (Int.min_le_left _ _)
      · rcases List.mem_cons.mp h with h | h
        · subst h; exact Int.le_trans h0 (Int.min_le_right _ _)
        · exact h2 y (List.mem_cons_of_mem _ h)
def bltNames : List Str := ["len", "abs", "max", "min", "sum", "all", "sorted"]
def bltTypes : List Str := ["list", "int", "str", "tuple", "dict"]
/-- the value at a built-in name -/
def bltV (x : Str) : Value :=
  if x = "len" then .builtin "len" else if x = "abs" then .builtin "abs" else if x = "max" then .builtin "max" else if x = "min" then .builtin "min"
  else if x = "sum" then .builtin "sum" else if x = "all" then .builtin "all" else if x = "list" then .type "list" else if x = "int" then .type "int" else if x = "str" then .type "str" else if x = "tuple" then .type "tuple" else if x = "dict" then .type "dict" else .builtin "sorted"
theorem keyT_rep {Z : Wo} {G : Sh} {H : Hp} : ∀ ks : List Key, RepL Z G H (ks.map keyT) (ks.map kV) [] := fun ks => by
  induction ks with
  | nil => exact ⟨rfl, rfl⟩
  | cons k ks ih => exact ⟨kV k, ks.map kV, [], [], rfl, rfl, by cases k <;> exact ⟨rfl, rfl⟩, ih⟩
theorem keyT_vw : ∀ ks : List Key, vwL (ks.map keyT) = false := fun ks => by
  unfold vwL; rw [hasL_eq, List.any_eq_false]
  intro z hz
  obtain ⟨k, _, rfl⟩ := List.mem_map.mp hz
  cases k <;> (intro q; cases q)
theorem zip_kV {ks : List Key} {vs : List V} (h : ks.length = vs.length) : ((ks.zip vs).map fun kv => kV kv.1) = ks.map kV := by
  have := congrArg (List.map kV) (zip_keys h)
  rwa [List.map_map] at this
theorem Nxt.dic {Q : VK} {zs : List T} {us : List V} {ks : List Key} {f2 g' : List Addr} (k : Nxt Z F B H σ env xs vs (Se ++ St) (.dic .own ks zs) Q) (tp : Top Z F B H σ env xs vs Se St f2) (l : ∀ a, cn a g' ≤ cn a f2)
    (r : RepL Z ⟨F, B, fun a => 0 < cn a Se⟩ H zs us g') (hk : ks.length = us.length ∧ ks.Nodup) {p : Addr} (hp : H p = none) : Q (.ref p) (upd H p (.dK (ks.zip us))) := by
  obtain ⟨f1, rfl, mk⟩ := tp
  obtain ⟨St', w', s⟩ := (mk zs us g' l r).newDic r.length hk hp
  exact k _ _ F Se St' w' ((step_le fun a => by have := l a; simp; omega).trans s)
theorem pairsT_rep {Z : Wo} {G : Sh} {H : Hp} : ∀ {xs : List T} {ks : List (Int × Str)} {vs : List V} {fp : List Addr}, pairsT xs = some ks → RepL Z G H xs vs fp → PairsV Z.K H vs ks := fun {xs} => by
  induction xs with
  | nil => intro ks vs fp h r; cases h; rw [r.1]; exact .nil
  | cons x xs ih =>
    intro ks vs fp h r
    unfold pairsT at h
    split at h
    · rename_i e; cases e
    · rename_i i s r0 e
      cases e
      obtain ⟨ks', h', rfl⟩ := Option.map_eq_some_iff.mp h
      obtain ⟨v, vs', f1, f2, rfl, rfl, ⟨p, us, rfl, hp, r1⟩, r2⟩ := r
      obtain ⟨v1, _, _, _, rfl, _, ⟨rfl, _⟩, v2, _, _, _, rfl, _, ⟨rfl, _⟩, rfl, _⟩ := r1
      exact .cons ⟨p, rfl, hp⟩ (ih h' r2)
    · cases h
theorem pairs_rep {Z : Wo} {G : Sh} {H : Hp} {vs : List V} {ks : List (Int × Str)} (h : PairsV Z.K H vs ks) : RepL Z G H (ks.map eIS) vs [] := by
  induction h with
  | nil => exact ⟨rfl, rfl⟩
  | cons h r ih =>
    obtain ⟨t, rfl, hp⟩ := h
    exact ⟨_, _, [], [], rfl, rfl, ⟨t, _, rfl, hp, _, _, [], [], rfl, rfl, ⟨rfl, rfl⟩, _, _, [], [], rfl, rfl, ⟨rfl, rfl⟩, rfl, rfl⟩, ih⟩
theorem eIS_vw {ks : List (Int × Str)} : vwL (ks.map eIS) = false := by
  induction ks with
  | nil => rfl
  | cons p r ih =>
    show (T.has Fl.isVw (eIS p) || T.hasL Fl.isVw (r.map eIS)) = false
    rw [show T.hasL Fl.isVw (r.map eIS) = false from ih]
    rfl
theorem blt_ok {b : Str} (hc : b ≠ "len" → X.calm = true) (hK : X.K = Z.K) (w : Wd Z F B H σ env (xs ++ ys) (vs ++ ws) Se St) (hl : ys.length = ws.length) (h : bltT b ys = some t) (k : Nxt Z F B H σ env xs vs (Se ++ St) t Q) : AnyCall X (bltV b) ws H Q := by
  obtain ⟨f2, r, tp⟩ := w.top hl
  unfold bltT at h
  by_cases e : b = "len"
  · rw [if_pos e] at h
    unfold bltV; rw [if_pos e]
    split at h
    · cases h
      obtain ⟨v, rfl, p, ps, fp', rfl, _, hp, _, _, r⟩ := repL1 r
      exact ⟨_, call_len_seq, p, ps, rfl, .inl (SqL.of hp), by rw [← r.length]; exact k.imm tp (imm_int _)⟩
    · cases h
      obtain ⟨v, rfl, p, ps, rfl, hp, r⟩ := repL1 r
      exact ⟨_, call_len_seq, p, ps, rfl, .inr (by rw [hK]; exact hp), by rw [← r.length]; exact k.imm tp (imm_int _)⟩
    · cases h
      obtain ⟨v, rfl, p, rfl, hs, _⟩ := repL1 r
      exact ⟨_, call_len_seq, p, _, rfl, .inl (by rw [hK]; exact scr_sq hs), by rw [List.length_map]; exact k.imm tp (imm_int _)⟩
    · split at h
      · rename_i hz
        cases h
        obtain ⟨v, rfl, rfl, _⟩ := repL1 r
        exact ⟨_, call_len_str, _, rfl, by rw [sizeLine_eq]; exact hz, k.imm tp (imm_int _)⟩
      · cases h
    · cases h
      obtain ⟨v, rfl, p, ps, fp', rfl, _, l, hp, _, _, r⟩ := repL1 r
      exact ⟨_, call_lenG, p, _, rfl, hp.rd, by rw [List.length_zip, ← l.1, Nat.min_self]; exact k.imm tp (imm_int _)⟩
    · cases h
  rw [if_neg e] at h
  have n1 := e
  have hc := hc n1
  clear e
  by_cases e : b = "abs"
  · rw [if_pos e] at h
    unfold bltV; rw [if_neg n1, if_pos e]
    split at h
    · cases h
      obtain ⟨v, rfl, rfl, _⟩ := repL1 r
      exact ⟨_, call_abs, _, rfl, k.imm tp (imm_int _)⟩
    · cases h
  rw [if_neg e] at h
  have n2 := e
  clear e
  by_cases e : b = "max"
  · rw [if_pos e] at h
    unfold bltV; rw [if_neg n1, if_neg n2, if_pos e]
    split at h
    · cases h
      obtain ⟨v, u, f1, f3, rfl, rfl, ⟨rfl, _⟩, ⟨rfl, _⟩⟩ := repL2 r
      exact ⟨_, call_max2 hc, _, _, rfl, k.imm tp (imm_int _)⟩
    · rename_i i j l
      cases h
      obtain ⟨v, vs', f1, f3, rfl, rfl, ⟨rfl, _⟩, r⟩ := r
      obtain ⟨v, u, f1, f3, rfl, rfl, ⟨rfl, _⟩, ⟨rfl, _⟩⟩ := repL2 r
      refine ⟨_, call_max3Nu hc, _, _, _, _, rfl, ?_, k.imm tp (imm_int _)⟩
      unfold nuMax3 nuMax2 nuLt nuCB
      show ((some (if decide (i < j) = true then V.int j else V.int i)).bind fun m => _) = _
      by_cases h1 : i < j
      · simp only [h1, decide_true, if_true, Option.bind_some]
        by_cases h2 : j < l <;> simp [h2]
      · simp only [h1, decide_false, if_false, Option.bind_some, Bool.false_eq_true]
        by_cases h2 : i < l <;> simp [h2]
    · split at h
      · rename_i ns m ms e1
        cases h
        obtain ⟨v, rfl, p, ps, fp', rfl, _, hp, _, _, r⟩ := repL1 r
        have e2 := intsT_rep e1 r
        obtain ⟨h1, h2⟩ := foldl_max_mem ms m
        refine ⟨_, cr_max hc, p, m :: ms, rfl, SqL.of (by rw [hp, e2]), Nat.succ_pos _, fun z hz hz2 => ?_⟩
        have : z = ms.foldl max m := Int.le_antisymm (h2 z hz) (hz2 _ h1)
        rw [this]; exact k.imm tp (imm_int _)
      · cases h
    · cases h
  rw [if_neg e] at h
  have n3 := e
  clear e
  by_cases e : b = "min"
  · rw [if_pos e] at h
    unfold bltV; rw [if_neg n1, if_neg n2, if_neg n3, if_pos e]
    split at h
    · cases h
      obtain ⟨v, u, f1, f3, rfl, rfl, ⟨rfl, _⟩, ⟨rfl, _⟩⟩ := repL2 r
      exact ⟨_, call_min2 hc, _, _, rfl, k.imm tp (imm_int _)⟩
    · split at h
      · rename_i ns m ms e1
        cases h
        obtain ⟨v, rfl, p, ps, fp', rfl, _, hp, _, _, r⟩ := repL1 r
        have e2 := intsT_rep e1 r
        obtain ⟨h1, h2⟩ := foldl_min_mem ms m
        refine ⟨_, cr_min hc, p, m :: ms, rfl, SqL.of (by rw [hp, e2]), Nat.succ_pos _, fun z hz hz2 => ?_⟩
        have : z = ms.foldl min m := Int.le_antisymm (hz2 _ h1) (h2 z hz)
        rw [this]; exact k.imm tp (imm_int _)
      · cases h
    · cases h
  rw [if_neg e] at h
  have n4 := e
  clear e
  by_cases e : b = "sum"
  · rw [if_pos e] at h
    unfold bltV; rw [if_neg n1, if_neg n2, if_neg n3, if_neg n4, if_pos e]
    split at h
    · rename_i fa as
      cases e1 : intsT as with
      | none => rw [e1] at h; cases h
      | some ns =>
        rw [e1] at h; cases h
        obtain ⟨v, rfl, p, ps, fp', rfl, _, hp, _, _, r⟩ := repL1 r
        have e2 := intsT_rep e1 r
        exact ⟨_, cr_sum hc, p, ns, rfl, SqL.of (by rw [hp, e2]), k.imm tp (imm_int _)⟩
    · cases h
  rw [if_neg e] at h
  have n5 := e
  clear e
  by_cases e : b = "all"
  · rw [if_pos e] at h
    unfold bltV; rw [if_neg n1, if_neg n2, if_neg n3, if_neg n4, if_neg n5, if_pos e]
    split at h
    · rename_i fa as
      cases e1 : blsT as with
      | none => rw [e1] at h; cases h
      | some ns =>
        rw [e1] at h; cases h
        obtain ⟨v, rfl, p, ps, fp', rfl, _, hp, _, _, r⟩ := repL1 r
        have e2 := blsT_rep e1 r
        exact ⟨_, cr_all hc, p, ns, rfl, SqL.of (by rw [hp, e2]), k.imm tp (imm_bl _)⟩
    · cases h
  rw [if_neg e] at h
  have n6 := e
  clear e
  by_cases e : b = "list"
  · rw [if_pos e] at h
    unfold bltV; rw [if_neg n1, if_neg n2, if_neg n3, if_neg n4, if_neg n5, if_neg n6, if_pos e]
    split at h
    · split at h
      · cases h
      · rename_i nv
        cases h
        obtain ⟨v, rfl, p, ps, fp', rfl, _, hp, rfl, _, r⟩ := repL1 r
        exact ⟨_, call_list_of, p, ps, rfl, .inl (SqL.of hp), fun q hq => k.list tp (fun a => by simp) r (by simpa using nv) hq⟩
    · split at h
      · cases h
      · rename_i nv
        cases h
        obtain ⟨v, rfl, p, ps, rfl, hp, r⟩ := repL1 r
        exact ⟨_, call_list_of, p, ps, rfl, .inr (by rw [hK]; exact hp), fun q hq => k.list tp (fun a => Nat.le_refl _) r (by simpa using nv) hq⟩
    · rename_i ks _
      cases h
      obtain ⟨v, rfl, p, ps, fp', rfl, _, l, hp, _, _, r⟩ := repL1 r
      exact ⟨_, call_listD hc, p, _, rfl, hp.rd, fun q hq => by rw [zip_kV l.1]; exact k.list (g' := []) tp (fun a => by simp) (keyT_rep ks) (keyT_vw ks) hq⟩
    · cases h
  rw [if_neg e] at h
  have n7 := e
  clear e
  by_cases e : b = "int"
  · rw [if_pos e] at h
    unfold bltV; rw [if_neg n1, if_neg n2, if_neg n3, if_neg n4, if_neg n5, if_neg n6, if_neg n7, if_pos e]
    split at h
    · cases h
      obtain ⟨v, rfl, rfl, _⟩ := repL1 r
      exact ⟨_, call_int1, .inr ⟨_, rfl, k.imm tp (imm_int _)⟩⟩
    · cases h
      obtain ⟨v, rfl, rfl, _⟩ := repL1 r
      exact ⟨_, call_int1, .inl ⟨_, rfl, k.imm tp (imm_int _)⟩⟩
    · split at h
      · rename_i s0 hz
        cases e1 : PySem.intText? s0 with
        | none => rw [e1] at h; cases h
        | some n =>
          rw [e1] at h; cases h
          obtain ⟨v, rfl, rfl, _⟩ := repL1 r
          exact ⟨_, call_int_str, _, n, rfl, e1, hz, k.imm tp (imm_int _)⟩
      · cases h
    · cases h
  rw [if_neg e] at h
  have n8 := e
  clear e
  by_cases e : b = "str"
  · rw [if_pos e] at h
    unfold bltV; rw [if_neg n1, if_neg n2, if_neg n3, if_neg n4, if_neg n5, if_neg n6, if_neg n7, if_neg n8, if_pos e]
    split at h
    · split at h
      · rename_i hz
        cases h
        obtain ⟨v, rfl, rfl, _⟩ := repL1 r
        exact ⟨_, call_str_int, _, rfl, hz, k.imm tp (imm_str _)⟩
      · cases h
    · cases h
      obtain ⟨v, rfl, rfl, _⟩ := repL1 r
      exact ⟨_, SkE.call_str_str, _, rfl, k.imm tp (imm_str _)⟩
    · cases h
  rw [if_neg e] at h
  have n9 := e
  clear e
  by_cases e : b = "tuple"
  · rw [if_pos e] at h
    unfold bltV; rw [if_neg n1, if_neg n2, if_neg n3, if_neg n4, if_neg n5, if_neg n6, if_neg n7, if_neg n8, if_neg n9, if_pos e]
    split at h
    · cases h
      obtain ⟨v, rfl, p, ps, fp', rfl, _, hp, rfl, _, r⟩ := repL1 r
      exact ⟨_, call_tuple_of, p, ps, rfl, .inl ⟨SqL.of hp, fun q hq => k.tup tp (fun a => by simp) r hq⟩⟩
    · cases h
      obtain ⟨v, rfl, p, ps, rfl, hp, r⟩ := repL1 r
      exact ⟨_, call_tuple_of, p, ps, rfl, .inr ⟨by rw [hK]; exact hp, k.part tp (fun a => Nat.le_refl _) (show Rep Z _ H (.tup _) _ _ from ⟨p, ps, rfl, hp, r⟩)⟩⟩
    · cases h
  rw [if_neg e] at h
  have n10 := e
  clear e
  by_cases e : b = "dict"
  · rw [if_pos e] at h
    unfold bltV; rw [if_neg n1, if_neg n2, if_neg n3, if_neg n4, if_neg n5, if_neg n6, if_neg n7, if_neg n8, if_neg n9, if_neg n10, if_pos e]
    split at h
    · split at h
      · cases h
      · rename_i nv
        cases h
        obtain ⟨v, rfl, p, ps, fp', rfl, _, l, hp, rfl, _, r⟩ := repL1 r
        exact ⟨_, call_dictD, p, _, rfl, hp.rd, fun q hq => k.dic tp (fun a => by simp) r l hq⟩
    · cases h
  rw [if_neg e] at h
  have n11 := e
  clear e
  by_cases e : b = "sorted"
  · rw [if_pos e] at h
    unfold bltV; rw [if_neg n1, if_neg n2, if_neg n3, if_neg n4, if_neg n5, if_neg n6, if_neg n7, if_neg n8, if_neg n9, if_neg n10, if_neg n11]
    split at h
    · rename_i fa as
      obtain ⟨ks, e1, rfl⟩ := Option.map_eq_some_iff.mp h
      obtain ⟨v, rfl, p, ps, fp', rfl, _, hp, rfl, _, r⟩ := repL1 r
      exact ⟨_, cr_sortedQ, p, ps, ks, rfl, SqL.of hp, by rw [hK]; exact pairsT_rep e1 r, fun qs q hq hn => k.list (g' := []) tp (fun a => by simp) (pairs_rep (by rw [hK] at hq; exact hq)) eIS_vw hn⟩
    · cases h
  rw [if_neg e] at h
  cases h
/-- the built-in type at a name -/
def tyV (x : Str) : String := if x = "int" then "int" else if x = "bool" then "bool" else if x = "str" then "str" else if x = "list" then "list" else "tuple"
def tyNames : List Str := ["int", "bool", "str", "list", "tuple"]
theorem tyX_tup {K : PySem.W.Frag} {p : Addr} {ps : List V} (h : SqT K H p ps) : TyX K H (.ref p) (.type "tuple") := by
  rcases h with (h | ⟨o, h⟩) | ⟨o, its, n, h, c, _⟩
  · exact .base (.tup h)
  · exact .fTuple h
  · exact .kTuple h c
theorem isi_ok {ty : Str} {c : Bool} (hK : X.K = Z.K) (w : Wd Z F B H σ env (xs ++ [x]) (vs ++ [v]) Se St) (h : isiT x ty = some c) (k : Nxt Z F B H σ env xs vs (Se ++ St) (.bl c) Q) : rIsi X.K [v, .ty (tyV ty)] H Q := by
  obtain ⟨f1, r, tp⟩ := w.top1
  have q : Q (.bl c) H := k.imm tp (imm_bl _)
  have go : ∀ (s : String), TyX X.K H v (.type s) → kitB s (tyV ty) = some c → rIsi X.K [v, .ty (tyV ty)] H Q := fun s a b => ⟨v, _, _, _, c, rfl, .ty _, a, kit_ty b, q⟩
  unfold isiT at h
  split at h
  · obtain rfl := r.1
    refine go "NoneType" (.base .non) ?_
    split at h
    · rename_i e; cases h
      rcases e with e | e | e | e | e <;> subst e <;> decide +kernel
    · cases h
  · obtain rfl := r.1
    refine go "bool" (.base (.bl _)) ?_
    split at h
    · rename_i e; cases h
      rcases e with e | e <;> subst e <;> decide +kernel
    · split at h
      · rename_i e; cases h
        rcases e with e | e | e <;> subst e <;> decide +kernel
      · cases h
  · obtain rfl := r.1
    refine go "int" (.base (.int _)) ?_
    split at h
    · rename_i e; cases h; subst e; decide +kernel
    · split at h
      · rename_i e; cases h
        rcases e with e | e | e | e <;> subst e <;> decide +kernel
      · cases h
  · obtain rfl := r.1
    refine go "str" (.base (.str _)) ?_
    split at h
    · rename_i e; cases h; subst e; decide +kernel
    · split at h
      · rename_i e; cases h
        rcases e with e | e | e | e <;> subst e <;> decide +kernel
      · cases h
  · obtain ⟨p, ps, fp', rfl, _, hp, _, _, r⟩ := r
    refine go "list" (.base (.lst hp)) ?_
    split at h
    · rename_i e; cases h; subst e; decide +kernel
    · split at h
      · rename_i e; cases h
        rcases e with e | e | e | e <;> subst e <;> decide +kernel
      · cases h
  · obtain ⟨p, ps, rfl, hp, r⟩ := r
    refine go "tuple" (tyX_tup (by rw [hK]; exact hp)) ?_
    split at h
    · rename_i e; cases h; subst e; decide +kernel
    · split at h
      · rename_i e; cases h
        rcases e with e | e | e | e <;> subst e <;> decide +kernel
      · cases h
  · cases h
theorem Nxt.after {F1 : Addr → Prop} {H1 : Hp} {S S1 : List Addr} (k : Nxt Z F B H σ env xs vs S t Q) (s : Step F H S F1 H1 S1) : Nxt Z F1 B H1 σ env xs vs S1 t Q := fun v H' F' Se' St' w s' => k v H' F' Se' St' w (s.trans s')
/-- several types -/
theorem isi_ty {G : Sh} {f1 : List Addr} (hK : X.K = Z.K) (r : Rep Z G H x v f1) (h0 : ∃ ty c, isiT x ty = some c) : ∃ t, TyX X.K H v (.type t) ∧ ∀ ty c, isiT x ty = some c → PySem.W.kitOne X.K (.type t) (.type (tyV ty)) = some c := by
  have go : ∀ (s : String), TyX X.K H v (.type s) → (∀ ty c, isiT x ty = some c → kitB s (tyV ty) = some c) → ∃ t, TyX X.K H v (.type t) ∧ ∀ ty c, isiT x ty = some c → PySem.W.kitOne X.K (.type t) (.type (tyV ty)) = some c := fun s a b => ⟨s, a, fun ty c h => kit_ty (b ty c h)⟩
  cases x with
  | non =>
    obtain rfl := r.1
    refine go "NoneType" (.base .non) fun ty c h => ?_
    unfold isiT at h; dsimp only at h
    split at h
    · rename_i e; cases h
      rcases e with e | e | e | e | e <;> subst e <;> decide +kernel
    · cases h
  | bl b =>
    obtain rfl := r.1
    refine go "bool" (.base (.bl _)) fun ty c h => ?_
    unfold isiT at h; dsimp only at h
    split at h
    · rename_i e; cases h
      rcases e with e | e <;> subst e <;> decide +kernel
    · split at h
      · rename_i e; cases h
        rcases e with e | e | e <;> subst e <;> decide +kernel
      · cases h
  | int i =>
    obtain rfl := r.1
    refine go "int" (.base (.int _)) fun ty c h => ?_
    unfold isiT at h; dsimp only at h
    split at h
    · rename_i e; cases h; subst e; decide +kernel
    · split at h
      · rename_i e; cases h
        rcases e with e | e | e | e <;> subst e <;> decide +kernel
      · cases h
  | str z =>
    obtain rfl := r.1
    refine go "str" (.base (.str _)) fun ty c h => ?_
    unfold isiT at h; dsimp only at h
    split at h
    · rename_i e; cases h; subst e; decide +kernel
    · split at h
      · rename_i e; cases h
        rcases e with e | e | e | e <;> subst e <;> decide +kernel
      · cases h
  | lst f ys =>
    obtain ⟨p, ps, fp', rfl, _, hp, _, _, r⟩ := r
    refine go "list" (.base (.lst hp)) fun ty c h => ?_
    unfold isiT at h; dsimp only at h
    split at h
    · rename_i e; cases h; subst e; decide +kernel
    · split at h
      · rename_i e; cases h
        rcases e with e | e | e | e <;> subst e <;> decide +kernel
      · cases h
  | tup ys =>
    obtain ⟨p, ps, rfl, hp, r⟩ := r
    refine go "tuple" (tyX_tup (by rw [hK]; exact hp)) fun ty c h => ?_
    unfold isiT at h; dsimp only at h
    split at h
    · rename_i e; cases h; subst e; decide +kernel
    · split at h
      · rename_i e; cases h
        rcases e with e | e | e | e <;> subst e <;> decide +kernel
      · cases h
  | _ =>
    obtain ⟨ty, c, h⟩ := h0
    cases h
theorem kit_any {K : PySem.W.Frag} {t : Value} (k : ∀ ty c, isiT x ty = some c → PySem.W.kitOne K t (.type (tyV ty)) = some c) : ∀ (tys : List Str) (c : Bool), isiNT x tys = some c → PySem.W.kitAny K t (tys.map fun ty => .type (tyV ty)) = some c
  | [], c, h => by cases h; rfl
  | ty :: r, c, h => by
    rw [isiNT] at h
    split at h
    · rename_i a b e1 e2
      cases h
      rw [List.map_cons, PySem.W.kitAny, k ty a e1]
      cases a with
      | true => rfl
      | false => exact kit_any k r b e2
    · cases h
theorem isiN_ok {tys : List Str} {c : Bool} {q : Addr} (hK : X.K = Z.K) (w : Wd Z F B H σ env (xs ++ [x]) (vs ++ [v]) Se St) (h : isiNT x tys = some c) (h0 : tys ≠ []) (k : Nxt Z F B H σ env xs vs (Se ++ St) (.bl c) Q) (hq : H q = none) :
    rIsiT X.K [v, .ref q] (upd H q (.tup (tys.map fun ty => .ty (tyV ty)))) Q := by
  have g := w.grow (upd_keep (o := .tup (tys.map fun ty => .ty (tyV ty))) hq)
  obtain ⟨f1, r, tp⟩ := g.top1
  have ex : ∃ ty c, isiT x ty = some c := by
    cases tys with
    | nil => exact absurd rfl h0
    | cons ty r =>
      rw [isiNT] at h
      split at h
      · exact ⟨_, _, by assumption⟩
      · cases h
  obtain ⟨t, ty, ks⟩ := isi_ty hK r ex
  refine ⟨v, q, _, .type t, tys.map fun ty => .type (tyV ty), c, rfl, upd_same, ?_, ty, kit_any ks tys c h, (Nxt.after k (Step.alloc hq fun a => by omega)).imm tp (imm_bl _)⟩
  clear h h0 ks k hq g tp r ty ex
  induction tys with
  | nil => exact .nil
  | cons a r ih => exact .cons (.ty _) ih
theorem mxd_ok (hc : X.calm = true) (hK : X.K = Z.K) (w : Wd Z F B H σ env (xs ++ [x] ++ [y]) (vs ++ [v] ++ [u]) Se St) (h : mxdT x y = some t) (k : Nxt Z F B H σ env xs vs (Se ++ St) t Q) : rMaxDf X.K [v] [u] H Q := by
  obtain ⟨f1, f2, r1, r2, tp⟩ := w.top2
  unfold mxdT at h
  split at h
  · obtain ⟨p, ps, fp', rfl, _, hp, _, _, ra⟩ := r1
    split at h
    · rename_i ns n r e
      split at h
      · cases h
        have e2 := intsT_rep e ra
        obtain ⟨h1, h2⟩ := foldl_max_mem r n
        refine ⟨p, n :: r, u, rfl, rfl, SqL.of (by rw [hp, e2]), (fun z => by cases z), fun m hm hm2 => ?_⟩
        have : m = r.foldl max n := Int.le_antisymm (h2 m hm) (hm2 _ h1)
        rw [this]; exact k.imm tp (imm_int _)
      · cases h
    · rename_i ns e
      split at h
      · rename_i hi
        cases h
        have e2 := intsT_rep e ra
        obtain ⟨_, hu⟩ := rep_imm hi r2
        refine ⟨p, [], u, rfl, rfl, SqL.of (by rw [hp, e2]), (fun _ => k.imm tp hu), fun m hm => by cases hm⟩
      · cases h
    · cases h
  · cases h
theorem strsT_rep {Z : Wo} {G : Sh} {H : Hp} : ∀ {ts : List T} {ns : List Str} {ps : List V} {fp : List Addr}, strsT ts = some ns → RepL Z G H ts ps fp → ps = ns.map V.str := fun {ts} => by
  induction ts with
  | nil => intro ns ps fp h r; cases h; exact r.1
  | cons t ts ih =>
    intro ns ps fp h r
    obtain ⟨v, vs', f1, f2, rfl, _, r1, r2⟩ := r
    cases t <;> first | (cases h; done) | skip
    rw [strsT] at h
    cases e : strsT ts with
    | none => rw [e] at h; cases h
    | some ms =>
      rw [e] at h; cases h
      rw [ih e r2]
      obtain rfl := r1.1
      rfl
def AnyMS (X : Cx) (id : String) : V → List V → Hp → VK → Prop := fun x vs H Q => ∃ r, MtR X id r ∧ r x vs H Q
theorem anyMS (X : Cx) (id : String) : MtR X id (AnyMS X id) := fun pins s σ H x xs v us Q I rx r h => let ⟨_, h, q⟩ := h; h pins s σ H x xs v us Q I rx r q
theorem repL_strs {Z : Wo} {G : Sh} {H : Hp} : ∀ ns : List Str, RepL Z G H (ns.map T.str) (ns.map V.str) [] := fun ns => by
  induction ns with
  | nil => exact ⟨rfl, rfl⟩
  | cons n ns ih => exact ⟨.str n, ns.map V.str, [], [], rfl, rfl, ⟨rfl, rfl⟩, ih⟩
theorem vwL_strs : ∀ ns : List Str, vwL (ns.map T.str) = false := fun ns => by
  unfold vwL; rw [hasL_eq, List.any_eq_false]
  intro z hz
  obtain ⟨n, _, rfl⟩ := List.mem_map.mp hz
  intro q; cases q
/-- the built-in behind a text's method -/
def smtId (m : Str) : String := if m = "join" then "str.join" else if m = "split" then "str.split" else if m = "startswith" then "str.startswith" else if m = "index" then "str.index" else "str.find"
def smtNames : List Str := ["join", "split", "startswith", "index", "find"]
theorem smt_ok {m : Str} {ys : List T} {ws : List V} (hK : X.K = Z.K) (w : Wd Z F B H σ env (xs ++ [x] ++ ys) (vs ++ [v] ++ ws) Se St) (hl : ys.length = ws.length) (h : smtT m x ys = some t) (k : Nxt Z F B H σ env xs vs (Se ++ St) t Q) : (∃ a, v = .str a) ∧ AnyMS X (smtId m) v ws H Q := by
  have w' : Wd Z F B H σ env (xs ++ ([x] ++ ys)) (vs ++ ([v] ++ ws)) Se St := by simpa [List.append_assoc] using w
  obtain ⟨f, r, tp⟩ := w'.top (by simp [hl])
  obtain ⟨v', vs', f1, f2, e0, rfl, r1, r2⟩ := r
  cases e0
  unfold smtT at h
  split at h
  case h_2 => cases h
  rename_i s0
  obtain rfl := r1.1
  refine ⟨⟨s0, rfl⟩, ?_⟩
  unfold smtId
  split at h
  · rename_i e
    rw [if_pos e]
    split at h
    · split at h
      · rename_i ys e1
        split at h
        · rename_i hz
          cases h
          obtain ⟨u, rfl, p, ps, fp', rfl, _, hp, _, _, ra⟩ := repL1 r2
          have e2 := strsT_rep e1 ra
          exact ⟨_, mt_join, s0, p, ys, rfl, rfl, .inl (SqL.of (by rw [hp, e2])), hz, k.imm tp (imm_str _)⟩
        · cases h
      · cases h
    · cases h
  rename_i n1
  rw [if_neg n1]
  split at h
  · rename_i e
    rw [if_pos e]
    split at h
    · split at h
      · rename_i b hz
        cases h
        obtain ⟨u, rfl, rfl, _⟩ := repL1 r2
        exact ⟨_, mt_split, s0, b, rfl, rfl, hz.1, by rw [sizeLine_eq]; exact hz.2, fun q hq => k.list (g' := []) tp (fun a => by simp) (repL_strs _) (vwL_strs _) hq⟩
      · cases h
    · cases h
  rename_i n2
  rw [if_neg n2]
  split at h
  · rename_i e
    rw [if_pos e]
    split at h
    · cases h
      obtain ⟨u, rfl, rfl, _⟩ := repL1 r2
      exact ⟨_, mt_startswith, s0, _, rfl, rfl, k.imm tp (imm_bl _)⟩
    · cases h
  rename_i n3
  rw [if_neg n3]
  split at h
  · rename_i e
    rw [if_pos e]
    split at h
    · split at h
      · rename_i i rest e1
        cases h
        obtain ⟨u, rfl, rfl, _⟩ := repL1 r2
        exact ⟨_, mt_sindex, s0, _, i, rest, rfl, rfl, e1, k.imm tp (imm_int _)⟩
      · cases h
    · cases h
  rename_i n4
  rw [if_neg n4]
  split at h
  · split at h
    · cases h
      obtain ⟨u, rfl, rfl, _⟩ := repL1 r2
      exact ⟨_, mt_find, s0, _, rfl, rfl, k.imm tp (imm_int _)⟩
    · cases h
  · cases h
theorem ixOf_rep {Z : Wo} {G : Sh} {H : Hp} {y : T} {u : V} {f2 : List Addr} (ry : Rep Z G H y u f2) : ∀ {xs : List T} {ps : List V} {fp : List Addr} {j : Nat}, (xs.all fun z => kindT z y) = true → RepL Z G H xs ps fp → ixOf y xs = some j →
    ∃ z, ps[j]? = some z ∧ eqV z u = true ∧ ∀ (m : Nat) (z' : V), m < j → ps[m]? = some z' → eqV z' u = false := fun {xs} => by
  induction xs with
  | nil => intro ps fp j _ _ e; cases e
  | cons x xs ih =>
    intro ps fp j h r e
    rw [List.all_cons, Bool.and_eq_true] at h
    obtain ⟨w, ws, f1, f3, rfl, _, r1, r3⟩ := r
    obtain ⟨a, b⟩ := kind_rep h.1 r1 ry
    rw [ixOf] at e
    cases hs : sameT x y with
    | true =>
      rw [hs, if_pos rfl] at e
      cases e
      exact ⟨w, rfl, by rw [b, hs], fun m z' hm => absurd hm (Nat.not_lt_zero _)⟩
    | false =>
      rw [hs, if_neg (by simp)] at e
      obtain ⟨i, hi, rfl⟩ := Option.map_eq_some_iff.mp e
      obtain ⟨z, h1, h2, h3⟩ := ih h.2 r3 hi
      refine ⟨z, h1, h2, fun m z' hm hz => ?_⟩
      cases m with
      | zero => cases hz; rw [b, hs]
      | succ m => exact h3 m z' (by omega) hz
theorem lmt_ok {m : Str} {ys : List T} {ws : List V} (hK : X.K = Z.K) (w : Wd Z F B H σ env (xs ++ [x] ++ ys) (vs ++ [v] ++ ws) Se St) (hl : ys.length = ws.length) (h : lmtT m x ys = some t) (k : Nxt Z F B H σ env xs vs (Se ++ St) t Q) : rIndex X.K v ws H Q := by
  have w' : Wd Z F B H σ env (xs ++ ([x] ++ ys)) (vs ++ ([v] ++ ws)) Se St := by simpa [List.append_assoc] using w
  obtain ⟨f, r, tp⟩ := w'.top (by simp [hl])
  obtain ⟨v', vs', f1, f2, e0, rfl, r1, r2⟩ := r
  cases e0
  unfold lmtT at h
  split at h
  case h_2 => cases h
  obtain ⟨p, ps, fp', rfl, _, hp, _, _, ra⟩ := r1
  split at h
  case isFalse => cases h
  split at h
  case h_2 => cases h
  rename_i y
  split at h
  case isFalse => cases h
  rename_i hc
  rw [Bool.and_eq_true] at hc
  obtain ⟨j, hj, rfl⟩ := Option.map_eq_some_iff.mp h
  obtain ⟨u, rfl, ry⟩ := repL1 r2
  obtain ⟨z, h1, h2, h3⟩ := ixOf_rep ry hc.2 ra hj
  exact ⟨p, ps, u, j, z, rfl, rfl, SqL.of hp, flat_rep hc.1 ry, (mem_rep ry hc.2 ra).1, h1, h2, h3, k.imm tp (imm_int _)⟩
/-- a list is one -/
theorem lst_ty {f : Fl} {zs : List T} (w : Wd Z F B H σ env (xs ++ [.lst f zs]) (vs ++ [v]) Se St) : L2.tyV X.K "list" v H := by
  obtain ⟨f1, r1, _⟩ := w.top1
  obtain ⟨p, ps, fp', rfl, _, hp, _, _, ra⟩ := r1
  exact .inl ⟨rfl, ps, SqL.of hp⟩
end
end VI

namespace VI
open PySem L2
/-! readings -/
def Post {α : Type} (J : Xn → Env → Prop) (o : Out α) (K : α → Env → Prop) : Prop := match o with | .ok a e => K a e | .exc x e => J x e | .stuck => False
section
variable {J J' : Xn → Env → Prop}
theorem Post.bind {α β : Type} {m : Out α} {f : α → Env → Out β} {K : β → Env → Prop} (h : Post J (m.bind f) K) : Post J m fun a e => Post J (f a e) K := by cases m <;> exact h
theorem Post.imp {α : Type} {m : Out α} {K K' : α → Env → Prop} (h : Post J m K) (k : ∀ a e, m = .ok a e → K a e → K' a e) : Post J m K' := by cases m with | ok a e => exact k a e rfl h | exc x e => exact h | stuck => exact h
theorem Post.mono {α : Type} {m : Out α} {K : α → Env → Prop} (h : Post J m K) (k : ∀ x e, J x e → J' x e) : Post J' m K := by cases m with | ok a e => exact h | exc x e => exact k x e h | stuck => exact h
theorem Post.ofO {α : Type} {o : Option α} {e : Env} {K : α → Env → Prop} (h : Post J (Out.ofO o e) K) : ∃ a, o = some a ∧ K a e := by cases o with | some a => exact ⟨a, rfl, h⟩ | none => exact h.elim
theorem Post.noX {α : Type} {m : Out α} {K : α → Env → Prop} (h : Post J m.noX K) : Post J' m K := by cases m with | ok a e => exact h | exc x e => exact h.elim | stuck => exact h
theorem Post.gd {α : Type} {v p : Bool} {k : Out α} {K : α → Env → Prop} (h : Post J (gd v p k) K) : (v = false ∨ p = true) ∧ Post J k K := by
  unfold VI.gd at h
  split at h
  · exact h.elim
  · rename_i q
    refine ⟨?_, h⟩
    cases v <;> cases p <;> simp at q ⊢
end
/-- an exception as it stands -/
def XIs (Z : Wo) (H : Hp) (x : Xn) (cls : Value) (d : Option Addr) : Prop := cls = Z.xc x.c ∧ x.vs.all T.imm = true ∧ x.vs.length = (Z.xf x.c).length ∧
  ((Z.xf x.c = [] ∧ d = none) ∨ ∃ dd fs, d = some dd ∧ H dd = some (.xd fs) ∧ ∀ (k : Nat) (n : Str) (t : T), (Z.xf x.c)[k]? = some n → x.vs[k]? = some t → ∃ v, fs.lookup n = some v ∧ ImmIs t v)
/-- what is wanted of an exception that comes next -/
def NxtX (Z : Wo) (F B : Addr → Prop) (H : Hp) (σ : L2.St) (S : List Addr) (x : Xn) (e : Env) : Prop :=
  ∀ cls d H' F' Se', XIs Z H' x cls d → Wd Z F' B H' σ e [] [] Se' [] → Step F H S F' H' Se' → Z.ws cls d σ H'
section
variable {Z : Wo} {I : CI} {F B F1 : Addr → Prop} {H H1 : Hp} {σ : L2.St} {env : Env} {xs ys : List T} {vs ws : List V} {Se St S S1 : List Addr} {t x y : T} {v u : V} {Q : VK}
/-- several values come -/
def NxtL (Z : Wo) (F B : Addr → Prop) (H : Hp) (σ : L2.St) (env : Env) (xs : List T) (vs : List V) (S : List Addr) (ts : List T) (Q : List V → Hp → Prop) : Prop :=
  ∀ ws H' F' Se' St', ts.length = ws.length → Wd Z F' B H' σ env (xs ++ ts) (vs ++ ws) Se' St' → Step F H S F' H' (Se' ++ St') → Q ws H'
theorem NxtX.after {x : Xn} {e : Env} (k : NxtX Z F B H σ S x e) (s : Step F H S F1 H1 S1) : NxtX Z F1 B H1 σ S1 x e := fun cls d H' F' Se' h w s' => k cls d H' F' Se' h w (s.trans s')
theorem NxtL.after {ts : List T} {Q : List V → Hp → Prop} (k : NxtL Z F B H σ env xs vs S ts Q) (s : Step F H S F1 H1 S1) : NxtL Z F1 B H1 σ env xs vs S1 ts Q := fun v H' F' Se' St' l w s' => k v H' F' Se' St' l w (s.trans s')
theorem vwL_snoc : vwL (xs ++ [x]) = (vwL xs || x.vw) := by
  rw [vwL_append]; congr 1; unfold vwL; rw [T.hasL, T.hasL, Bool.or_false]; rfl
/-- the guard of what comes next -/
theorem gd_nx {p q : Bool} (g : (p && q) = true ∨ vwL xs = false) (h : x.vw = false ∨ q = true) : q = true ∨ vwL (xs ++ [x]) = false := by
  rw [vwL_snoc]
  cases q with
  | true => exact .inl rfl
  | false =>
    right
    have a : vwL xs = false := by rcases g with g | g; rw [Bool.and_false] at g; cases g; exact g
    have b : x.vw = false := by rcases h with h | h; exact h; cases h
    rw [a, b]; rfl
theorem gd_l {p q : Bool} (g : (p && q) = true ∨ vwL xs = false) : p = true ∨ vwL xs = false := by
  rcases g with g | g
  · rw [Bool.and_eq_true] at g; exact .inl g.1
  · exact .inr g
theorem gd_r {p q : Bool} (g : (p && q) = true ∨ vwL xs = false) : q = true ∨ vwL xs = false := by
  rcases g with g | g
  · rw [Bool.and_eq_true] at g; exact .inl g.2
  · exact .inr g
end
def tT (Z : Wo) (I : CI) (ir : IE) : TE := fun σ H Q => ∃ F B env xs vs Se St, Wd Z F B H σ env xs vs Se St ∧ (pE I ir = true ∨ vwL xs = false) ∧ Post (NxtX Z F B H σ (Se ++ St)) (evE I ir env) fun t e => Nxt Z F B H σ e xs vs (Se ++ St) t Q
def tL (Z : Wo) (I : CI) (il : IL) : TA := fun σ H Q => ∃ F B env xs vs Se St, Wd Z F B H σ env xs vs Se St ∧ (pL I il = true ∨ vwL xs = false) ∧ Post (NxtX Z F B H σ (Se ++ St)) (evL I il env) fun ts e => NxtL Z F B H σ e xs vs (Se ++ St) ts Q
/-- the place of a slot's value, in the hand -/
def ptrs (σ : L2.St) : List Md → IL → List T → List T
  | .io :: ms, .cons (.var i) r, _ :: ts => .ptr (((σ[i]?).getD none).getD .non) :: ptrs σ ms r ts
  | _ :: ms, .cons _ r, t :: ts => t :: ptrs σ ms r ts
  | _, _, _ => []
def tAr (Z : Wo) (I : CI) (ms : List Md) (il : IL) : TA := fun σ H Q => ∃ F B env xs vs Se St, Wd Z F B H σ env xs vs Se St ∧ (pL I il = true ∨ vwL xs = false) ∧
  Post (NxtX Z F B H σ (Se ++ St)) (evA I ms il env) fun ts e => NxtL Z F B H σ e xs vs (Se ++ St) (ptrs σ ms il ts) Q
/-- what a def promises -/
def ioV : List Md → List V → List V
  | .io :: ms, v :: vs => v :: ioV ms vs
  | _ :: ms, _ :: vs => ioV ms vs
  | _, _ => []
def spOf (Z : Wo) (I : CI) (f : Nat) (np : Nat) : Sp := fun vs H Q E => vs.length = np ∧ ∃ F B ts S, RepL Z ⟨F, B, fun _ => False⟩ H ts vs S ∧ (∀ a, cn a S ≤ 1) ∧ (∀ a, F a ∨ B a → cn a S = 0) ∧ (∀ a, F a ∨ B a → ∃ o, H a = some o) ∧
  match I.run f ts with
  | .stuck => False
  | .exc x ios => ∀ cls d H' F' fps, XIs Z H' x cls d → RepL Z ⟨F', B, fun _ => False⟩ H' ios (ioV (I.md f) vs) fps → (∀ a, cn a fps ≤ 1) → (∀ a, F' a ∨ B a → cn a fps = 0) →
      (∀ a, F' a → ∃ o, H' a = some o) → Step F H S F' H' fps → E cls d H'
  | .ok t ios => ∀ v H' F' fp fps, Rep Z ⟨F', B, fun _ => False⟩ H' t v fp → RepL Z ⟨F', B, fun _ => False⟩ H' ios (ioV (I.md f) vs) fps → (∀ a, cn a fps + cn a fp ≤ 1) → (∀ a, F' a ∨ B a → cn a fps + cn a fp = 0) →
      (∀ a, F' a → ∃ o, H' a = some o) → Step F H S F' H' (fps ++ fp) → Q v H'
/-- a def stands there and keeps it -/
def FOk (X : Cx) (Z : Wo) (I : CI) (f : Nat) (x : Str) : Prop :=
  ∃ (fa : Addr) (fd : FuncData) (ps : List Str) (k : Nat), X.mg x = some (.ref fa) ∧ PySem.W.keepIn X.K (.ref fa) = true ∧ Binds X.K fd ps [] ∧ Room k X.A ∧ (I.md f).length = ps.length ∧
    FnOk X.prog X.w X.K X.mg X.base (CX X.prog X.w) k fa fd ps (spOf Z I f ps.length)
/-- the names behind the numbers: defs, the fields of classes, methods, classes with their __init__ -/
structure Tb where
  fn : Nat → Option Str
  fl : Nat → List Str
  mt : Nat → Nat → Option Str
  cn : Nat → Option (Str × Nat)
  /-- the exceptions' classes: their names, whether they keep fields; the classes that are asked for -/
  xn : Nat → Option (Str × Bool)
  xk : XC → Option Str
  /-- in an except suite -/
  hot : Bool
/-- .. in an except suite nothing is called or raised -/
def nmH (nm : Tb) : Tb := { nm with fn := fun _ => none, mt := fun _ _ => none, cn := fun _ => none, xn := fun _ => none, hot := true }
/-- a def at an address keeps it -/
def FAt (X : Cx) (Z : Wo) (I : CI) (f : Nat) (fa : Addr) : Prop :=
  ∃ (fd : FuncData) (ps : List Str) (k : Nat), Binds X.K fd ps [] ∧ Room (k + 1) X.A ∧ (I.md f).length = ps.length ∧ FnOk X.prog X.w X.K X.mg X.base (CX X.prog X.w) k fa fd ps (spOf Z I f ps.length)
def bNames : List Str := bltNames ++ (bltTypes ++ (tyNames ++ (["isinstance", "range", "enumerate", "zip"] : List Str)))
/-- self.f = v, one by one -/
def xfs : List Str → List V → List (Str × V) → List (Str × V)
  | f :: fl, w :: ws, acc => xfs fl ws ((f, w) :: acc)
  | _, _, acc => acc
/-- what an exception's __init__ promises -/
def spX (K : PySem.W.Frag) (fl : List Str) : Sp := fun vs H Q _ => vs.length = fl.length + 1 ∧ ∃ a C ws, vs = .ref a :: ws ∧ OexC K C ∧ (∀ f ∈ fl, PySem.W.findIn K (.ref C) f = some none) ∧ H a = some (exo a C none) ∧
  ∀ d, H d = none → d ≠ a → Q .non (upd (upd H d (exd d (xfs fl ws []))) a (exo a C (some d)))
/-- an exception's class, as raise wants it -/
def XAt (X : Cx) (Z : Wo) (I : CI) (c : Nat) (x : Str) (kp : Bool) : Prop := ∃ C, Z.xc c = .ref C ∧ X.mg x = some (.ref C) ∧ I.xo c = true ∧
  if kp then OexC X.K C ∧ (Z.xf c).Nodup ∧ (Z.xf c).length ≤ 900 ∧ (∀ f ∈ Z.xf c, PySem.W.findIn X.K (.ref C) f = some none) ∧ ∃ fI fd ps k, PySem.W.findIn X.K (.ref C) "__init__" = some (some (.ref fI)) ∧ PySem.W.typeIn X.K (.ref fI) = some (.type "function") ∧
    Binds X.K fd ps [] ∧ Room (k + 1) X.A ∧ ps.length = (Z.xf c).length + 1 ∧ FnOk X.prog X.w X.K X.mg X.base (CX X.prog X.w) k fI fd ps (spX X.K (Z.xf c))
  else Z.xf c = [] ∧ PySem.W.keepIn X.K (.ref C) = true ∧ PySem.W.subIn X.K (.ref C) (.type "BaseException") = some true ∧ PySem.W.typeIn X.K (.ref C) = some (.type "type") ∧
    ∃ B newId initId bmB, ExcBaseFacts B newId initId bmB ∧ PySem.W.excIn X.K C bmB newId = true
/-- a class behind a name -/
def XNm (X : Cx) (x : Str) (v : V) (cv : Value) : Prop := RelV v cv ∧ (∀ u, RelV v u → u = cv) ∧ (X.mg x = some cv ∨ (X.mg x = none ∧ bootBuiltins x = some cv ∧ x ≠ "__name__"))
/-- the context of an except suite -/
def SuiAt (X : Cx) (Z : Wo) (I : CI) : Prop := ∃ (X0 : Cx) (a : Addr) (oe : Obj) (cls : Value) (d : Option Addr) (pn : List (Addr × Obj)), X = X0.suite a ((a, oe) :: pn) ∧ Zc cls d oe ∧ (∃ vs, oe.data = .fields vs) ∧ ∀ H b c vs, Z.xr H b c vs → b = a ∧ I.xo c = true ∧ XIs Z H ⟨c, vs⟩ cls d
structure XOk (X : Cx) (Z : Wo) (I : CI) (nm : Tb) (N : List Str) (sc : Scope) : Prop where
  calm : nm.hot = false → X.calm = true
  hN : X.N = N
  nd : N.Nodup
  hsc : X.env.scope = sc
  hK : X.K = Z.K
  blt : ∀ x ∈ bNames, X.mg x = none
  hu : X.A.units + 64 < cLine
  gls : ∀ x t, I.gl x = some t → ∃ (u : Value) (v : V), X.mg x = some u ∧ RelV v u ∧ ImmIs t v
  fns : ∀ f x, nm.fn f = some x → FOk X Z I f x
  hfl : Z.fl = nm.fl
  fld : ∀ (c k : Nat) (x : Str), (nm.fl c)[k]? = some x → Cls X.K (Z.cls c) ∧ NoAttr X.K (Z.cls c) x
  few : ∀ c, (nm.fl c).length ≤ 900 ∧ (nm.fl c).Nodup
  mts : ∀ c f m, nm.mt c f = some m → m ∉ nm.fl c ∧ Cls X.K (Z.cls c) ∧ ∃ fa, Meth X.K (Z.cls c) m fa ∧ FAt X Z I f fa
  tk : Takes X Z.ws
  hxf : I.xf = Z.xf
  xnr : nm.hot = false → ∀ H a c vs, ¬ Z.xr H a c vs
  xns : ∀ c x kp, nm.xn c = some (x, kp) → XAt X Z I c x kp
  xks : ∀ k x, nm.xk k = some x → ∃ v cv, XNm X x v cv ∧ ∀ c, I.xo c = true → PySem.W.exmOne X.K (Z.xc c) cv = some (xcB c k) ∧ PySem.W.kitOne X.K (Z.xc c) cv = some (xcB c k)
  xcs : ∀ c, I.xo c = true → ∃ C, Z.xc c = .ref C ∧ ExcC X.K C ∧ XfC X.K C ∧ ∀ f ∈ Z.xf c, PySem.W.findIn X.K (.ref C) f = some none
  sui : nm.hot = true → SuiAt X Z I
  cns : ∀ c x f, nm.cn c = some (x, f) → X.mg x = some (.ref (Z.cls c)) ∧ ∃ fa, Mk X.K (Z.cls c) fa ∧ FAt X Z I f fa
/-! the syntax is the IR's -/
def gl (sc : Scope) (x : Str) : Bool := sc.names.lookup x == some .globalImplicit
def visB (sc : Scope) (x : Str) : Bool := match sc.names.lookup x with | some .local => true | some .cell => true | some .free => true | _ => false
def ckN (N : List Str) (sc : Scope) (i : Nat) (x : Str) : Bool := N[i]? == some x && (visB sc x && (!(x == ("__debug__" : Str)) && !(x == ("__classdict__" : Str))))
def noSlice : Expr → Bool | .Slice .. => false | _ => true
def locB (cl : Bool) (sc : Scope) (x : Str) : Bool := match sc.names.lookup x with | some .local => true | some .cell => cl | _ => false
def ckTg (cl : Bool) (N : List Str) (sc : Scope) : List Nat → Expr → Bool
  | [i], .Name x _ => N[i]? == some x && locB cl sc x
  | is, .Tuple es _ _ => (go is es) && decide (2 ≤ is.length)
  | _, _ => false
where go : List Nat → List Expr → Bool
  | [], [] => true
  | i :: is, .Name x _ :: es => N[i]? == some x && (locB cl sc x && go is es)
  | _, _ => false
def tgNames : Expr → List Str
  | .Name x _ => [x]
  | .Tuple es _ _ => es.filterMap fun | .Name x _ => some x | _ => none
  | _ => []
def noCall0 : Expr → Bool
  | .Call (.Name _ _) [] [] _ => false
  | _ => true
def ckTys (sc : Scope) : List Str → List Expr → Bool
  | [], [] => true
  | ty :: r, .Name ty' _ :: es => ty == ty' && (tyNames.contains ty && (gl sc ty && ckTys sc r es))
  | _, _ => false
def isIte : IE → Bool | .ite .. => true | _ => false
def noCallA : Expr → Bool
  | .Call (.Name _ _) [] [] _ => false
  | _ => true
/-- a place, as it is written -/
def ckPl (nm : Tb) (N : List Str) (sc : Scope) (i : Nat) : List PX → Expr → Bool
  | [], .Name x _ => ckN N sc i x
  | .f c k :: r, .Attribute o f _ => (nm.fl c)[k]? == some f && (noCallA o && ckPl nm N sc i r o)
  | .ks s :: r, .Subscript o (.Constant (.str z) _ _) _ => s == z && ckPl nm N sc i r o
  | .ki n :: r, .Subscript o (.Constant (.int z) _ _) _ => n == z && ckPl nm N sc i r o
  | .kv j :: r, .Subscript o (.Name x _) _ => ckN N sc j x && ckPl nm N sc i r o
  | _, _ => false
def isKeys : IT → Bool | .keys _ _ => true | .enuK _ _ => true | _ => false
def ckKs : List Str → List (Option Expr) → Bool
  | [], [] => true
  | s :: r, some (.Constant (.str z) _ _) :: es => s == z && ckKs r es
  | _, _ => false
/-- a class, or several, asked for -/
def ckXN (nm : Tb) (sc : Scope) (k : XC) (e : Expr) : Bool := match e with | .Name x _ => nm.xk k == some x && (gl sc x && !(x == ("__debug__" : Str))) | _ => false
def ckXL (nm : Tb) (sc : Scope) : List XC → List Expr → Bool
  | [], [] => true
  | k :: ks, e :: es => ckXN nm sc k e && ckXL nm sc ks es
  | _, _ => false
def ckXs (nm : Tb) (sc : Scope) (cs : List XC) (e : Expr) : Bool := match cs, e with
  | [k], .Name x p => ckXN nm sc k (.Name x p)
  | ks, .Tuple es _ _ => decide (ks.length ≤ 100) && ckXL nm sc ks es
  | _, _ => false
mutual
def ckE (nm : Tb) (N : List Str) (sc : Scope) : IE → Expr → Bool
  | .var i, .Name x _ => ckN N sc i x
  | .mov i, .Name x _ => ckN N sc i x
  | .int n, .Constant (.int m) _ _ => n == m
  | .bl b, .Constant (.bool c) _ _ => b == c
  | .non, .Constant .none _ _ => true
  | .str s, .Constant (.str r) _ _ => s == r
  | .bop op a b, .BinOp x op' y _ => decide (op = op') && (ckE nm N sc a x && ckE nm N sc b y)
  | .neg a, .UnaryOp .USub x _ => ckE nm N sc a x
  | .nt a, .UnaryOp .Not x _ => !(isIte a) && ckE nm N sc a x
  | .cmp op a b, .Compare x [op'] [y] _ => decide (op = op') && (!(behindInMarks op y) && (ckE nm N sc a x && ckE nm N sc b y))
  | .cmp2 op1 op2 a b c, .Compare x [op1', op2'] [y, z] _ => decide (op1 = op1') && (decide (op2 = op2') && (!(lastMarks [op1, op2] [y, z]) && (ckE nm N sc a x && (ckE nm N sc b y && ckE nm N sc c z))))
  | .an a b, .BoolOp .And (x :: y :: r) p => !(isIte a) && (ckE nm N sc a x && (!(isIte b) && (match r with | [] => ckE nm N sc b y | _ :: _ => ckE nm N sc b (.BoolOp .And (y :: r) p))))
  | .orr a b, .BoolOp .Or (x :: y :: r) p => !(isIte a) && (ckE nm N sc a x && (!(isIte b) && (match r with | [] => ckE nm N sc b y | _ :: _ => ckE nm N sc b (.BoolOp .Or (y :: r) p))))
  | .ite c a b, .IfExp x y z _ => !(isIte c) && (ckE nm N sc c x && (ckE nm N sc a y && ckE nm N sc b z))
  | .lst xs, .List es _ => ckL nm N sc xs es
  | .tup xs, .Tuple es _ _ => ckL nm N sc xs es
  | .idx a b, .Subscript x y _ => noSlice y && (ckE nm N sc a x && ckE nm N sc b y)
  | .slc a lo hi, .Subscript x (.Slice l h none _) _ => ckE nm N sc a x && (ckO nm N sc lo l && ckO nm N sc hi h)
  | .call f xs, .Call (.Name x _) es [] _ => nm.fn f == some x && (gl sc x && (!(x == ("__debug__" : Str)) && ckL nm N sc xs es))
  | .blt x xs, .Call (.Name y _) es [] _ => x == y && ((bltNames ++ bltTypes).contains x && (gl sc x && ((!es.isEmpty && (x == ("len" : Str) || !nm.hot)) && ckL nm N sc xs es)))
  | .isi a ty, .Call (.Name y _) [x, .Name ty' _] [] _ => y == ("isinstance" : Str) && (gl sc y && (ty == ty' && (tyNames.contains ty && (gl sc ty && ckE nm N sc a x))))
  | .isiN a tys, .Call (.Name y _) [x, .Tuple es _ _] [] _ => y == ("isinstance" : Str) && (gl sc y && (ckTys sc tys es && (!tys.isEmpty && (decide (tys.length ≤ 10) && ckE nm N sc a x))))
  | .mxd a d, .Call (.Name y _) [x] [⟨some k, z, _⟩] _ => (!nm.hot && y == ("max" : Str)) && (gl sc y && (k == ("default" : Str) && (ckE nm N sc a x && ckE nm N sc d z)))
  | .gv x, .Name y _ => x == y && (gl sc x && !(x == ("__debug__" : Str)))
  | .lmt m o xs, .Call (.Attribute oe nme apos) [e] [] cpos => m == nme && (m == "index" && (noCall0 oe && (apos.endLine == cpos.line && (ckE nm N sc o oe && ckL nm N sc xs [e]))))
  | .smt m o xs, .Call (.Attribute oe nme apos) [e] [] cpos => m == nme && (smtNames.contains m && (noCall0 oe && (apos.endLine == cpos.line && (ckE nm N sc o oe && ckL nm N sc xs [e]))))
  | .fld c k a, .Attribute o f _ => (nm.fl c)[k]? == some f && (noCallA o && ckE nm N sc a o)
  | .dct ks xs, .Dict es vs _ => ckKs ks es && (decide (es.length ≤ 15 ∧ es.length = vs.length) && ckL nm N sc xs vs)
  | .meth c f o xs, .Call (.Attribute oe m apos) es [] pos => nm.mt c f == some m && (noCallA oe && (apos.endLine == pos.line && (decide (es.length < 20) && (ckE nm N sc o oe && ckL nm N sc xs es))))
  | .new c f xs, .Call (.Name x _) es [] _ => nm.cn c == some (x, f) && (gl sc x && (!(x == ("__debug__" : Str)) && ckL nm N sc xs es))
  | .isx (.var i) cs, .Call (.Name y _) [.Name x _, k] [] _ => nm.hot && ((y == ("isinstance" : Str) && gl sc y) && (ckN N sc i x && ckXs nm sc cs k))
  | .xfl (.var i) f, .Attribute (.Name x _) g _ => nm.hot && (f == g && ckN N sc i x)
  | .comp tg it c elt, .ListComp e [⟨t, i, ifs, 0⟩] scope _ =>
    (!nm.hot && blkC N sc scope ((tgNames t).zip tg)) && (decide ((tgNames t).length = tg.length) && (ckTg false N (relS scope sc) tg t && (ckIT nm N sc it t i && (ckC nm N (relS scope sc) c ifs && ckE nm N (relS scope sc) elt e))))
  | _, _ => false
def ckC (nm : Tb) (N : List Str) (sc : Scope) : IO → List Expr → Bool
  | .no, [] => true
  | .so e, [x] => !(isIte e) && ckE nm N sc e x
  | _, _ => false
def ckO (nm : Tb) (N : List Str) (sc : Scope) : IO → Option Expr → Bool
  | .no, none => true
  | .so e, some x => ckE nm N sc e x
  | _, _ => false
def ckL (nm : Tb) (N : List Str) (sc : Scope) : IL → List Expr → Bool
  | .nil, [] => true
  | .cons e r, x :: es => ckE nm N sc e x && ckL nm N sc r es
  | _, _ => false
def ckIT (nm : Tb) (N : List Str) (sc : Scope) : IT → Expr → Expr → Bool
  | .seq a, _, x => ckE nm N sc a x
  | .keys i ps, _, x => ckPl nm N sc i ps.reverse x
  | .enuK i ps, .Tuple _ _ _, .Call (.Name y _) [x] [] _ => y == ("enumerate" : Str) && (gl sc y && ckPl nm N sc i ps.reverse x)
  | .rng1 a, _, .Call (.Name y _) [x] [] _ => y == ("range" : Str) && (gl sc y && ckE nm N sc a x)
  | .rng2 a b, _, .Call (.Name y _) [x, z] [] _ => y == ("range" : Str) && (gl sc y && (ckE nm N sc a x && ckE nm N sc b z))
  | .enu a, .Tuple _ _ _, .Call (.Name y _) [x] [] _ => y == ("enumerate" : Str) && (gl sc y && ckE nm N sc a x)
  | .zip a b, .Tuple _ _ _, .Call (.Name y _) [x, z] [] _ => y == ("zip" : Str) && (gl sc y && (ckE nm N sc a x && ckE nm N sc b z))
  | _, _, _ => false
end
end VI

namespace VI
open PySem L2
theorem _root_.L2.PE.imp {X : Cx} {e : Expr} {t t' : TE} (h : PE X e t) (k : ∀ σ H Q, t' σ H Q → t σ H Q) : PE X e t' := ⟨fun pins s σ H Q I q => h.run pins s σ H Q I (k σ H Q q)⟩
theorem _root_.L2.PT.imp {X : Cx} {e : Expr} {t t' : TT} (h : PT X e t) (k : ∀ σ H Q, t' σ H Q → t σ H Q) : PT X e t' := ⟨fun pins s σ H Q I q => h.run pins s σ H Q I (k σ H Q q)⟩
theorem _root_.L2.PW.imp {X : Cx} {e : Expr} {t t' : TT} (h : PW X e t) (k : ∀ σ H Q, t' σ H Q → t σ H Q) : PW X e t' := ⟨fun wh pins s σ H Q I q => h.run wh pins s σ H Q I (k σ H Q q)⟩
theorem _root_.L2.PA.imp {X : Cx} {es : List Expr} {t t' : TA} (h : PA X es t) (k : ∀ σ H Q, t' σ H Q → t σ H Q) : PA X es t' := ⟨fun pos pins s σ H Q I q => h.run pos pins s σ H Q I (k σ H Q q)⟩
theorem _root_.L2.PI.imp {X : Cx} {tg e : Expr} {t t' : TI} (h : PI X tg e t) (k : ∀ σ H Q, t' σ H Q → t σ H Q) : PI X tg e t' := ⟨fun pins s σ H Q I q => h.run pins s σ H Q I (k σ H Q q)⟩
theorem _root_.L2.PI.or {X : Cx} {tg e : Expr} {t t' : TI} (h : PI X tg e t) (h' : PI X tg e t') : PI X tg e (fun σ H Q => t σ H Q ∨ t' σ H Q) :=
  ⟨fun pins s σ H Q I q => q.elim (h.run pins s σ H Q I) (h'.run pins s σ H Q I)⟩
section
variable {X : Cx} {Z : Wo} {I : CI} {nm : Tb} {N : List Str} {sc : Scope}
variable {F B F1 : Addr → Prop} {H H1 : Hp} {σ : L2.St} {env : Env} {xs ys : List T} {vs ws : List V} {Se St S S1 : List Addr} {t x y : T} {v u : V} {Q : VK}
/-- one part, then a rule by values -/
theorem seq1 {α : Type} {a : IE} {g : T → Env → Out α} {K : α → Env → Prop} {R : V → Hp → Prop} (w : Wd Z F B H σ env xs vs Se St) (gg : pE I a = true ∨ vwL xs = false)
    (p : Post (NxtX Z F B H σ (Se ++ St)) ((evE I a env).bind g) K)
    (fin : ∀ x e1 v H1 F1 Se1 St1, Wd Z F1 B H1 σ e1 (xs ++ [x]) (vs ++ [v]) Se1 St1 → Step F H (Se ++ St) F1 H1 (Se1 ++ St1) → evE I a env = .ok x e1 → Post (NxtX Z F1 B H1 σ (Se1 ++ St1)) (g x e1) K → R v H1) : tT Z I a σ H R :=
  ⟨F, B, env, xs, vs, Se, St, w, gg, (Post.bind p).imp fun x e1 he p1 v H1 F1 Se1 St1 w1 s1 => fin x e1 v H1 F1 Se1 St1 w1 s1 he (p1.mono fun _ _ z => z.after s1)⟩
theorem seq2 {α : Type} {a b : IE} {g : T → T → Env → Out α} {K : α → Env → Prop} {R : V → V → Hp → Prop} (w : Wd Z F B H σ env xs vs Se St) (gg : (pE I a && pE I b) = true ∨ vwL xs = false)
    (p : Post (NxtX Z F B H σ (Se ++ St)) ((evE I a env).bind fun x e1 => gd x.vw (pE I b) ((evE I b e1).bind fun y e2 => g x y e2)) K)
    (fin : ∀ x y e2 v u H2 F2 Se2 St2, Wd Z F2 B H2 σ e2 (xs ++ [x] ++ [y]) (vs ++ [v] ++ [u]) Se2 St2 → Step F H (Se ++ St) F2 H2 (Se2 ++ St2) → Post (NxtX Z F2 B H2 σ (Se2 ++ St2)) (g x y e2) K → R v u H2) :
    tT Z I a σ H fun v H1 => tT Z I b σ H1 fun u H2 => R v u H2 :=
  seq1 w (gd_l gg) p fun x e1 v H1 F1 Se1 St1 w1 s1 _ p1 => by
    obtain ⟨gx, p1⟩ := Post.gd p1
    exact seq1 w1 (gd_nx gg gx) p1 fun y e2 u H2 F2 Se2 St2 w2 s2 _ p2 => fin x y e2 v u H2 F2 Se2 St2 w2 (s1.trans s2) p2
/-- sound: as a value, as a test -/
def isBoolOp : Expr → Bool | .BoolOp .. => true | _ => false
structure Snd (X : Cx) (Z : Wo) (I : CI) (ir : IE) (e : Expr) : Prop where
  pe : PE X e (tT Z I ir)
  pt : isIte ir = false → PT X e (tTest (tT Z I ir))
  pw : isBoolOp e = true → PW X e (tTest (tT Z I ir))
  ns : ∀ env rest, starEach (e :: rest) env = (false, eval e env) :: starEach rest env
  fs : ∀ env x, foldedSetIterable e env x = pure x
theorem snd_of {ir : IE} {e : Expr} (pe : PE X e (tT Z I ir)) (h : ∀ whole, isTrue e X.env whole = (do let v ← whole; standAt e.pos; holding [v] (truthy v))) (hb : isBoolOp e = false)
    (ns : ∀ env rest, starEach (e :: rest) env = (false, eval e env) :: starEach rest env) (fs : ∀ env x, foldedSetIterable e env x = pure x) : Snd X Z I ir e :=
  ⟨pe, fun _ => pt_val pe h, (fun z => by rw [hb] at z; cases z), ns, fs⟩
theorem mem_b {x : Str} (h : (bltNames ++ bltTypes).contains x = true) : x ∈ bNames := by
  have h := List.contains_iff_mem.mp h
  unfold bNames
  rcases List.mem_append.mp h with h | h
  · exact List.mem_append_left _ h
  · exact List.mem_append_right _ (List.mem_append_left _ h)
theorem mem_ty {x : Str} (h : tyNames.contains x = true) : x ∈ bNames := by
  have h := List.contains_iff_mem.mp h
  unfold bNames
  exact List.mem_append_right _ (List.mem_append_right _ (List.mem_append_left _ h))
theorem gl_of (ok : XOk X Z I nm N sc) {x : Str} (h : gl sc x = true) : Gl X x := by
  have h := beq_iff_eq.mp h
  show X.env.scope.names.lookup x = _
  rw [ok.hsc]; exact h
theorem vis_of (ok : XOk X Z I nm N sc) {x : Str} (h : visB sc x = true) : Vis X.env.scope x := by
  rw [ok.hsc]
  unfold visB at h
  unfold Vis
  split at h
  · exact .inl (by assumption)
  · exact .inr (.inl (by assumption))
  · exact .inr (.inr (by assumption))
  · cases h
theorem and3 {a b c : Bool} (h : (a && (b && c)) = true) : a = true ∧ b = true ∧ c = true := by
  rw [Bool.and_eq_true, Bool.and_eq_true] at h; exact h
theorem not_b {a : Bool} (h : (!a) = true) : a = false := by cases a; rfl; cases h
theorem var_ok (ok : XOk X Z I nm N sc) {i : Nat} {x : Str} {pos : Pos} (h : ckN N sc i x = true) : PE X (.Name x pos) (tVar i) := by
  unfold ckN at h
  rw [Bool.and_eq_true] at h
  obtain ⟨h1, h2⟩ := h
  obtain ⟨h2, h3, h4⟩ := and3 h2
  exact pe_var (by rw [ok.hN]; exact beq_iff_eq.mp h1) (vis_of ok h2) (not_b h3) (not_b h4)
/-- a built-in name as a value of a call -/
theorem blt_in {x : Str} (h : (bltNames ++ bltTypes).contains x = true) : (∃ id, bltV x = .builtin id ∧ bootBuiltins x = some (.builtin id)) ∨ (∃ T, bltV x = .type T ∧ bootBuiltins x = some (.type T)) := by
  have h := List.contains_iff_mem.mp h
  simp only [bltNames, bltTypes, List.cons_append, List.nil_append, List.mem_cons, List.not_mem_nil, or_false] at h
  rcases h with h | h | h | h | h | h | h | h | h | h | h | h <;> subst h
  · exact .inl ⟨"len", by decide +kernel, by decide +kernel⟩
  · exact .inl ⟨"abs", by decide +kernel, by decide +kernel⟩
  · exact .inl ⟨"max", by decide +kernel, by decide +kernel⟩
  · exact .inl ⟨"min", by decide +kernel, by decide +kernel⟩
  · exact .inl ⟨"sum", by decide +kernel, by decide +kernel⟩
  · exact .inl ⟨"all", by decide +kernel, by decide +kernel⟩
  · exact .inl ⟨"sorted", by decide +kernel, by decide +kernel⟩
  · exact .inr ⟨"list", by decide +kernel, by decide +kernel⟩
  · exact .inr ⟨"int", by decide +kernel, by decide +kernel⟩
  · exact .inr ⟨"str", by decide +kernel, by decide +kernel⟩
  · exact .inr ⟨"tuple", by decide +kernel, by decide +kernel⟩
  · exact .inr ⟨"dict", by decide +kernel, by decide +kernel⟩
theorem ty_in {x : Str} (h : tyNames.contains x = true) : bootBuiltins x = some (.type (tyV x)) ∧ x ≠ "__name__" ∧ (x == ("__debug__" : Str)) = false := by
  have h := List.contains_iff_mem.mp h
  simp only [tyNames, List.mem_cons, List.not_mem_nil, or_false] at h
  rcases h with h | h | h | h | h <;> subst h <;> decide +kernel
theorem blt_names {x : Str} (h : (bltNames ++ bltTypes).contains x = true) : x ≠ "__name__" ∧ (x == ("__debug__" : Str)) = false := by
  have h := List.contains_iff_mem.mp h
  simp only [bltNames, bltTypes, List.cons_append, List.nil_append, List.mem_cons, List.not_mem_nil, or_false] at h
  rcases h with h | h | h | h | h | h | h | h | h | h | h | h <;> subst h <;> decide +kernel
/-- arguments in a row -/
theorem tL_cons {e : IE} {r : IL} : ∀ σ H Q, tL Z I (.cons e r) σ H Q → tCons (tT Z I e) (tL Z I r) σ H Q := fun σ H Q h => by
  obtain ⟨F, B, env, xs, vs, Se, St, w, g, p⟩ := h
  rw [evL] at p
  refine seq1 w (gd_l g) p fun x e1 v H1 F1 Se1 St1 w1 s1 _ p1 => ?_
  obtain ⟨gx, p1⟩ := Post.gd p1
  refine ⟨F1, B, e1, xs ++ [x], vs ++ [v], Se1, St1, w1, gd_nx g gx, (Post.bind p1).imp fun ts e2 _ p2 ws H2 F2 Se2 St2 hl w2 s2 => ?_⟩
  exact p2 (v :: ws) H2 F2 Se2 St2 (by simp [hl]) (by simpa [List.append_assoc] using w2) (s1.trans s2)
theorem tL_nil : ∀ σ H Q, tL Z I .nil σ H Q → tNil σ H Q := fun σ H Q h => by
  obtain ⟨F, B, env, xs, vs, Se, St, w, g, p⟩ := h
  exact p [] H F Se St rfl (by simpa using w) Step.refl
/-- .. of a call of a def -/
theorem tAr_cons {ms : List Md} {e : IE} {r : IL} (hm : ms.head? ≠ some .io) (h0 : ms ≠ []) : ∀ σ H Q, tAr Z I ms (.cons e r) σ H Q → tCons (tT Z I e) (tAr Z I ms.tail r) σ H Q := fun σ H Q h => by
  obtain ⟨F, B, env, xs, vs, Se, St, w, g, p⟩ := h
  obtain ⟨m, ms, rfl⟩ := List.exists_cons_of_ne_nil h0
  have hm : m ≠ .io := fun z => hm (by rw [z]; rfl)
  have ev : evA I (m :: ms) (.cons e r) env = (evE I e env).bind fun x e1 => gd x.vw (pL I r) ((evA I ms r e1).bind fun xs e2 => .ok (x :: xs) e2) := by
    cases m <;> first | exact absurd rfl hm | rw [evA]
    all_goals (intros; simp_all)
  rw [ev] at p
  refine seq1 w (gd_l g) p fun x e1 v H1 F1 Se1 St1 w1 s1 _ p1 => ?_
  obtain ⟨gx, p1⟩ := Post.gd p1
  refine ⟨F1, B, e1, xs ++ [x], vs ++ [v], Se1, St1, w1, gd_nx g gx, (Post.bind p1).imp fun ts e2 _ p2 ws H2 F2 Se2 St2 hl w2 s2 => ?_⟩
  have pt : ptrs σ (m :: ms) (.cons e r) (x :: ts) = x :: ptrs σ ms r ts := by cases m <;> first | exact absurd rfl hm | rfl
  have p2 : NxtL Z F B H σ e2 xs vs (Se ++ St) (ptrs σ (m :: ms) (.cons e r) (x :: ts)) Q := p2
  rw [pt] at p2
  exact p2 (v :: ws) H2 F2 Se2 St2 (by simpa using hl) (by simpa [List.append_assoc] using w2) (s1.trans s2)
theorem tAr_io {ms : List Md} {i : Nat} {r : IL} : ∀ σ H Q, tAr Z I (.io :: ms) (.cons (.var i) r) σ H Q → tCons (tVar i) (tAr Z I ms r) σ H Q := fun σ H Q h => by
  obtain ⟨F, B, env, xs, vs, Se, St, w, g, p⟩ := h
  rw [evA] at p
  split at p
  · rename_i t0 e0
    obtain ⟨v, hv, _⟩ := w.view e0
    refine ⟨v, hv, F, B, env, xs ++ [.ptr v], vs ++ [v], Se, St, w.push (show Rep Z _ H (.ptr v) v [] from ⟨rfl, rfl⟩), ?_, (Post.bind p).imp fun ts e2 _ p2 ws H2 F2 Se2 St2 hl w2 s2 => ?_⟩
    · rcases gd_r g with z | z
      · exact .inl z
      · exact .inr (by rw [vwL_snoc, z]; rfl)
    · have pt : ptrs σ (.io :: ms) (.cons (.var i) r) (.non :: ts) = .ptr v :: ptrs σ ms r ts := by
        show T.ptr (((σ[i]?).getD none).getD .non) :: _ = _
        rw [hv]; rfl
      have p2 : NxtL Z F B H σ e2 xs vs (Se ++ St) (ptrs σ (.io :: ms) (.cons (.var i) r) (.non :: ts)) Q := p2
      rw [pt] at p2
      exact p2 (v :: ws) H2 F2 Se2 St2 (by simp [hl]) (by simpa [List.append_assoc] using w2) s2
  · exact p.elim
theorem tAr_nil {ms : List Md} : ∀ σ H Q, tAr Z I ms .nil σ H Q → tNil σ H Q := fun σ H Q h => by
  obtain ⟨F, B, env, xs, vs, Se, St, w, g, p⟩ := h
  have ev : evA I ms .nil env = .ok [] env := by
    cases ms with
    | nil => rw [evA]; all_goals first | rfl | (intros; rename_i z; cases z)
    | cons m ms => cases m <;> rw [evA] <;> first | rfl | (intros; rename_i z; cases z)
  rw [ev] at p
  have pt : ptrs σ ms .nil [] = [] := by cases ms with | nil => rfl | cons m ms => cases m <;> rfl
  have p : NxtL Z F B H σ env xs vs (Se ++ St) (ptrs σ ms .nil []) Q := p
  rw [pt] at p
  exact p [] H F Se St rfl (by simpa using w) Step.refl
end
end VI

namespace VI
open PySem L2 PySem.Spec PyProof.Rows
/-! calls whose exceptions are wished for by the slots as they stand -/
section
variable {X : Cx} {D : CXT} {k : Nat} {g C : Addr} {fd : FuncData} {qs : List Str} {sp : Sp} {E : L2.St → XK} {x m : Str} {p ps0 ap : Pos} {e o : Expr} {es : List Expr} {ta : TE} {t : TA}
theorem pe_call0S (F : FnOk X.prog X.w X.K X.mg X.base D k g fd qs sp) (hr : Room k X.A) (hg : Gl X x) (hm : X.mg x = some (.ref g)) (hk : PySem.W.keepIn X.K (.ref g) = true) (hb : Binds X.K fd qs []) (hx : ∀ σ, PassesAt D X σ (E σ)) (nd : (x == ("__debug__" : Str)) = false) :
    PE X (.Call (.Name x p) [] [] ps0) (tCallS sp E tNil) := ⟨fun pins s σ H Q I h => wpAny_Call_Name_kw (ld_glob I hg hm (PySem.W.callWith_K0 I.kIn hk (run_fnS (us := []) F hr hb (hx σ) I .nil h)) nd)⟩
def tMethS (C : Addr) (m : Str) (sp : Sp) (E : L2.St → XK) (ta : TE) (t : TA) : TE := fun σ H Q => ta σ H fun x H1 => ∃ a dx fs, x = .ref a ∧ H1 a = some (.ins C dx fs) ∧ fs.lookup m = none ∧ t σ H1 fun vs H2 => sp (x :: vs) H2 Q (E σ)
theorem pe_methS {pl : Sem Bool} (he : PE X o ta) (c : Cls X.K C) (hm : Meth X.K C m g) (F : FnOk X.prog X.w X.K X.mg X.base D k g fd qs sp) (hr : Room k X.A) (hb : Binds X.K fd qs []) (hx : ∀ σ, PassesAt D X σ (E σ)) (ha : PA X (e :: es) t)
    (h1 : starEach (e :: es) X.env = (false, eval e X.env) :: starEach es X.env) (h2 : (backTo ps0 (starEach es X.env)).any (·.1) = false)
    (ht : eval (.Call (.Attribute o m ap) (e :: es) [] ps0) X.env = (do let ov ← eval o X.env; standAt ap.atName; let (f, first) ← holding [ov] (getMethod ov m pl); callWith ps0 f first (backTo ps0 (starEach (e :: es) X.env)) (backToKw ps0 (keywordEach [] X.env)))) :
    PE X (.Call (.Attribute o m ap) (e :: es) [] ps0) (tMethS C m sp E ta t) := ⟨fun pins s σ H Q I h => PySem.W.methodCall_KW (pl := pl) (thn (he.run pins s σ H _ I h) fun u s1 ⟨y, H1, I1, ry, a, dx, fs, ey, ea, l, q⟩ => by
      subst ey
      obtain rfl : u = Value.ref a := ry
      exact getmeth_ok I1 ea c hm l (PySem.W.callWith_K (first := [.ref a]) (h₀ := X.base) I.ok.mod.kin hm.kp (thn (ha.run ps0 pins s1 σ H1 _ I1 q) fun us s2 ⟨vs, H2, I2, r, q2⟩ => ⟨I2.kIn, run_fnS (us := .ref a :: us) (vs := .ref a :: vs) F hr hb (hx σ) I2 (.cons rfl r) q2⟩) h1 h2)) ht⟩
theorem pe_meth0S {pl : Sem Bool} (he : PE X o ta) (c : Cls X.K C) (hm : Meth X.K C m g) (F : FnOk X.prog X.w X.K X.mg X.base D k g fd qs sp) (hr : Room k X.A) (hb : Binds X.K fd qs []) (hx : ∀ σ, PassesAt D X σ (E σ))
    (ht : eval (.Call (.Attribute o m ap) [] [] ps0) X.env = (do let ov ← eval o X.env; standAt ap.atName; let (f, first) ← holding [ov] (getMethod ov m pl); callWith ps0 f first (backTo ps0 (starEach [] X.env)) (backToKw ps0 (keywordEach [] X.env)))) :
    PE X (.Call (.Attribute o m ap) [] [] ps0) (tMethS C m sp E ta tNil) := ⟨fun pins s σ H Q I h => PySem.W.methodCall_KW (pl := pl) (thn (he.run pins s σ H _ I h) fun u s1 ⟨y, H1, I1, ry, a, dx, fs, ey, ea, l, q⟩ => by
      subst ey
      obtain rfl : u = Value.ref a := ry
      exact getmeth_ok I1 ea c hm l (PySem.W.callWith_K0 (first := [.ref a]) I1.kIn hm.kp (run_fnS (us := [.ref a]) (vs := [.ref a]) F hr hb (hx σ) I1 (.cons rfl .nil) q))) ht⟩
def tMakeS (C : Addr) (sp : Sp) (E : L2.St → XK) (t : TA) : TE := fun σ H Q => t σ H fun vs H1 => ∀ x dx, H1 x = none → H1 dx = none → dx ≠ x → sp (.ref x :: vs) (upd (upd H1 dx (.own x)) x (.ins C dx [])) (fun v H2 => v = .non ∧ Q (.ref x) H2) (E σ)
theorem run_makeS {pins : List (Addr × Obj)} {σ : L2.St} {H : Hp} {s : Shared} {Q : VK} {us : List Value} {vs : List V} (M : Mk X.K C g) (F : FnOk X.prog X.w X.K X.mg X.base D k g fd qs sp) (hr : Room (k + 1) X.A) (hb : Binds X.K fd qs []) (hx : PassesAt D X σ (E σ)) (I : Inv X pins σ H s) (r : Vals vs us)
    (h : ∀ x dx, H x = none → H dx = none → dx ≠ x → sp (.ref x :: vs) (upd (upd H dx (.own x)) x (.ins C dx [])) (fun v H2 => v = .non ∧ Q (.ref x) H2) (E σ)) : wpAny (model X.prog X.w) X.A (call (.ref C) us) (EP X pins σ Q) X.xe s := by
  have q0 := h (s.heap.objs.size + 1) s.heap.objs.size (I.hok.fresh (Nat.le_add_right _ 1)) (I.hok.fresh Nat.le.refl) (fun z => absurd z.symm (Nat.succ_ne_self _))
  have I2 := Inv.made (C := C) I
  have r2 : Vals (V.ref (s.heap.objs.size + 1) :: vs) (Value.ref (s.heap.objs.size + 1) :: us) := .cons rfl r
  have hl : (Value.ref (s.heap.objs.size + 1) :: us).length = qs.length := by rw [← r2.length]; exact F.len _ _ _ _ q0
  have b := hb _ (Value.ref (s.heap.objs.size + 1) :: us) I2.kIn (by rw [List.append_nil]; exact hl)
  rw [List.append_nil] at b
  have run := F.run _ X.stack _ _ ⟨Value.ref (s.heap.objs.size + 1) :: us, []⟩ (Value.ref (s.heap.objs.size + 1) :: us) _ _ (E σ) (hr.make C us []) (I2.env0.make C us []) b r2 q0
  refine wpAny_call (make_map (f := g) I.kIn M.makes M.init (beq_iff_eq.mp M.fn) (codeAny_mono run fun res s' hq => ?_))
  match res, hq with
  | .error e, hq => exact hx pins _ _ e s' I2 hq
  | .ok (.ret u), hq =>
    obtain ⟨v, H', I3, rv, rfl, q3⟩ := I2.after hq
    exact ⟨rv, V.ref (s.heap.objs.size + 1), H', I3, rfl, q3⟩
  | .ok .next, hq => exact hq.elim
  | .ok .brk, hq => exact hq.elim
  | .ok .cont, hq => exact hq.elim
theorem pe_makeS (M : Mk X.K C g) (F : FnOk X.prog X.w X.K X.mg X.base D k g fd qs sp) (hr : Room (k + 1) X.A) (hg : Gl X x) (hm : X.mg x = some (.ref C)) (hb : Binds X.K fd qs []) (hx : ∀ σ, PassesAt D X σ (E σ)) (ha : PA X (e :: es) t) (nd : (x == ("__debug__" : Str)) = false)
    (h1 : starEach (e :: es) X.env = (false, eval e X.env) :: starEach es X.env) (h2 : (backTo ps0 (starEach es X.env)).any (·.1) = false) : PE X (.Call (.Name x p) (e :: es) [] ps0) (tMakeS C sp E t) := ⟨fun pins s σ H Q I h =>
      wpAny_Call_Name_kw (ld_glob I hg hm (PySem.W.callWith_K (h₀ := X.base) I.ok.mod.kin M.kp (thn (ha.run ps0 pins s σ H _ I h) fun us s1 ⟨vs, H1, I1, r, q⟩ => ⟨I1.kIn, run_makeS M F hr hb (hx σ) I1 r q⟩) h1 h2) nd)⟩
theorem pe_make0S (M : Mk X.K C g) (F : FnOk X.prog X.w X.K X.mg X.base D k g fd qs sp) (hr : Room (k + 1) X.A) (hg : Gl X x) (hm : X.mg x = some (.ref C)) (hb : Binds X.K fd qs []) (hx : ∀ σ, PassesAt D X σ (E σ)) (nd : (x == ("__debug__" : Str)) = false) :
    PE X (.Call (.Name x p) [] [] ps0) (tMakeS C sp E tNil) := ⟨fun pins s σ H Q I h => wpAny_Call_Name_kw (ld_glob I hg hm (PySem.W.callWith_K0 I.kIn M.kp (run_makeS (us := []) M F hr hb (hx σ) I .nil h)) nd)⟩
end
end VI

namespace VI
open PySem L2
section
variable {Z : Wo} {G G' : Sh} {H H' : Hp} {I : CI}
mutual
theorem Rep.noB {B' : Addr → Prop} : ∀ (t : T) (v : V) (fp : List Addr), t.has Fl.isBrw = false → Rep Z G H t v fp → Rep Z { G with B := B' } H t v fp := fun t v fp hn h => by
  have atB : ∀ {f : Fl} {a : Addr}, f.isBrw = false → G.at f a → Sh.at { G with B := B' } f a := fun {f a} z h => by
    cases f with
    | own => trivial
    | frz => exact h
    | brw => cases z
    | vw => exact h
  cases t with
  | non => exact h
  | bl _ => exact h
  | int _ => exact h
  | str _ => exact h
  | ptr _ => exact h
  | exn _ _ => exact h
  | scr _ => exact h
  | tup xs =>
    obtain ⟨p, vs, e, q, r⟩ := h
    exact ⟨p, vs, e, q, RepL.noB xs vs fp hn r⟩
  | lst f xs =>
    obtain ⟨p, vs, fp', e, g1, hp, e2, e3, r⟩ := h
    rw [T.has, Bool.or_eq_false_iff] at hn
    exact ⟨p, vs, fp', e, atB hn.1 g1, hp, e2, e3, RepL.noB xs vs fp' hn.2 r⟩
  | dic f ks xs =>
    obtain ⟨p, vs, fp', e, g1, l, hp, e2, e3, r⟩ := h
    rw [T.has, Bool.or_eq_false_iff] at hn
    exact ⟨p, vs, fp', e, atB hn.1 g1, l, hp, e2, e3, RepL.noB xs vs fp' hn.2 r⟩
  | ins f c xs =>
    obtain ⟨p, dx, vs, fp', e, g1, l, hp, e2, e3, r⟩ := h
    rw [T.has, Bool.or_eq_false_iff] at hn
    exact ⟨p, dx, vs, fp', e, atB hn.1 g1, l, hp, e2, e3, RepL.noB xs vs fp' hn.2 r⟩
theorem RepL.noB {B' : Addr → Prop} : ∀ (xs : List T) (vs : List V) (fp : List Addr), T.hasL Fl.isBrw xs = false → RepL Z G H xs vs fp → RepL Z { G with B := B' } H xs vs fp := fun xs vs fp hn h => by
  cases xs with
  | nil => exact h
  | cons x xs =>
    obtain ⟨v, vs', f1, f2, e, e2, r1, r2⟩ := h
    rw [T.hasL, Bool.or_eq_false_iff] at hn
    exact ⟨v, vs', f1, f2, e, e2, Rep.noB x v f1 hn.1 r1, RepL.noB xs vs' f2 hn.2 r2⟩
end
theorem set_same {σ : L2.St} {i : Nat} {v : V} (h : σ[i]? = some (some v)) : σ.set i (some v) = σ := by
  apply List.ext_getElem?
  intro j
  by_cases hj : i = j
  · subst hj
    obtain ⟨hl, e⟩ := List.getElem?_eq_some_iff.mp h
    rw [List.getElem?_set_self hl, h]
  · rw [List.getElem?_set_ne hj]
theorem EnvRep.repl {σ : L2.St} {env : Env} {S fp : List Addr} {i : Nat} {t : T} {v : V} (h : EnvRep Z G H σ env S) (hv : σ[i]? = some (some v)) (r : Rep Z G H t v fp) :
    ∃ S', EnvRep Z G H σ (env.set i (some t)) S' ∧ ∀ a, cn a S' ≤ cn a S + cn a fp := by
  obtain ⟨S1, hs, d⟩ := h.drop (i := i)
  have hi : i < env.length := by
    rw [← h.length]; exact (List.getElem?_eq_some_iff.mp hv).1
  obtain ⟨f1, f3, rfl, d2⟩ := d.put (i := i) (by simp [hi]) r
  rw [List.set_set, set_same hv] at d2
  exact ⟨_, d2, fun a => by have := cn_sub (a := a) hs; simp at *; omega⟩
theorem bor_ok {F B W F' B' : Addr → Prop} (hF : ∀ a, F a → F' a) (hB : ∀ a, B a → B' a) (hW : ∀ a, W a → B' a) : FlOk Fl.bor ⟨F, B, W⟩ ⟨F', B', fun _ => False⟩ :=
  ⟨by decide, fun f nf => ⟨by cases f <;> first | exact absurd rfl nf | decide, fun a h => by
    cases f with
    | own => exact absurd rfl nf
    | frz => exact hF a h
    | brw => exact hB a h
    | vw => exact hW a h⟩, hF⟩
theorem fre_ok {F B F' B' : Addr → Prop} (hF : ∀ a, F a → F' a) (hB : ∀ a, B a → B' a) : FlOk Fl.fre ⟨F, B, fun _ => False⟩ ⟨F', B', fun _ => False⟩ :=
  ⟨by decide, fun f nf => ⟨by cases f <;> first | exact absurd rfl nf | decide, fun a h => by
    cases f with
    | own => exact absurd rfl nf
    | frz => exact hF a h
    | brw => exact hB a h
    | vw => exact h.elim⟩, hF⟩
/-- the places that a call changes -/
def IoOk (σ : L2.St) : List Md → IL → List V → Prop
  | .io :: ms, .cons (.var i) r, w :: ws => σ[i]? = some (some w) ∧ IoOk σ ms r ws
  | .bor :: ms, .cons _ r, _ :: ws => IoOk σ ms r ws
  | .frz :: ms, .cons _ r, _ :: ws => IoOk σ ms r ws
  | [], .nil, [] => True
  | _, _, _ => False
theorem prep_ok {F B W F' B' : Addr → Prop} {σ : L2.St} (hF : ∀ a, F a → F' a) (hB : ∀ a, B a → B' a) : ∀ (ms : List Md) (il : IL) (ts : List T) (env e1 : Env) (us : List T) (ws : List V) (f2 Se : List Addr),
    EnvRep Z ⟨F, B, fun _ => False⟩ H σ env Se → RepL Z ⟨F, B, W⟩ H (ptrs σ ms il ts) ws f2 → prep ms il ts env = some (us, e1) → (vwBor ms ts = false ∨ ∀ a, W a → B' a) → (∀ a, 0 < cn a f2 → F' a ∧ B' a) →
    ∃ Se1 S, EnvRep Z ⟨F, B, fun _ => False⟩ H σ e1 Se1 ∧ RepL Z ⟨F', B', fun _ => False⟩ H us ws S ∧ (∀ a, cn a Se1 + cn a S ≤ cn a Se) ∧ (anyIo ms = false → ∀ a, cn a S = 0) ∧ IoOk σ ms il ws := by
  intro ms
  induction ms with
  | nil =>
    intro il ts env e1 us ws f2 Se er r h hv hf
    cases il with
    | cons _ _ => cases h
    | nil =>
      cases ts with
      | cons _ _ => cases h
      | nil =>
        cases h
        have r : RepL Z ⟨F, B, W⟩ H [] ws f2 := r
        obtain ⟨rfl, rfl⟩ := r
        exact ⟨Se, [], er, ⟨rfl, rfl⟩, fun a => by simp, fun _ a => rfl, trivial⟩
  | cons m ms ih =>
    intro il ts env e1 us ws f2 Se er r h hv hf
    cases il with
    | nil => cases m <;> cases ts <;> cases h
    | cons e il =>
      cases ts with
      | nil => cases m <;> cases e <;> cases h
      | cons t ts =>
        cases m with
        | bor =>
          rw [prep] at h
          cases h1 : prep ms il ts env with
          | none => rw [h1] at h; cases h
          | some p =>
            rw [h1] at h; cases h
            obtain ⟨v, ws', g1, g2, rfl, rfl, r1, r2⟩ := (show RepL Z ⟨F, B, W⟩ H (t :: ptrs σ ms il ts) ws f2 from r)
            have hv1 : (t.vw = false ∨ ∀ a, W a → B' a) ∧ (vwBor ms ts = false ∨ ∀ a, W a → B' a) := by
              rcases hv with z | z
              · rw [vwBor, Bool.or_eq_false_iff] at z; exact ⟨.inl z.1, .inl z.2⟩
              · exact ⟨.inr z, .inr z⟩
            obtain ⟨Se1, S, a1, a2, a3, a4, a5⟩ := ih il ts env p.2 p.1 ws' g2 Se er r2 h1 hv1.2 fun a z => hf a (by simp; omega)
            have r1' : Rep Z ⟨F', B', fun _ => False⟩ H (t.mapF Fl.bor) v [] := by
              rcases hv1.1 with z | z
              · exact Rep.map (bor_ok hF hB fun _ z => z.elim) t v g1 (Rep.noW (W' := fun _ => False) t v g1 z r1) fun a z => (hf a (by have := cn_pos.mpr z; simp; omega)).2
              · exact Rep.map (bor_ok hF hB z) t v g1 r1 fun a z => (hf a (by have := cn_pos.mpr z; simp; omega)).2
            exact ⟨Se1, S, a1, ⟨v, ws', [], S, rfl, rfl, r1', a2⟩, a3, fun z => a4 (by rw [anyIo, Bool.or_eq_false_iff] at z; exact z.2), a5⟩
        | frz =>
          rw [prep] at h
          split at h
          · cases h
          rename_i nv
          cases h1 : prep ms il ts env with
          | none => rw [h1] at h; cases h
          | some p =>
            rw [h1] at h; cases h
            obtain ⟨v, ws', g1, g2, rfl, rfl, r1, r2⟩ := (show RepL Z ⟨F, B, W⟩ H (t :: ptrs σ ms il ts) ws f2 from r)
            obtain ⟨Se1, S, a1, a2, a3, a4, a5⟩ := ih il ts env p.2 p.1 ws' g2 Se er r2 h1 hv fun a z => hf a (by simp; omega)
            have r1' : Rep Z ⟨F', B', fun _ => False⟩ H (t.mapF Fl.fre) v [] :=
              Rep.map (fre_ok hF hB) t v g1 (Rep.noW (W' := fun _ => False) t v g1 (by have q := nv; unfold T.vw at q; simpa using q) r1) fun a z => (hf a (by have := cn_pos.mpr z; simp; omega)).1
            exact ⟨Se1, S, a1, ⟨v, ws', [], S, rfl, rfl, r1', a2⟩, a3, fun z => a4 (by rw [anyIo, Bool.or_eq_false_iff] at z; exact z.2), a5⟩
        | io =>
          cases e with
          | var i =>
            rw [prep] at h
            split at h
            · rename_i u he
              cases h1 : prep ms il ts (env.set i none) with
              | none => rw [h1] at h; cases h
              | some p =>
                rw [h1] at h; cases h
                obtain ⟨v, ws', g1, g2, rfl, rfl, r1, r2⟩ := (show RepL Z ⟨F, B, W⟩ H (.ptr (((σ[i]?).getD none).getD .non) :: ptrs σ ms il ts) ws f2 from r)
                obtain ⟨v', k1, k2, k3, hv', rfl, ru, d⟩ := er.get he
                obtain ⟨Se1, S, a1, a2, a3, a4, a5⟩ := ih il ts _ p.2 p.1 ws' g2 (k1 ++ k3) d r2 h1 hv fun a z => hf a (by simp; omega)
                obtain rfl : v = v' := by have := r1.1; rw [hv'] at this; exact this
                refine ⟨Se1, k2 ++ S, a1, ⟨v, ws', k2, S, rfl, rfl, Rep.mono (G := ⟨F, B, fun _ => False⟩) (G' := ⟨F', B', fun _ => False⟩) hF hB (fun _ z => z) u v k2 ru fun a o z _ => z, a2⟩, fun a => ?_, fun z => ?_, hv', a5⟩
                · have := a3 a; simp at this ⊢; omega
                · rw [anyIo] at z; simp at z
            · cases h
          | _ => cases h
theorem prep_noio : ∀ (ms : List Md) (il : IL) (ts : List T) (env e1 : Env) (us : List T), anyIo ms = false → prep ms il ts env = some (us, e1) → e1 = env := by
  intro ms
  induction ms with
  | nil =>
    intro il ts env e1 us hi h
    cases il <;> cases ts <;> cases h
    rfl
  | cons m ms ih =>
    intro il ts env e1 us hi h
    rw [anyIo, Bool.or_eq_false_iff] at hi
    cases il with
    | nil => cases m <;> cases ts <;> cases h
    | cons e il =>
      cases ts with
      | nil => cases m <;> cases e <;> cases h
      | cons t ts =>
        cases m with
        | bor =>
          rw [prep] at h
          cases h1 : prep ms il ts env with
          | none => rw [h1] at h; cases h
          | some p => rw [h1] at h; cases h; exact ih il ts env p.2 p.1 hi.2 h1
        | frz =>
          rw [prep] at h
          split at h
          · cases h
          cases h1 : prep ms il ts env with
          | none => rw [h1] at h; cases h
          | some p => rw [h1] at h; cases h; exact ih il ts env p.2 p.1 hi.2 h1
        | io => cases hi.1
theorem putb_ok {F B B' : Addr → Prop} {σ : L2.St} : ∀ (ms : List Md) (il : IL) (ios : List T) (e1 e2 : Env) (ws : List V) (fps Se1 : List Addr),
    EnvRep Z ⟨F, B, fun _ => False⟩ H σ e1 Se1 → RepL Z ⟨F, B', fun _ => False⟩ H ios (ioV ms ws) fps → IoOk σ ms il ws → putb ms il ios e1 = some e2 →
    ∃ Se2, EnvRep Z ⟨F, B, fun _ => False⟩ H σ e2 Se2 ∧ ∀ a, cn a Se2 ≤ cn a Se1 + cn a fps := by
  intro ms
  induction ms with
  | nil =>
    intro il ios e1 e2 ws fps Se1 er r io h
    cases il <;> cases ios <;> cases h
    exact ⟨Se1, er, fun a => by omega⟩
  | cons m ms ih =>
    intro il ios e1 e2 ws fps Se1 er r io h
    cases il with
    | nil => cases m <;> cases h
    | cons e il =>
      cases ws with
      | nil => cases m <;> cases e <;> exact io.elim
      | cons w ws =>
        cases m with
        | bor => exact ih il ios e1 e2 ws fps Se1 er r io h
        | frz => exact ih il ios e1 e2 ws fps Se1 er r io h
        | io =>
          cases e with
          | var i =>
            obtain ⟨hv, io⟩ := (show σ[i]? = some (some w) ∧ IoOk σ ms il ws from io)
            cases ios with
            | nil => cases h
            | cons t ios =>
              rw [putb] at h
              split at h
              · cases h
              rename_i nb
              simp only [Bool.or_eq_true, not_or, Bool.not_eq_true] at nb
              obtain ⟨v, vs', g1, g2, e0, rfl, r1, r2⟩ := (show RepL Z ⟨F, B', fun _ => False⟩ H (t :: ios) (w :: ioV ms ws) fps from r)
              cases e0
              obtain ⟨S', er', l⟩ := er.repl hv (Rep.noB (B' := B) t w g1 nb.1 r1)
              obtain ⟨Se2, er2, l2⟩ := ih il ios _ e2 ws g2 S' er' r2 io h
              exact ⟨Se2, er2, fun a => by have := l a; have := l2 a; simp; omega⟩
          | _ => cases h
theorem putb_noio : ∀ (ms : List Md) (il : IL) (ios : List T) (e1 e2 : Env), anyIo ms = false → putb ms il ios e1 = some e2 → e2 = e1 := by
  intro ms
  induction ms with
  | nil => intro il ios e1 e2 _ h; cases il <;> cases ios <;> cases h; rfl
  | cons m ms ih =>
    intro il ios e1 e2 hi h
    rw [anyIo, Bool.or_eq_false_iff] at hi
    cases il with
    | nil => cases m <;> cases h
    | cons e il =>
      cases m with
      | bor => exact ih il ios e1 e2 hi.2 h
      | frz => exact ih il ios e1 e2 hi.2 h
      | io => cases hi.1
theorem prep_len : ∀ (ms : List Md) (il : IL) (ts : List T) (env e1 : Env) (us : List T), prep ms il ts env = some (us, e1) → us.length = ms.length := by
  intro ms
  induction ms with
  | nil => intro il ts env e1 us h; cases il <;> cases ts <;> cases h; rfl
  | cons m ms ih =>
    intro il ts env e1 us h
    cases il with
    | nil => cases m <;> cases ts <;> cases h
    | cons e il =>
      cases ts with
      | nil => cases m <;> cases e <;> cases h
      | cons t ts =>
        cases m with
        | bor =>
          rw [prep] at h
          cases h1 : prep ms il ts env with
          | none => rw [h1] at h; cases h
          | some p => rw [h1] at h; cases h; simp [ih il ts env p.2 p.1 h1]
        | frz =>
          rw [prep] at h
          split at h
          · cases h
          cases h1 : prep ms il ts env with
          | none => rw [h1] at h; cases h
          | some p => rw [h1] at h; cases h; simp [ih il ts env p.2 p.1 h1]
        | io =>
          cases e with
          | var i =>
            rw [prep] at h
            split at h
            · cases h1 : prep ms il ts (env.set i none) with
              | none => rw [h1] at h; cases h
              | some p => rw [h1] at h; cases h; simp [ih il ts _ p.2 p.1 h1]
            · cases h
          | _ => cases h
end
theorem Wd.bare {Z : Wo} {F B : Addr → Prop} {H : Hp} {σ : L2.St} {e : Env} {xs : List T} {vs : List V} {Se St : List Addr} (w : Wd Z F B H σ e xs vs Se St) : Wd Z F B H σ e [] [] Se [] := ⟨w.er, ⟨rfl, rfl⟩, fun a => by have := w.nd a; simp at *; omega, fun a h => by have := w.dj a h; simp at *; omega, w.al⟩
theorem pos_mut {H : Hp} {a : Addr} (h : Mut (H a)) : ∃ o, H a = some o := by
  cases e : H a with
  | none => rw [e] at h; exact h.elim
  | some o => exact ⟨o, rfl⟩
theorem callT_okE {Z : Wo} {I : CI} {F B : Addr → Prop} {H : Hp} {σ : L2.St} {env : Env} {xs : List T} {vs ws : List V} {Se St : List Addr} {Q : VK} {f : Nat} {il : IL} {ts : List T} {E : XK}
    (w : Wd Z F B H σ env (xs ++ ptrs σ (I.md f) il ts) (vs ++ ws) Se St) (hl : (ptrs σ (I.md f) il ts).length = ws.length) (g : (!anyIo (I.md f)) = true ∨ vwL xs = false)
    (p : Post (fun x e => ∀ cls d H' F' Se', XIs Z H' x cls d → Wd Z F' B H' σ e [] [] Se' [] → Step F H (Se ++ St) F' H' Se' → E cls d H') (callT I f il ts env) fun t e => Nxt Z F B H σ e xs vs (Se ++ St) t Q) : spOf Z I f (I.md f).length ws H Q E := by
  obtain ⟨f1, f2, rfl, r, w'⟩ := w.split' hl
  unfold callT at p
  split at p
  · exact p.elim
  rename_i hg
  split at p
  · exact p.elim
  rename_i us e1 hp
  have hv : vwBor (I.md f) ts = false ∨ anyIo (I.md f) = false := by
    cases h1 : anyIo (I.md f) with
    | false => exact .inr rfl
    | true => rw [h1] at hg; left; simpa using hg
  have m2 : ∀ a, 0 < cn a f2 → ∃ o, H a = some o := fun a h => pos_mut (w.mutT (by simp; omega))
  have mE : ∀ a, 0 < cn a Se → ∃ o, H a = some o := fun a h => pos_mut (w.mutE h)
  obtain ⟨Se1, S, a1, a2, a3, a4, a5⟩ := prep_ok (F' := fun a => F a ∨ 0 < cn a f2) (B' := fun a => B a ∨ 0 < cn a f2 ∨ (anyIo (I.md f) = false ∧ 0 < cn a Se)) (fun _ h => .inl h) (fun _ h => .inl h)
    (I.md f) il ts env e1 us ws f2 Se w'.er r hp (hv.imp id fun h a z => .inr (.inr ⟨h, z⟩)) (fun a h => ⟨.inr h, .inr (.inl h)⟩)
  have ndS : ∀ a, cn a Se1 + cn a S + cn a f1 + cn a f2 ≤ 1 := fun a => by have := w.nd a; have := a3 a; simp at *; omega
  have djS : ∀ a, F a ∨ B a → cn a Se1 + cn a S = 0 := fun a h => by have := w.dj a h; have := a3 a; simp at *; omega
  refine ⟨by rw [← a2.length]; exact prep_len _ _ _ _ _ _ hp, _, _, us, S, a2, fun a => by have := ndS a; omega, fun a h => ?_, fun a h => ?_, ?_⟩
  · rcases h with (h | h) | h | h | ⟨h, _⟩
    · have := djS a (.inl h); omega
    · have := ndS a; omega
    · have := djS a (.inr h); omega
    · have := ndS a; omega
    · exact a4 h a
  · rcases h with (h | h) | h | h | ⟨_, h⟩
    · exact w.al a (.inl h)
    · exact m2 a h
    · exact w.al a (.inr h)
    · exact m2 a h
    · exact mE a h
  have core : ∀ (t : T) (ios : List T) (e2 : Env) (Q : VK), t.vw = false → t.hasBrw = false → putb (I.md f) il ios e1 = some e2 → Nxt Z F B H σ e2 xs vs (Se ++ (f1 ++ f2)) t Q → ∀ v H' F' fp fps, Rep Z ⟨F', fun a => B a ∨ 0 < cn a f2 ∨ (anyIo (I.md f) = false ∧ 0 < cn a Se), fun _ => False⟩ H' t v fp →
      RepL Z ⟨F', fun a => B a ∨ 0 < cn a f2 ∨ (anyIo (I.md f) = false ∧ 0 < cn a Se), fun _ => False⟩ H' ios (ioV (I.md f) ws) fps → (∀ a, cn a fps + cn a fp ≤ 1) → (∀ a, F' a ∨ (B a ∨ 0 < cn a f2 ∨ (anyIo (I.md f) = false ∧ 0 < cn a Se)) → cn a fps + cn a fp = 0) →
      (∀ a, F' a → ∃ o, H' a = some o) → Step (fun a => F a ∨ 0 < cn a f2) H S F' H' (fps ++ fp) → Q v H' := by
    intro t ios e2 Q nb1 nb2 hpb p
    intro v H' F' fp fps rt rios nd' dj' al' st
    have keepS : ∀ a o, H a = some o → cn a S = 0 → H' a = some o := fun a o h z => st.kp a o h z
    have nm : ∀ a o, H a = some o → ¬ Mut (some o) → cn a S = 0 := fun a o h z => by
      cases e : cn a S with
      | zero => rfl
      | succ k =>
        have := RepL.mut us ws S a2 a (cn_pos.mp (by omega))
        rw [h] at this; exact absurd this z
    have hF : ∀ a, F a → F' a := fun a h => st.fF a (.inl h)
    -- the slots and the values in hand, behind the call
    have stay : ∀ (S0 : List Addr), (∀ a, 0 < cn a S0 → cn a S = 0) → ∀ a o, H a = some o → Leans ⟨F, B, fun _ => False⟩ S0 a o → H' a = some o := fun S0 hS a o h l => by
      refine keepS a o h ?_
      rcases l with l | l | l | l | l
      · exact nm a o h l
      · exact hS a (cn_pos.mpr l)
      · have := djS a (.inl l); omega
      · have := djS a (.inr l); omega
      · exact l.elim
    have er1 : EnvRep Z ⟨F', B, fun _ => False⟩ H' σ e1 Se1 := EnvRep.mono (G := ⟨F, B, fun _ => False⟩) (G' := ⟨F', B, fun _ => False⟩) hF (fun _ h => h) (fun _ h => h) a1 (stay Se1 fun a h => by have := ndS a; omega)
    have fresh : ∀ a, 0 < cn a fps + cn a fp → 0 < cn a S ∨ H a = none := fun a h => st.nS a (by simp; omega)
    have rt' := Rep.noB (B' := B) t v fp nb2 rt
    -- the two cases
    have fin : ∀ Se2, EnvRep Z ⟨F', B, fun _ => False⟩ H' σ e2 Se2 → (∀ a, cn a Se2 ≤ cn a Se1 + cn a fps) → RepL Z ⟨F', B, fun a => 0 < cn a Se2⟩ H' xs vs f1 → Q v H' := fun Se2 er2 l2 rx => by
      have sep : ∀ a, 0 < cn a fps + cn a fp → cn a Se1 + cn a f1 = 0 := fun a h => by
        rcases fresh a h with z | z
        · have := ndS a; omega
        · have c1 : cn a Se1 = 0 := by
            cases e : cn a Se1 with
            | zero => rfl
            | succ k => have := a3 a; obtain ⟨o, ho⟩ := mE a (by omega); rw [z] at ho; cases ho
          have c2 : cn a f1 = 0 := by
            cases e : cn a f1 with
            | zero => rfl
            | succ k => obtain ⟨o, ho⟩ := pos_mut (w'.mutT (a := a) (by omega)); rw [z] at ho; cases ho
          omega
      refine p v H' F' Se2 (f1 ++ fp) ⟨er2, rx.append (RepL.one.mpr (Rep.noW (W' := fun a => 0 < cn a Se2) t v fp nb1 rt')), fun a => ?_, fun a h => ?_, fun a h => ?_⟩ ⟨hF, fun a o h z => ?_, st.ne, fun a h => ?_, fun a h => ?_⟩
      · have := l2 a; have := sep a; have := ndS a; have := nd' a; simp at *; omega
      · have h0 : cn a fps + cn a fp = 0 := dj' a (h.imp id fun z => .inl z)
        have h1 : cn a Se1 + cn a f1 = 0 := by
          rcases h with h | h
          · rcases st.nF a h with z | z | z
            · rcases z with z | z
              · have := djS a (.inl z); have := w.dj a (.inl z); simp at *; omega
              · have := ndS a; omega
            · have := ndS a; omega
            · have c1 : cn a Se1 = 0 := by
                cases e : cn a Se1 with
                | zero => rfl
                | succ k => have := a3 a; obtain ⟨o, ho⟩ := mE a (by omega); rw [z] at ho; cases ho
              have c2 : cn a f1 = 0 := by
                cases e : cn a f1 with
                | zero => rfl
                | succ k => obtain ⟨o, ho⟩ := pos_mut (w'.mutT (a := a) (by omega)); rw [z] at ho; cases ho
              omega
          · have := djS a (.inr h); have := w.dj a (.inr h); simp at *; omega
        have := l2 a; simp; omega
      · rcases h with h | h
        · exact al' a h
        · obtain ⟨o, ho⟩ := w.al a (.inr h); exact st.ne a o ho
      · refine keepS a o h ?_
        have := a3 a; simp at z; omega
      · simp at h
        have := l2 a
        by_cases q : 0 < cn a fps + cn a fp
        · rcases fresh a q with z | z
          · left; have := a3 a; simp; omega
          · exact .inr z
        · left; have := a3 a; simp; omega
      · rcases st.nF a h with (z | z) | z | z
        · exact .inl z
        · right; left; simp; omega
        · right; left; have := a3 a; simp; omega
        · exact .inr (.inr z)
    cases hio : anyIo (I.md f) with
    | true =>
      have nvx : vwL xs = false := by rcases g with g | g; rw [hio] at g; cases g; exact g
      obtain ⟨Se2, er2, l2⟩ := putb_ok (B' := fun a => B a ∨ 0 < cn a f2 ∨ (anyIo (I.md f) = false ∧ 0 < cn a Se)) (I.md f) il ios e1 e2 ws fps Se1 er1 rios a5 hpb
      refine fin Se2 er2 l2 ?_
      have x1 := RepL.noW (W' := fun _ => False) xs vs f1 nvx w'.tr
      have x2 := RepL.mono (G := ⟨F, B, fun _ => False⟩) (G' := ⟨F', B, fun _ => False⟩) hF (fun _ h => h) (fun _ h => h) xs vs f1 x1 (stay f1 fun a h => by have := ndS a; omega)
      exact RepL.noW (W' := fun a => 0 < cn a Se2) xs vs f1 nvx x2
    | false =>
      have z0 := a4 hio
      have ee : e2 = env := (putb_noio _ _ _ _ _ hio hpb).trans (prep_noio _ _ _ _ _ _ hio hp)
      have all : ∀ a o, H a = some o → H' a = some o := fun a o h => keepS a o h (z0 a)
      -- nothing is owned by the callee
      have er2 : EnvRep Z ⟨F', B, fun _ => False⟩ H' σ e2 Se := by
        rw [ee]
        exact EnvRep.mono (G := ⟨F, B, fun _ => False⟩) (G' := ⟨F', B, fun _ => False⟩) hF (fun _ h => h) (fun _ h => h) w'.er fun a o h _ => all a o h
      have x2 := RepL.mono (G := ⟨F, B, fun a => 0 < cn a Se⟩) (G' := ⟨F', B, fun a => 0 < cn a Se⟩) hF (fun _ h => h) (fun _ h => h) xs vs f1 w'.tr fun a o h _ => all a o h
      have fr : ∀ a, 0 < cn a fps + cn a fp → H a = none := fun a h => by
        rcases fresh a h with z | z
        · rw [z0 a] at z; omega
        · exact z
      have sep : ∀ a, 0 < cn a fps + cn a fp → cn a Se + cn a f1 = 0 := fun a h => by
        have z := fr a h
        have := w'.fresh z
        omega
      refine p v H' F' Se (f1 ++ fp) ⟨er2, x2.append (RepL.one.mpr (Rep.noW (W' := fun a => 0 < cn a Se) t v fp nb1 rt')), fun a => ?_, fun a h => ?_, fun a h => ?_⟩ ⟨hF, fun a o h _ => all a o h, st.ne, fun a h => ?_, fun a h => ?_⟩
      · have := sep a; have := w'.nd a; have := nd' a; simp at *; omega
      · have h0 : cn a fps + cn a fp = 0 := dj' a (h.imp id fun z => .inl z)
        have h1 : cn a Se + cn a f1 = 0 := by
          rcases h with h | h
          · rcases st.nF a h with (z | z) | z | z
            · exact w'.dj a (.inl z)
            · have := w.nd a; simp at this; omega
            · rw [z0 a] at z; omega
            · have := w'.fresh z; omega
          · exact w'.dj a (.inr h)
        simp; omega
      · rcases h with h | h
        · exact al' a h
        · obtain ⟨o, ho⟩ := w.al a (.inr h); exact st.ne a o ho
      · by_cases q : 0 < cn a fps + cn a fp
        · exact .inr (fr a q)
        · left; simp at h ⊢; omega
      · rcases st.nF a h with (z | z) | z | z
        · exact .inl z
        · right; left; simp; omega
        · rw [z0 a] at z; omega
        · exact .inr (.inr z)
  split at p
  · exact p.elim
  · rename_i x ios hrun
    try rw [hrun]
    split at p
    · exact p.elim
    rename_i e2 hpb
    intro cls d H' F' fps hx rios nd' dj' al' st
    refine core .non ios e2 (fun _ H'' => XIs Z H'' x cls d → E cls d H'') rfl rfl hpb (fun v H'' F'' Se' St' w'' s'' hx => p cls d H'' F'' Se' hx w''.bare (s''.trans (Step.le fun a => by simp))) .non H' F' [] fps ⟨rfl, rfl⟩ rios (fun a => by have := nd' a; simpa using this) (fun a h => by have := dj' a h; simpa using this) al' (by simpa using st) hx
  · rename_i t ios hrun
    try rw [hrun]
    split at p
    · exact p.elim
    rename_i nb
    simp only [Bool.or_eq_true, not_or, Bool.not_eq_true] at nb
    split at p
    · exact p.elim
    rename_i e2 hpb
    exact core t ios e2 Q nb.1 nb.2 hpb p
theorem callT_ok {Z : Wo} {I : CI} {F B : Addr → Prop} {H : Hp} {σ : L2.St} {env : Env} {xs : List T} {vs ws : List V} {Se St : List Addr} {Q : VK} {f : Nat} {il : IL} {ts : List T}
    (w : Wd Z F B H σ env (xs ++ ptrs σ (I.md f) il ts) (vs ++ ws) Se St) (hl : (ptrs σ (I.md f) il ts).length = ws.length) (g : (!anyIo (I.md f)) = true ∨ vwL xs = false)
    (p : Post (NxtX Z F B H σ (Se ++ St)) (callT I f il ts env) fun t e => Nxt Z F B H σ e xs vs (Se ++ St) t Q) : spOf Z I f (I.md f).length ws H Q (WE Z.ws σ) := callT_okE w hl g p
end VI

namespace VI
open PySem L2
mutual
theorem has_map {g : Fl → Fl} {p : Fl → Bool} : ∀ t : T, (t.mapF g).has p = t.has (fun f => p (g f)) := fun t => by
  cases t with
  | tup xs => exact hasL_map xs
  | lst f xs => show (p (g f) || T.hasL p (T.mapFL g xs)) = (p (g f) || T.hasL (fun f => p (g f)) xs); rw [hasL_map xs]
  | dic f ks xs => show (p (g f) || T.hasL p (T.mapFL g xs)) = (p (g f) || T.hasL (fun f => p (g f)) xs); rw [hasL_map xs]
  | ins f c xs => show (p (g f) || T.hasL p (T.mapFL g xs)) = (p (g f) || T.hasL (fun f => p (g f)) xs); rw [hasL_map xs]
  | _ => rfl
theorem hasL_map {g : Fl → Fl} {p : Fl → Bool} : ∀ xs : List T, T.hasL p (T.mapFL g xs) = T.hasL (fun f => p (g f)) xs := fun xs => by
  cases xs with
  | nil => rfl
  | cons x xs => show ((T.mapF g x).has p || T.hasL p (T.mapFL g xs)) = _; rw [has_map x, hasL_map xs]; rfl
end
mutual
theorem has_false {p : Fl → Bool} (h : ∀ f, p f = false) : ∀ t : T, t.has p = false := fun t => by
  cases t with
  | tup xs => exact hasL_false h xs
  | lst f xs => show (p f || T.hasL p xs) = false; rw [h, hasL_false h xs]; rfl
  | dic f ks xs => show (p f || T.hasL p xs) = false; rw [h, hasL_false h xs]; rfl
  | ins f c xs => show (p f || T.hasL p xs) = false; rw [h, hasL_false h xs]; rfl
  | _ => rfl
theorem hasL_false {p : Fl → Bool} (h : ∀ f, p f = false) : ∀ xs : List T, T.hasL p xs = false := fun xs => by
  cases xs with
  | nil => rfl
  | cons x xs => show (T.has p x || T.hasL p xs) = false; rw [has_false h x, hasL_false h xs]; rfl
end
theorem fre_noOwn (t : T) : (t.mapF Fl.fre).has Fl.isOwn = false := by
  rw [has_map]; exact has_false (fun f => by cases f <;> rfl) t
theorem fre_vw (t : T) : (t.mapF Fl.fre).vw = t.vw := by
  unfold T.vw; rw [has_map]; congr 1; funext f; cases f <;> rfl
theorem vie_noOwn (t : T) : (t.mapF Fl.vie).has Fl.isOwn = false := by
  rw [has_map]; exact has_false (fun f => by cases f <;> rfl) t
section
variable {Z : Wo} {F B : Addr → Prop} {H H' : Hp} {σ : L2.St} {env : Env} {xs ys : List T} {vs ws : List V} {Se St : List Addr} {t x y : T} {v u : V}
/-- the last value in hand, frozen and let go, stays to be read -/
theorem Wd.frozen (w : Wd Z F B H σ env (xs ++ [t]) (vs ++ [v]) Se St) (nv : t.vw = false) :
    ∃ F' St', Wd Z F' B H σ env xs vs Se St' ∧ Rep Z ⟨F', B, fun _ => False⟩ H (t.mapF Fl.fre) v [] ∧ Step F H (Se ++ St) F' H (Se ++ St') := by
  obtain ⟨F', St', w', s⟩ := w.freeze
  obtain ⟨f1, f2, rfl, r, w2⟩ := w'.pop
  have e := Rep.noOwn _ _ _ (fre_noOwn t) r
  subst e
  exact ⟨F', f1, w2, Rep.noW (W' := fun _ => False) _ _ _ (by have q := fre_vw t; rw [nv] at q; exact q) r, s.trans (Step.le fun a => by simp)⟩
theorem Wd.keepL (w : Wd Z F B H σ env xs vs Se St) {F' : Addr → Prop} {S' : List Addr} (s : Step F H (Se ++ St) F' H' S') : ∀ a o, H a = some o → Leans ⟨F, B, fun _ => False⟩ [] a o → H' a = some o := fun a o h l => by
  refine s.kp a o h ?_
  rcases l with l | l | l | l | l
  · cases e : cn a (Se ++ St) with
    | zero => rfl
    | succ k =>
      simp at e
      by_cases q : 0 < cn a Se
      · have := w.mutE q; rw [h] at this; exact absurd this l
      · have := w.mutT (a := a) (by omega); rw [h] at this; exact absurd this l
  · simp at l
  · have := w.dj a (.inl l); simp; omega
  · have := w.dj a (.inr l); simp; omega
  · exact l.elim
/-- an own list at hand is written anew -/
theorem Wd.updTop {as bs : List T} {us : List V} {p : Addr} (w : Wd Z F B H σ env (xs ++ ([.lst .own as] ++ ys)) (vs ++ ([.ref p] ++ ws)) Se St) (hl : ys.length = ws.length) :
    ∃ ps g, H p = some (.lst ps) ∧ RepL Z ⟨F, B, fun a => 0 < cn a Se⟩ H (as ++ ys) (ps ++ ws) g ∧ ∀ bs us g', (∀ a, cn a g' ≤ cn a g) → RepL Z ⟨F, B, fun a => 0 < cn a Se⟩ H bs us g' →
      ∃ St', Wd Z F B (upd H p (.lst us)) σ env (xs ++ [.lst .own bs]) (vs ++ [.ref p]) Se St' ∧ Step F H (Se ++ St) F (upd H p (.lst us)) (Se ++ St') := by
  obtain ⟨f1, f2, rfl, r, w'⟩ := w.split' (by simp [hl])
  obtain ⟨v', vs', g1, g2, e, rfl, r1, r2⟩ := (show RepL Z ⟨F, B, fun a => 0 < cn a Se⟩ H (.lst .own as :: ys) (.ref p :: ws) f2 from r)
  cases e
  obtain ⟨q, ps, fp', e, _, hp, rfl, _, ra⟩ := r1
  cases e
  refine ⟨ps, fp' ++ g2, hp, ra.append r2, fun bs us g' hg rb => ?_⟩
  have nd := w.nd
  have cp : cn p Se = 0 ∧ cn p f1 = 0 ∧ cn p fp' = 0 ∧ cn p g2 = 0 := by have := nd p; simp [hd_own] at this; omega
  have nFB : ¬ (F p ∨ B p) := fun h => by have := w.dj p h; simp [hd_own] at this
  have other : ∀ a o, H a = some o → a ≠ p → upd H p (.lst us) a = some o := fun a o h n => by rw [upd_ne n]; exact h
  have away : ∀ (S0 : List Addr) (W : Addr → Prop), cn p S0 = 0 → ¬ W p → ∀ a o, H a = some o → Leans ⟨F, B, W⟩ S0 a o → upd H p (.lst us) a = some o := fun S0 W h0 hW a o h l => by
    refine other a o h fun z => ?_
    subst z
    rw [hp] at h; cases h
    rcases l with l | l | l | l | l
    · exact l trivial
    · have := cn_pos.mpr l; omega
    · exact nFB (.inl l)
    · exact nFB (.inr l)
    · exact hW l
  have cg : cn p g' = 0 := by have := hg p; simp at this; omega
  refine ⟨f1 ++ (p :: g'), ⟨EnvRep.mono (fun _ h => h) (fun _ h => h) (fun _ h => h) w'.er (away Se _ cp.1 fun z => z), ?_, fun a => ?_, fun a h => ?_, fun a h => ?_⟩, ⟨fun _ h => h, fun a o h z => ?_, fun a o h => ?_, fun a h => ?_, fun _ h => .inl h⟩⟩
  · have nW : ¬ (0 < cn p Se) := by omega
    refine (RepL.mono (fun _ h => h) (fun _ h => h) (fun _ h => h) xs vs f1 w'.tr (away f1 _ cp.2.1 nW)).append (RepL.one.mpr ⟨p, us, g', rfl, trivial, upd_same, rfl, fun z => absurd rfl z, ?_⟩)
    exact RepL.mono (fun _ h => h) (fun _ h => h) (fun _ h => h) bs us g' rb (away g' _ cg nW)
  · have h1 := nd a; have h2 := hg a; simp [hd_own] at h1 h2 ⊢; omega
  · have h1 := w.dj a h; have h2 := hg a; simp only [hd_own, cn_append, cn_cons, cn_nil] at h1 h2 ⊢; omega
  · obtain ⟨o, ho⟩ := w.al a h
    by_cases q : a = p
    · subst q; exact ⟨_, upd_same⟩
    · exact ⟨o, other a o ho q⟩
  · refine other a o h fun q => ?_
    subst q
    simp [hd_own] at z
  · by_cases q : a = p
    · subst q; exact ⟨_, upd_same⟩
    · exact ⟨o, other a o h q⟩
  · have h2 := hg a; simp [hd_own] at h h2 ⊢
    left; omega
end
/-! what is walked -/
structure IterOk (Z : Wo) (F B : Addr → Prop) (J : It) (P : Hp → Prop) (items : List T) : Prop where
  keep : ∀ H H', (∀ a o, H a = some o → Leans ⟨F, B, fun _ => False⟩ [] a o → H' a = some o) → P H → P H'
  go : ∀ i H t, items[i]? = some t → P H → J.go i H ∧ ∀ x H', J.yld i H x H' → (∀ a o, H a = some o → H' a = some o) ∧ Rep Z ⟨F, B, fun _ => False⟩ H' t x []
  stop : ∀ H, P H → J.stop items.length H
theorem IterOk.ws {Z : Wo} {F B : Addr → Prop} {J : It} {P : Hp → Prop} {items : List T} {W : Value → Option Addr → L2.St → Hp → Prop} (k : IterOk Z F B J P items) : IterOk (Z.as W) F B J P items :=
  ⟨k.keep, fun i H t h p => ⟨(k.go i H t h p).1, fun x H' y => ⟨((k.go i H t h p).2 x H' y).1, Rep.ws _ _ _ ((k.go i H t h p).2 x H' y).2⟩⟩, k.stop⟩
section
variable {Z : Wo} {F B : Addr → Prop} {H H' : Hp}
theorem leans_at {f : Fl} {p : Addr} {o : HO} {F B : Addr → Prop} (nf : f ≠ .own) (h : Sh.at ⟨F, B, fun _ => False⟩ f p) : Leans ⟨F, B, fun _ => False⟩ [] p o := by
  cases f with
  | own => exact absurd rfl nf
  | frz => exact .inr (.inr (.inl h))
  | brw => exact .inr (.inr (.inr (.inl h)))
  | vw => exact h.elim
theorem RepL.get0 {G : Sh} {items : List T} {vs : List V} {i : Nat} {t : T} (r : RepL Z G H items vs []) (h : items[i]? = some t) : ∃ v, vs[i]? = some v ∧ Rep Z G H t v [] := by
  obtain ⟨v, f1, f2, f3, hv, e, r⟩ := r.get h
  have : f2 = [] := by
    have := congrArg List.length e
    simp at this
    exact List.length_eq_zero_iff.mp (by omega)
  subst this
  exact ⟨v, hv, r⟩
theorem iter_list {f : Fl} {p : Addr} {items : List T} (nf : f ≠ .own) (hp : Sh.at ⟨F, B, fun _ => False⟩ f p) :
    IterOk Z F B (Itl Z.K p) (fun H => ∃ vs, H p = some (.lst vs) ∧ RepL Z ⟨F, B, fun _ => False⟩ H items vs []) items where
  keep := fun H H' k ⟨vs, h, r⟩ => ⟨vs, k _ _ h (leans_at nf hp), RepL.mono (fun _ h => h) (fun _ h => h) (fun _ h => h) _ _ _ r k⟩
  go := fun i H t ht ⟨vs, h, r⟩ => by
    obtain ⟨v, hv, rt⟩ := r.get0 ht
    refine ⟨⟨vs, v, SqL.of h, hv⟩, fun x H' y => ?_⟩
    obtain ⟨rfl, y⟩ := y
    have e := y vs (SqL.of h)
    rw [hv] at e; cases e
    exact ⟨fun _ _ z => z, rt⟩
  stop := fun H ⟨vs, h, r⟩ => ⟨vs, SqL.of h, by rw [← r.length]; exact Nat.le_refl _⟩
theorem iter_scr {p : Addr} {ns : List Int} : IterOk Z F B (Itl Z.K p) (fun H => ScrAt Z ⟨F, B, fun _ => False⟩ H p (ns.map V.int)) (ns.map T.int) where
  keep := fun H H' k h => by
    rcases h with ⟨f, (h | ⟨o, h⟩)⟩ | h
    · exact .inl ⟨f, .inl (k _ _ h (.inr (.inr (.inl f))))⟩
    · exact .inl ⟨f, .inr ⟨o, k _ _ h (.inr (.inr (.inl f)))⟩⟩
    · exact .inr h
  go := fun i H t ht h => by
    rw [List.getElem?_map] at ht
    cases e : ns[i]? with
    | none => rw [e] at ht; cases ht
    | some n =>
      rw [e] at ht; cases ht
      have hv : (ns.map V.int)[i]? = some (.int n) := by rw [List.getElem?_map, e]; rfl
      refine ⟨⟨_, _, scr_sq h, hv⟩, fun x H' y => ?_⟩
      obtain ⟨rfl, y⟩ := y
      have e2 := y _ (scr_sq h)
      rw [hv] at e2; cases e2
      exact ⟨fun _ _ z => z, rfl, rfl⟩
  stop := fun H h => ⟨_, scr_sq h, by simp⟩
theorem iter_tup {p : Addr} {items : List T} : IterOk Z F B (Itt Z.K p) (fun H => ∃ vs, SqT Z.K H p vs ∧ RepL Z ⟨F, B, fun _ => False⟩ H items vs []) items where
  keep := fun H H' k ⟨vs, h, r⟩ => ⟨vs, SqT.keep h fun a o h1 h2 => k a o h1 (.inl h2), RepL.mono (fun _ h => h) (fun _ h => h) (fun _ h => h) _ _ _ r k⟩
  go := fun i H t ht ⟨vs, h, r⟩ => by
    obtain ⟨v, hv, rt⟩ := r.get0 ht
    refine ⟨⟨vs, v, h, hv⟩, fun x H' y => ?_⟩
    obtain ⟨rfl, y⟩ := y
    have e := y vs h
    rw [hv] at e; cases e
    exact ⟨fun _ _ z => z, rt⟩
  stop := fun H ⟨vs, h, r⟩ => ⟨vs, h, by rw [← r.length]; exact Nat.le_refl _⟩
theorem iter_str {s : Str} : IterOk Z F B (Its s) (fun _ => True) (s.cps.toList.map fun c => .str ⟨#[c]⟩) where
  keep := fun _ _ _ _ => trivial
  go := fun i H t ht _ => by
    rw [List.getElem?_map] at ht
    cases e : s.cps.toList[i]? with
    | none => rw [e] at ht; cases ht
    | some c =>
      rw [e] at ht; cases ht
      have hi : i < s.cps.size := by
        have := (List.getElem?_eq_some_iff.mp e).1
        simpa using this
      refine ⟨hi, fun x H' y => ?_⟩
      obtain ⟨rfl, c', hc, rfl⟩ := y
      have : s.cps[i]? = some c := by simpa using e
      rw [this] at hc; cases hc
      exact ⟨fun _ _ z => z, rfl, rfl⟩
  stop := fun H _ => by show s.cps.size ≤ _; simp
theorem iter_rng {a b : Int} {n : Nat} (hn : n = (b - a).toNat) : IterOk Z F B (Itr a n) (fun _ => True) (rngT a b) where
  keep := fun _ _ _ _ => trivial
  go := fun i H t ht _ => by
    unfold rngT at ht
    rw [List.getElem?_map] at ht
    cases e : (List.range (b - a).toNat)[i]? with
    | none => rw [e] at ht; cases ht
    | some c =>
      rw [e] at ht; cases ht
      obtain ⟨h1, h2⟩ := List.getElem?_eq_some_iff.mp e
      simp at h1 h2
      subst h2
      refine ⟨by subst hn; show i < _; omega, fun x H' y => ?_⟩
      obtain ⟨rfl, rfl⟩ := y
      exact ⟨fun _ _ z => z, rfl, rfl⟩
  stop := fun H _ => by show n ≤ _; unfold rngT; simp [hn]
theorem enuT_get : ∀ {xs : List T} {k i : Nat} {t : T}, (enuT k xs)[i]? = some t → ∃ x, xs[i]? = some x ∧ t = .tup [.int ((k + i : Nat) : Int), x] := fun {xs} => by
  induction xs with
  | nil => intro k i t h; simp [enuT] at h
  | cons x xs ih =>
    intro k i t h
    cases i with
    | zero => simp [enuT] at h; exact ⟨x, rfl, by rw [← h]; rfl⟩
    | succ i =>
      obtain ⟨y, h1, h2⟩ := ih (k := k + 1) (i := i) (t := t) (by simpa [enuT] using h)
      refine ⟨y, by simpa using h1, ?_⟩
      rw [h2]
      have : k + 1 + i = k + (i + 1) := by omega
      rw [this]
theorem enuT_len : ∀ {xs : List T} {k : Nat}, (enuT k xs).length = xs.length := fun {xs} => by
  induction xs with
  | nil => intro k; rfl
  | cons x xs ih => intro k; simp [enuT, ih]
theorem rep_tup2 {G : Sh} {a b : T} {va vb : V} {q : Addr} (hq : H q = none) (ra : Rep Z G H a va []) (rb : Rep Z G H b vb []) : Rep Z G (upd H q (.tup [va, vb])) (.tup [a, b]) (.ref q) [] := by
  have k : ∀ c o, H c = some o → upd H q (.tup [va, vb]) c = some o := upd_keep hq
  exact ⟨q, [va, vb], rfl, SqT.of upd_same, va, [vb], [], [], rfl, rfl, Rep.mono (fun _ h => h) (fun _ h => h) (fun _ h => h) _ _ _ ra fun c o h _ => k c o h,
    vb, [], [], [], rfl, rfl, Rep.mono (fun _ h => h) (fun _ h => h) (fun _ h => h) _ _ _ rb fun c o h _ => k c o h, rfl, rfl⟩
theorem iter_enu {f : Fl} {p : Addr} {xs : List T} (nf : f ≠ .own) (hp : Sh.at ⟨F, B, fun _ => False⟩ f p) :
    IterOk Z F B (Ite Z.K p) (fun H => ∃ vs, H p = some (.lst vs) ∧ RepL Z ⟨F, B, fun _ => False⟩ H xs vs []) (enuT 0 xs) where
  keep := fun H H' k ⟨vs, h, r⟩ => ⟨vs, k _ _ h (leans_at nf hp), RepL.mono (fun _ h => h) (fun _ h => h) (fun _ h => h) _ _ _ r k⟩
  go := fun i H t ht ⟨vs, h, r⟩ => by
    obtain ⟨x0, h1, rfl⟩ := enuT_get ht
    obtain ⟨v, hv, rt⟩ := r.get0 h1
    refine ⟨⟨vs, v, SqL.of h, hv⟩, fun x H' y => ?_⟩
    obtain ⟨q, w, rfl, hq, rfl, y⟩ := y
    have e := y vs (SqL.of h)
    rw [hv] at e; cases e
    exact ⟨upd_keep hq, rep_tup2 hq ⟨by simp, rfl⟩ rt⟩
  stop := fun H ⟨vs, h, r⟩ => ⟨vs, SqL.of h, by rw [enuT_len, ← r.length]; exact Nat.le_refl _⟩
theorem zipT_get : ∀ {xs ys : List T} {i : Nat} {t : T}, (zipT xs ys)[i]? = some t → ∃ x y, xs[i]? = some x ∧ ys[i]? = some y ∧ t = .tup [x, y] := fun {xs} => by
  induction xs with
  | nil => intro ys i t h; simp [zipT] at h
  | cons x xs ih =>
    intro ys i t h
    cases ys with
    | nil => simp [zipT] at h
    | cons y ys =>
      cases i with
      | zero => simp [zipT] at h; exact ⟨x, y, rfl, rfl, h.symm⟩
      | succ i =>
        obtain ⟨a, b, h1, h2, h3⟩ := ih (ys := ys) (i := i) (t := t) (by simpa [zipT] using h)
        exact ⟨a, b, by simpa using h1, by simpa using h2, h3⟩
theorem zipT_len : ∀ {xs ys : List T}, (zipT xs ys).length = min xs.length ys.length := fun {xs} => by
  induction xs with
  | nil => intro ys; simp [zipT]
  | cons x xs ih => intro ys; cases ys <;> simp [zipT, ih]
theorem iter_zip {f g : Fl} {p q : Addr} {xs ys : List T} (nf : f ≠ .own) (hp : Sh.at ⟨F, B, fun _ => False⟩ f p) (ng : g ≠ .own) (hq : Sh.at ⟨F, B, fun _ => False⟩ g q) :
    IterOk Z F B (Itz Z.K p q) (fun H => (∃ vs, H p = some (.lst vs) ∧ RepL Z ⟨F, B, fun _ => False⟩ H xs vs []) ∧ ∃ vs, H q = some (.lst vs) ∧ RepL Z ⟨F, B, fun _ => False⟩ H ys vs []) (zipT xs ys) where
  keep := fun H H' k ⟨⟨vs, h, r⟩, ⟨us, h2, r2⟩⟩ => ⟨⟨vs, k _ _ h (leans_at nf hp), RepL.mono (fun _ h => h) (fun _ h => h) (fun _ h => h) _ _ _ r k⟩, ⟨us, k _ _ h2 (leans_at ng hq), RepL.mono (fun _ h => h) (fun _ h => h) (fun _ h => h) _ _ _ r2 k⟩⟩
  go := fun i H t ht ⟨⟨vs, h, r⟩, ⟨us, h2, r2⟩⟩ => by
    obtain ⟨x0, y0, h3, h4, rfl⟩ := zipT_get ht
    obtain ⟨v, hv, rt⟩ := r.get0 h3
    obtain ⟨u, hu, ru⟩ := r2.get0 h4
    refine ⟨⟨vs, us, v, u, SqL.of h, SqL.of h2, hv, hu⟩, fun x H' y => ?_⟩
    obtain ⟨q', w, w', rfl, hq', rfl, y1, y2⟩ := y
    have e := y1 vs (SqL.of h)
    rw [hv] at e; cases e
    have e := y2 us (SqL.of h2)
    rw [hu] at e; cases e
    exact ⟨upd_keep hq', rep_tup2 hq' rt ru⟩
  stop := fun H ⟨⟨vs, h, r⟩, ⟨us, h2, r2⟩⟩ => ⟨vs, us, SqL.of h, SqL.of h2, by rw [zipT_len, ← r.length, ← r2.length]; omega⟩
end
end VI

namespace VI
open PySem L2
/-! targets -/
def gNames : List Nat → TGs
  | [] => gNil
  | i :: is => gCons (gName i) (gNames is)
def tgR (Z : Wo) : List Nat → TG
  | [i] => gName i
  | is => gTup Z.K is.length (gNames is)
/-- how far the slots may have changed -/
def Off (as : List Nat) (σ σ' : L2.St) : Prop := σ'.length = σ.length ∧ ∀ j, j ∉ as → σ'[j]? = σ[j]?
theorem Off.refl {as : List Nat} {σ : L2.St} : Off as σ σ := ⟨rfl, fun _ _ => rfl⟩
theorem Off.trans {as : List Nat} {σ σ1 σ2 : L2.St} (a : Off as σ σ1) (b : Off as σ1 σ2) : Off as σ σ2 := ⟨b.1.trans a.1, fun j h => (b.2 j h).trans (a.2 j h)⟩
theorem Off.set {as : List Nat} {σ : L2.St} {i : Nat} {x : Option V} (h : i ∈ as) : Off as σ (σ.set i x) := ⟨by simp, fun j hj => by rw [List.getElem?_set_ne]; rintro rfl; exact hj h⟩
theorem Off.mono {as bs : List Nat} {σ σ' : L2.St} (h : Off as σ σ') (s : ∀ j ∈ as, j ∈ bs) : Off bs σ σ' := ⟨h.1, fun j hj => h.2 j fun z => hj (s j z)⟩
section
variable {Z : Wo} {F B : Addr → Prop} {H H' : Hp} {σ : L2.St} {env e1 : Env} {xs ys : List T} {vs ws : List V} {Se St : List Addr} {t x y : T} {v u : V}
theorem Wd.bind1 (w : Wd Z F B H σ env xs vs Se St) (nv : vwL xs = false) (r : Rep Z ⟨F, B, fun _ => False⟩ H t v []) (nt : t.vw = false) {i : Nat} (hi : i < env.length) :
    ∃ Se' St', Wd Z F B H (σ.set i (some v)) (env.set i (some t)) xs vs Se' St' ∧ Step F H (Se ++ St) F H (Se' ++ St') :=
  (w.push (Rep.noW (W' := fun a => 0 < cn a Se) t v [] nt r)).store (by show vwL (xs ++ [t]) = false; rw [vwL_snoc, nv, nt]; rfl) hi
theorem bind_names : ∀ (is : List Nat) (ts : List T) (us : List V) (σ : L2.St) (env : Env) (Se St : List Addr) (C : L2.St → Hp → Prop), Wd Z F B H σ env xs vs Se St → vwL xs = false → is.length = ts.length → vwL ts = false → (∀ i ∈ is, i < env.length) →
    RepL Z ⟨F, B, fun _ => False⟩ H ts us [] →
    (∀ σ2 Se2 St2, Wd Z F B H σ2 ((is.zip ts).foldl (fun e p => e.set p.1 (some p.2)) env) xs vs Se2 St2 → Step F H (Se ++ St) F H (Se2 ++ St2) → Off is σ σ2 → C σ2 H) → gNames is us σ H C := by
  intro is
  induction is with
  | nil =>
    intro ts us σ env Se St C w nv hl nt hi r k
    cases ts with
    | nil => exact ⟨r.1, k σ Se St w Step.refl Off.refl⟩
    | cons _ _ => cases hl
  | cons i is ih =>
    intro ts us σ env Se St C w nv hl nt hi r k
    cases ts with
    | nil => cases hl
    | cons t ts =>
      obtain ⟨v, us', f1, f2, rfl, e, r1, r2⟩ := r
      obtain ⟨rfl, rfl⟩ : f1 = [] ∧ f2 = [] := by simpa using e.symm
      have nt' : t.vw = false ∧ vwL ts = false := by
        have q := nt
        unfold vwL at q
        rw [T.hasL, Bool.or_eq_false_iff] at q
        exact q
      obtain ⟨Se1, St1, w1, s1⟩ := w.bind1 nv r1 nt'.1 (hi i List.mem_cons_self)
      refine ⟨v, us', rfl, ?_⟩
      refine ih ts us' _ _ Se1 St1 C w1 nv (by simpa using hl) nt'.2 (fun j hj => by simpa using hi j (List.mem_cons_of_mem _ hj)) r2 fun σ2 Se2 St2 w2 s2 o2 => ?_
      exact k σ2 Se2 St2 w2 (s1.trans s2) ((Off.set List.mem_cons_self).trans (o2.mono fun j h => List.mem_cons_of_mem _ h))
theorem bind_ok {tg : List Nat} {C : L2.St → Hp → Prop} (w : Wd Z F B H σ env xs vs Se St) (nv : vwL xs = false) (r : Rep Z ⟨F, B, fun _ => False⟩ H t v []) (h : bindTg tg t env = some e1)
    (k : ∀ σ2 Se2 St2, Wd Z F B H σ2 e1 xs vs Se2 St2 → Step F H (Se ++ St) F H (Se2 ++ St2) → Off tg σ σ2 → C σ2 H) : tgR Z tg v σ H C := by
  have multi : ∀ is, (∀ i, is ≠ [i]) → (match t with | .tup xs => if is.length = xs.length ∧ vwL xs = false ∧ (∀ i ∈ is, i < env.length) then some ((is.zip xs).foldl (fun e p => e.set p.1 (some p.2)) env) else none | _ => none) = some e1 →
      (∀ σ2 Se2 St2, Wd Z F B H σ2 e1 xs vs Se2 St2 → Step F H (Se ++ St) F H (Se2 ++ St2) → Off is σ σ2 → C σ2 H) → gTup Z.K is.length (gNames is) v σ H C := fun is ni h k => by
    cases t with
    | tup ts =>
      have h : (if is.length = ts.length ∧ vwL ts = false ∧ (∀ i ∈ is, i < env.length) then some ((is.zip ts).foldl (fun e p => e.set p.1 (some p.2)) env) else none) = some e1 := h
      split at h
      · rename_i hc
        cases h
        obtain ⟨p, ps, rfl, hp, rp⟩ := r
        exact ⟨p, ps, rfl, hp, by rw [← rp.length]; exact hc.1.symm, bind_names is ts ps σ env Se St C w nv hc.1 hc.2.1 hc.2.2 rp k⟩
      · cases h
    | _ => cases h
  match tg, h, k with
  | [], h, k => exact multi [] (fun i z => by cases z) (by unfold bindTg at h; cases t <;> exact h) k
  | [i], h, k =>
    have h : (if i < env.length ∧ t.vw = false then some (env.set i (some t)) else none) = some e1 := by cases t <;> exact h
    split at h
    · rename_i hc
      cases h
      obtain ⟨Se2, St2, w2, s2⟩ := w.bind1 nv r hc.2 hc.1
      exact k _ Se2 St2 w2 s2 (Off.set (by simp))
    · cases h
  | i :: j :: is, h, k => exact multi (i :: j :: is) (fun i z => by cases z) (by unfold bindTg at h; cases t <;> exact h) k
end
theorem spOf_ws {Z : Wo} {I : CI} {f np : Nat} {W : Value → Option Addr → L2.St → Hp → Prop} {vs : List V} {H : Hp} {Q : VK} {E : XK} (h : spOf (Z.as W) I f np vs H Q E) : spOf Z I f np vs H Q E := by
  obtain ⟨hl, F, B, ts, S, r, nd, dj, al, h⟩ := h
  refine ⟨hl, F, B, ts, S, RepL.ws (Z := Z.as W) (W := Z.ws) _ _ _ r, nd, dj, al, ?_⟩
  cases e : I.run f ts with
  | stuck => rw [e] at h; exact h
  | exc x ios => rw [e] at h; exact fun cls d H' F' fps hx rr => h cls d H' F' fps hx (RepL.ws _ _ _ rr)
  | ok t ios => rw [e] at h; exact fun v H' F' fp fps rt rr => h v H' F' fp fps (Rep.ws _ _ _ rt) (RepL.ws _ _ _ rr)
theorem FAt.ws {X : Cx} {Z : Wo} {I : CI} {f : Nat} {fa : Addr} {W : Value → Option Addr → L2.St → Hp → Prop} (h : FAt X Z I f fa) : FAt X (Z.as W) I f fa := let ⟨fd, ps, k, b, r, m, F⟩ := h; ⟨fd, ps, k, b, r, m, F.imp fun _ _ _ _ q => spOf_ws q⟩
theorem FOk.ws {X : Cx} {Z : Wo} {I : CI} {f : Nat} {x : Str} {W : Value → Option Addr → L2.St → Hp → Prop} (h : FOk X Z I f x) : FOk X (Z.as W) I f x := let ⟨fa, fd, ps, k, a, b, c, r, m, F⟩ := h; ⟨fa, fd, ps, k, a, b, c, r, m, F.imp fun _ _ _ _ q => spOf_ws q⟩
theorem takesF {X : Cx} : Takes X (fun _ _ _ _ => False) := fun u s' ⟨a, B, sI, pins, σ, H, cls, d, e, I, nb, up, sky, na, os, ag, w⟩ => w.elim
/-! a context of a block is such a context, too -/
theorem XOk.blk {X : Cx} {Z : Wo} {I : CI} {nm : Tb} {N : List Str} {sc : Scope} (ok : XOk X Z I nm N sc) (hot : nm.hot = false) (s : Shared) (H : Hp) (scope : Scope) (C : Addr) (cl : List (Str × Addr)) (fp : List Addr) :
    XOk (X.blk s H scope (compEnvC scope cl C X.env) fp) (Z.as fun _ _ _ _ => False) I nm N (relS scope sc) where
  calm := ok.calm
  tk := takesF
  hxf := ok.hxf
  xnr := ok.xnr
  xns := fun c x kp h => ok.xns c x kp h
  xks := ok.xks
  xcs := ok.xcs
  sui := fun h => by rw [hot] at h; cases h
  gls := ok.gls
  hN := ok.hN
  nd := ok.nd
  hsc := by rw [← ok.hsc]; rfl
  hK := ok.hK
  blt := ok.blt
  hu := ok.hu
  fns := fun f x h => (ok.fns f x h).ws
  hfl := ok.hfl
  fld := ok.fld
  few := ok.few
  mts := fun c f m h => let ⟨a, b, fa, c, d⟩ := ok.mts c f m h; ⟨a, b, fa, c, d.ws⟩
  cns := fun c x f h => let ⟨a, fa, b, d⟩ := ok.cns c x f h; ⟨a, fa, b, d.ws⟩
section
variable {X : Cx} {Z : Wo} {I : CI} {nm : Tb} {N : List Str} {sc : Scope}
theorem loc_of (ok : XOk X Z I nm N sc) {cl : Bool} (hc : cl = true → ∀ x, X.fn x = true) {x : Str} (h : locB cl sc x = true) : L2.Loc X.env.scope x ∧ (X.fn x = true ∨ X.env.scope.names.lookup x = some .local) := by
  rw [ok.hsc]
  unfold locB at h
  split at h
  · rename_i e; exact ⟨.inl e, .inr e⟩
  · rename_i e; exact ⟨.inr e, .inl (hc h x)⟩
  · cases h
theorem pg_of (ok : XOk X Z I nm N sc) (hot : nm.hot = false) {cl : Bool} (hc : cl = true → ∀ x, X.fn x = true) {tg : List Nat} {e : Expr} (h : ckTg cl N sc tg e = true) : PG X e (tgR Z tg) := by
  have one : ∀ {i : Nat} {x : Str} {pos : Pos}, N[i]? = some x → locB cl sc x = true → PG X (.Name x pos) (gName i) := fun {i x pos} h1 h2 =>
    pg_name (by rw [ok.hN]; exact ok.nd) (by rw [ok.hN]; exact h1) (loc_of ok hc h2).1 (loc_of ok hc h2).2
  have many : ∀ (is : List Nat) (es : List Expr), ckTg.go cl N sc is es = true → PGs X es (gNames is) ∧ (assignEach es X.env).length = is.length ∧ (assignEach es X.env).findIdx? (·.1) = none := by
    intro is
    induction is with
    | nil =>
      intro es h
      cases es with
      | nil => exact ⟨pgs_nil, rfl, rfl⟩
      | cons _ _ => cases h
    | cons i is ih =>
      intro es h
      cases es with
      | nil => cases h
      | cons e es =>
        cases e <;> first | (cases h; done) | skip
        rename_i x pos
        rw [ckTg.go] at h
        obtain ⟨h1, h2, h3⟩ := and3 h
        obtain ⟨a, b, c⟩ := ih es h3
        have ea : assignEach (.Name x pos :: es) X.env = (false, assign (.Name x pos) X.env) :: assignEach es X.env := rfl
        refine ⟨pgs_cons (one (beq_iff_eq.mp h1) h2) a, by rw [ea, List.length_cons, b]; rfl, ?_⟩
        rw [ea, List.findIdx?_cons, c]; rfl
  match tg, e, h with
  | [i], .Name x pos, h =>
    rw [ckTg, Bool.and_eq_true] at h
    exact one (beq_iff_eq.mp h.1) h.2
  | is, .Tuple es k pos, h =>
    have h' : (ckTg.go cl N sc is es && decide (2 ≤ is.length)) = true := by
      cases is with
      | nil => exact h
      | cons i is => cases is <;> exact h
    rw [Bool.and_eq_true] at h'
    obtain ⟨a, b, c⟩ := many is es h'.1
    have e : tgR Z is = gTup X.K is.length (gNames is) := by
      rw [ok.hK]
      match is, of_decide_eq_true h'.2 with
      | i :: j :: r, _ => rfl
    rw [e]
    exact pg_tup (ok.calm hot) a b c
end
end VI

namespace VI
open PySem L2
def tC (Z : Wo) (I : CI) (c : IO) : TT := fun σ H Q => ∃ F B env xs vs Se St, Wd Z F B H σ env xs vs Se St ∧ vwL xs = false ∧
  Post (NxtX Z F B H σ (Se ++ St)) (evC I c env) fun b e => ∀ H' F' Se' St', Wd Z F' B H' σ e xs vs Se' St' → Step F H (Se ++ St) F' H' (Se' ++ St') → Q b H'
def tOo (Z : Wo) (I : CI) (o : IO) : TO := fun σ H Q => ∃ F B env xs vs Se St, Wd Z F B H σ env xs vs Se St ∧ (pO I o = true ∨ vwL xs = false) ∧
  Post (NxtX Z F B H σ (Se ++ St)) (evO I o env) fun l e => ∃ l', intO l = some l' ∧ ∀ H' F' Se' St', Wd Z F' B H' σ e xs vs Se' St' → Step F H (Se ++ St) F' H' (Se' ++ St') → Q l' H'
def tI (Z : Wo) (I : CI) (it : IT) : TI := fun σ H R => ∃ F B env xs vs Se St, Wd Z F B H σ env xs vs Se St ∧ vwL xs = false ∧
  Post (NxtX Z F B H σ (Se ++ St)) (evIT I it env) fun items e => ∀ J P H' F' Se' St', P H' → IterOk Z F' B J P items → Wd Z F' B H' σ e xs vs Se' St' → Step F H (Se ++ St) F' H' (Se' ++ St') → R J H'
section
variable {X : Cx} {Z : Wo} {I : CI} {nm : Tb} {N : List Str} {sc : Scope}
variable {F B F1 : Addr → Prop} {H H1 : Hp} {σ : L2.St} {env : Env} {xs ys : List T} {vs ws : List V} {Se St S S1 : List Addr} {t x y : T} {v u : V} {Q : VK}
/-! comprehensions -/
theorem wipeE_len : ∀ (tg : List Nat) (env : Env), (wipeE env tg).length = env.length := fun tg => by
  induction tg with
  | nil => intro env; rfl
  | cons i r ih => intro env; simp [wipeE, ih]
theorem wipeE_get : ∀ (tg : List Nat) (env : Env) (j : Nat) (t : T), (wipeE env tg)[j]? = some (some t) → j ∉ tg ∧ env[j]? = some (some t) := fun tg => by
  induction tg with
  | nil => intro env j t h; exact ⟨by simp, h⟩
  | cons i r ih =>
    intro env j t h
    rw [wipeE] at h
    by_cases e : i = j
    · subst e
      by_cases hl : i < (wipeE env r).length
      · rw [List.getElem?_set_self hl] at h; cases h
      · rw [List.getElem?_eq_none (by simpa using hl)] at h; cases h
    · rw [List.getElem?_set_ne e] at h
      obtain ⟨a, b⟩ := ih env j t h
      exact ⟨by simp only [List.mem_cons, not_or]; exact ⟨fun z => e z.symm, a⟩, b⟩
theorem Wd.wipe (w : Wd Z F B H σ env xs vs Se St) (nv : vwL xs = false) : ∀ tg : List Nat, ∃ Se', Wd Z F B H σ (wipeE env tg) xs vs Se' St ∧ Step F H (Se ++ St) F H (Se' ++ St) := fun tg => by
  induction tg with
  | nil => exact ⟨Se, w, Step.refl⟩
  | cons i r ih =>
    obtain ⟨S1, w1, s1⟩ := ih
    obtain ⟨S2, w2, s2⟩ := w1.forget nv i
    exact ⟨S2, w2, s1.trans s2⟩
theorem wipe_get : ∀ (tg : List Nat) (σ : L2.St) (j : Nat), j ∉ tg → (L2.wipe σ tg)[j]? = σ[j]? := fun tg => by
  induction tg with
  | nil => intro σ j _; rfl
  | cons i r ih =>
    intro σ j h
    simp only [List.mem_cons, not_or] at h
    rw [L2.wipe, List.getElem?_set_ne (Ne.symm h.1), ih σ j h.2]
/-- the slots that are set do not matter where they are forgotten -/
theorem Wd.onWipe {tg : List Nat} (w : Wd Z F B H σ env xs vs Se St) (h : ∀ (j : Nat) (t : T), env[j]? = some (some t) → j ∉ tg) {σ' : L2.St} (l : σ'.length = σ.length) (k : ∀ j, j ∉ tg → σ'[j]? = σ[j]?) : Wd Z F B H σ' env xs vs Se St :=
  ⟨w.er.slots l fun j t e => k j (h j t e), w.tr, w.nd, w.dj, w.al⟩
theorem wipe_len : ∀ (tg : List Nat) (σ : L2.St), (L2.wipe σ tg).length = σ.length := fun tg σ => L2.wipe_length σ tg
theorem wipe_eq {tg : List Nat} {σ σ2 : L2.St} (h : Off tg (L2.wipe σ tg) σ2) : L2.wipe σ2 tg = L2.wipe σ tg := by
  have key : ∀ (r : List Nat) (a b : L2.St), a.length = b.length → (∀ j, j ∉ r → a[j]? = b[j]?) → L2.wipe a r = L2.wipe b r := fun r => by
    induction r with
    | nil => intro a b l h; exact List.ext_getElem? fun j => h j (by simp)
    | cons i r ih =>
      intro a b l h
      rw [L2.wipe, L2.wipe]
      apply List.ext_getElem?
      intro j
      by_cases e : i = j
      · subst e
        by_cases hl : i < a.length
        · rw [List.getElem?_set_self (by rw [wipe_len]; exact hl), List.getElem?_set_self (by rw [wipe_len, ← l]; exact hl)]
        · rw [List.getElem?_eq_none (by simp [wipe_len]; omega), List.getElem?_eq_none (by simp [wipe_len]; omega)]
      · rw [List.getElem?_set_ne e, List.getElem?_set_ne e]
        by_cases hr : j ∈ r
        · have n1 : ∀ c : L2.St, j < c.length → (L2.wipe c r)[j]? = some none := fun c hc => by
            have : ∀ (r : List Nat), j ∈ r → (L2.wipe c r)[j]? = some none := fun r => by
              induction r with
              | nil => intro z; simp at z
              | cons k r ih2 =>
                intro z
                rw [L2.wipe]
                by_cases q : k = j
                · subst q; rw [List.getElem?_set_self (by rw [wipe_len]; exact hc)]
                · rw [List.getElem?_set_ne q]
                  exact ih2 ((List.mem_cons.mp z).resolve_left fun w => q w.symm)
            exact this r hr
          by_cases hc : j < a.length
          · rw [n1 a hc, n1 b (by omega)]
          · rw [List.getElem?_eq_none (by simp [wipe_len]; omega), List.getElem?_eq_none (by simp [wipe_len]; omega)]
        · rw [wipe_get r a j hr, wipe_get r b j hr]
          exact h j (by simp only [List.mem_cons, not_or]; exact ⟨fun z => e z.symm, hr⟩)
  refine key tg σ2 σ (by rw [h.1, wipe_len]) fun j hj => by rw [h.2 j hj, wipe_get tg σ j hj]
/-- the inside of a list comprehension -/
def lcIn (g : TG) (tt : TT) (te : TE) (vs : List Nat) (J : It) (σ : L2.St) (Q : VK) (H1 : Hp) (D : Addr) : Prop := ∃ W : Nat → Nat → Hp → Prop, (∃ m, W 0 m (upd H1 D (.lst []))) ∧ ∀ i m H, W i m H →
  (J.stop i H ∧ Q (.ref D) H) ∨ (J.go i H ∧ ∃ Nx : Hp → Prop, (∀ H', Nx H' → ∃ m', m' < m ∧ W (i + 1) m' H') ∧ ∀ x H', J.yld i H x H' → g x (L2.wipe σ vs) H' fun σ2 H2 => L2.wipe σ2 vs = L2.wipe σ vs ∧ tt σ2 H2 fun b H3 =>
    if b = true then te σ2 H3 fun y H4 => ∃ acc, H4 D = some (.lst acc) ∧ acc.length < sizeLine ∧ Nx (upd H4 D (.lst (acc ++ [y]))) else Nx H3)
theorem comp_core {tg : List Nat} {c : IO} {elt : IE} {e1 : Env} {F1 : Addr → Prop} {Se1 St1 S : List Addr} {items : List T} {J : It} {P : Hp → Prop} {H1 : Hp} (nv : vwL xs = false)
    {Jx : Xn → Env → Prop} (p1 : Post Jx (compLoop (fun e => evC I c e) (fun e => evE I elt e) tg items [] (wipeE e1 tg)) fun t e => Nxt Z F B H σ e xs vs S t Q) (hP : P H1) (ok : IterOk Z F1 B J P items) (w1 : Wd Z F1 B H1 σ e1 xs vs Se1 St1) (s1 : Step F H S F1 H1 (Se1 ++ St1)) (D : Addr) (hD : H1 D = none) :
    lcIn (tgR Z tg) (tC Z I c) (tT Z I elt) tg J σ Q H1 D := by
  -- the slots of the block forgotten, the new list
  obtain ⟨Se2, w2, s2⟩ := w1.wipe nv tg
  have hw : ∀ (j : Nat) (t : T), (wipeE e1 tg)[j]? = some (some t) → j ∉ tg := fun j t h => (wipeE_get tg e1 j t h).1
  have w3 : Wd Z F1 B H1 (L2.wipe σ tg) (wipeE e1 tg) (xs ++ []) (vs ++ []) Se2 St1 := by
    simpa using w2.onWipe hw (wipe_len tg σ) fun j hj => wipe_get tg σ j hj
  obtain ⟨St4, w4, s4⟩ := w3.newList (ys := []) (ws := []) rfl rfl hD
  let Inv : Nat → Hp → Prop := fun i H' => ∃ (Fi : Addr → Prop) (ei : Env) (acc : List T) (Sei Sti : List Addr), Wd Z Fi B H' (L2.wipe σ tg) ei (xs ++ [.lst .own acc]) (vs ++ [.ref D]) Sei Sti ∧ P H' ∧ (∀ a, F1 a → Fi a) ∧
    vwL acc = false ∧ (∀ (j : Nat) (t : T), ei[j]? = some (some t) → j ∉ tg) ∧ Step F H S Fi H' (Sei ++ Sti) ∧ i ≤ items.length ∧
    Post Jx (compLoop (fun e => evC I c e) (fun e => evE I elt e) tg (items.drop i) acc ei) fun t e => Nxt Z F B H σ e xs vs S t Q
  have s14 := (s1.trans s2).trans s4
  refine ⟨fun i m H' => m = items.length - i ∧ Inv i H', ⟨items.length, by simp, F1, wipeE e1 tg, [], Se2, St4, w4, ?_, fun _ h => h, rfl, hw, s14, Nat.zero_le _, p1⟩, ?_⟩
  · exact ok.keep _ _ (w1.keepL (s2.trans s4)) hP
  rintro i m H' ⟨rfl, Fi, ei, acc, Sei, Sti, wi, hPi, hFi, nva, hwi, si, hi, pi⟩
  by_cases hlt : i < items.length
  · -- a turn
    have hit : items[i]? = some items[i] := by simp [hlt]
    obtain ⟨hgo, hy⟩ := ok.go i H' _ hit hPi
    refine .inr ⟨hgo, Inv (i + 1), fun H'' q => ⟨items.length - (i + 1), by omega, rfl, q⟩, fun x H2 yx => ?_⟩
    obtain ⟨hk, rx⟩ := hy x H2 yx
    rw [List.drop_eq_getElem_cons hlt, compLoop] at pi
    have wi2 := wi.grow hk
    have nvi : vwL (xs ++ [.lst .own acc]) = false := by
      rw [vwL_snoc, nv]
      show (Fl.isVw .own || T.hasL Fl.isVw acc) = false
      exact nva
    have stp : Step Fi H' (Sei ++ Sti) Fi H2 (Sei ++ Sti) := ⟨fun _ h => h, fun a o h _ => hk a o h, fun a o h => ⟨o, hk a o h⟩, fun a h => .inl h, fun a h => .inl h⟩
    split at pi
    · exact pi.elim
    rename_i e2 hb
    refine bind_ok wi2 nvi (Rep.mono (G := ⟨F1, B, fun _ => False⟩) (G' := ⟨Fi, B, fun _ => False⟩) hFi (fun _ h => h) (fun _ h => h) _ _ _ rx fun a o h _ => h) hb fun σ2 Se5 St5 w5 s5 o5 => ?_
    refine ⟨wipe_eq o5, Fi, B, e2, xs ++ [.lst .own acc], vs ++ [.ref D], Se5, St5, w5, nvi, (Post.noX (Post.bind pi)).imp fun b e3 _ p3 H3 F3 Se6 St6 w6 s6 => ?_⟩
    have hP3 : P H3 := ok.keep _ _ (fun a o h l => (wi.keepL (stp.trans (s5.trans s6))) a o h (by
      rcases l with l | l | l | l | l
      · exact .inl l
      · exact .inr (.inl l)
      · exact .inr (.inr (.inl (hFi a l)))
      · exact .inr (.inr (.inr (.inl l)))
      · exact l.elim)) hPi
    have s36 := ((si.trans stp).trans s5).trans s6
    have hF3 : ∀ a, F1 a → F3 a := fun a h => s6.fF a (hFi a h)
    cases b with
    | false =>
      show Inv (i + 1) H3
      have p3 : Post Jx (compLoop (fun e => evC I c e) (fun e => evE I elt e) tg (items.drop (i + 1)) acc (wipeE e3 tg)) fun t e => Nxt Z F B H σ e xs vs S t Q := p3
      obtain ⟨Se7, w7, s7⟩ := w6.wipe nvi tg
      have hw7 : ∀ (j : Nat) (t : T), (wipeE e3 tg)[j]? = some (some t) → j ∉ tg := fun j t h => (wipeE_get tg e3 j t h).1
      exact ⟨F3, _, acc, Se7, St6, w7.onWipe hw7 (by rw [o5.1]) fun j hj => (o5.2 j hj).symm, hP3, hF3, nva, hw7, s36.trans s7, hlt, p3⟩
    | true =>
      show tT Z I elt σ2 H3 fun y H4 => ∃ acc, H4 D = some (HO.lst acc) ∧ acc.length < sizeLine ∧ Inv (i + 1) (upd H4 D (HO.lst (acc ++ [y])))
      refine ⟨F3, B, e3, xs ++ [.lst .own acc], vs ++ [.ref D], Se6, St6, w6, .inr nvi, (Post.noX (Post.bind p3)).imp fun y e4 _ p4 yv H4 F4 Se7 St7 w7 s7 => ?_⟩
      split at p4
      · exact p4.elim
      rename_i hc
      simp only [Bool.or_eq_true, not_or, Bool.not_eq_true, Bool.not_eq_false', decide_eq_true_eq] at hc
      have w7' : Wd Z F4 B H4 σ2 e4 (xs ++ ([.lst .own acc] ++ [y])) (vs ++ ([.ref D] ++ [yv])) Se7 St7 := by simpa [List.append_assoc] using w7
      obtain ⟨ps, g, hD4, rg, mk⟩ := w7'.updTop (as := acc) (bs := acc) (us := []) rfl
      have hlen : acc.length = ps.length := by have := rg.length; simp at this; exact this
      obtain ⟨St8, w8, s8⟩ := mk (acc ++ [y]) (ps ++ [yv]) g (fun a => Nat.le_refl _) rg
      refine ⟨ps, hD4, by rw [sizeLine_eq, ← hlen]; exact hc.2, ?_⟩
      have nv8 : vwL (xs ++ [.lst .own (acc ++ [y])]) = false := by
        rw [vwL_snoc, nv]
        show (Fl.isVw .own || T.hasL Fl.isVw (acc ++ [y])) = false
        have : vwL (acc ++ [y]) = false := by rw [vwL_snoc, nva, hc.1]; rfl
        exact this
      obtain ⟨Se9, w9, s9⟩ := w8.wipe nv8 tg
      have hw9 : ∀ (j : Nat) (t : T), (wipeE e4 tg)[j]? = some (some t) → j ∉ tg := fun j t h => (wipeE_get tg e4 j t h).1
      refine ⟨F4, _, acc ++ [y], Se9, St8, w9.onWipe hw9 (by rw [o5.1]) fun j hj => (o5.2 j hj).symm, ?_, fun a h => s7.fF a (hF3 a h), by rw [vwL_snoc, nva, hc.1]; rfl, hw9, ((s36.trans s7).trans s8).trans s9, hlt, p4⟩
      refine ok.keep _ _ (fun a o h l => (w6.keepL ((s7.trans s8).trans s9)) a o h ?_) hP3
      rcases l with l | l | l | l | l
      · exact .inl l
      · exact .inr (.inl l)
      · exact .inr (.inr (.inl (hF3 a l)))
      · exact .inr (.inr (.inr (.inl l)))
      · exact l.elim
  · have ei' : i = items.length := by omega
    subst ei'
    refine .inl ⟨ok.stop H' hPi, ?_⟩
    rw [List.drop_length, compLoop] at pi
    exact pi (.ref D) H' Fi Sei Sti (wi.onWipe hwi (by rw [wipe_len]) fun j hj => (wipe_get tg σ j hj).symm) si
/-- a block's world: nothing leaves it -/
abbrev Wo.nox (Z : Wo) : Wo := Z.as fun _ _ _ _ => False
theorem Nxt.toW {W : Value → Option Addr → L2.St → Hp → Prop} (k : Nxt Z F B H σ env xs vs S t Q) : Nxt (Z.as W) F B H σ env xs vs S t Q := fun v H' F' Se' St' w s => k v H' F' Se' St' w.ws' s
theorem Post.impX {α : Type} {Jx J' : Xn → Env → Prop} {m : Out α} {K K' : α → Env → Prop} (h : Post Jx m K) (j : ∀ x e, Jx x e → J' x e) (k : ∀ a e, K a e → K' a e) : Post J' m K' := by cases m with | ok a e => exact k a e h | exc x e => exact j x e h | stuck => exact h
theorem comp_ok {tg : List Nat} {it : IT} {c : IO} {elt : IE} : ∀ σ H Q, tT Z I (.comp tg it c elt) σ H Q → tLc (tI Z I it) (tgR Z tg) (tC Z.nox I c) (tT Z.nox I elt) tg σ H Q := fun σ H Q h => by
  obtain ⟨F, B, env, xs, vs, Se, St, w, g, p⟩ := h
  have nv : vwL xs = false := by rcases g with g | g; cases g; exact g
  rw [evE] at p
  exact ⟨F, B, env, xs, vs, Se, St, w, nv, (Post.bind p).imp fun items e1 _ p1 J P H1 F1 Se1 St1 hP ok w1 s1 D hD => comp_core (Z := Z.nox) nv (Jx := NxtX Z F B H σ (Se ++ St)) (p1.imp fun t e _ k => Nxt.toW k) hP ok.ws w1.ws s1 D hD⟩
end
end VI

namespace VI
open PySem L2
section
variable {X : Cx} {Z : Wo} {I : CI} {nm : Tb} {N : List Str} {sc : Scope}
def tC0 (v : V) : TE := fun _ H Q => Q v H
theorem Post.ok {α : Type} {o : Out α} {J : Xn → Env → Prop} {K : α → Env → Prop} (h : Post J o.noX K) : ∃ a e, o = .ok a e := by cases o with | ok a e => exact ⟨a, e, rfl⟩ | exc x e => exact h.elim | stuck => exact h.elim
theorem Post.un {α : Type} {o : Out α} {J J' : Xn → Env → Prop} {K : α → Env → Prop} (h : Post J o.noX K) : Post J' o K := h.noX
theorem map_some {α β : Type} {o : Option α} {f : α → β} {b : β} (h : o.map f = some b) : ∃ a, o = some a ∧ f a = b := by cases o with | none => cases h | some a => exact ⟨a, rfl, by simpa using h⟩
theorem cmpV {op : CmpOp} {x y : T} {v u : V} {c : Bool} {F B : Addr → Prop} {H : Hp} {σ : L2.St} {e : Env} {xs : List T} {vs : List V} {Se St : List Addr} {Q : VK} (ok : XOk X Z I nm N sc)
    (w : Wd Z F B H σ e (xs ++ [x] ++ [y]) (vs ++ [v] ++ [u]) Se St) (h : cmpT op x y = some c) (k : Nxt Z F B H σ e xs vs (Se ++ St) (.bl c) Q) : AnyOp X (compareOp op) v u H Q := by
  obtain ⟨f1, f2, r1, r2, tp⟩ := w.top2
  exact cmp_ok ok.hu ok.hK w h (k.imm tp (imm_bl c))
theorem bop_imp {op : Operator} {a b : IE} : ∀ σ H Q, tT Z I (.bop op a b) σ H Q → tOp (AnyOp X (binaryOp op)) (tT Z I a) (tT Z I b) σ H Q := fun σ H Q h => by
  obtain ⟨F, B, env, xs, vs, Se, St, w, g, p⟩ := h
  rw [evE] at p
  refine seq2 (R := fun v u H2 => AnyOp X (binaryOp op) v u H2 Q) w g p fun x y e2 v u H2 F2 Se2 St2 w2 s2 p2 => ?_
  obtain ⟨t, ht, k⟩ := Post.ofO p2
  exact bop_ok w2 ht (Nxt.after k s2)
theorem cmp_imp (ok : XOk X Z I nm N sc) {op : CmpOp} {a b : IE} : ∀ σ H Q, tT Z I (.cmp op a b) σ H Q → tOp (AnyOp X (compareOp op)) (tT Z I a) (tT Z I b) σ H Q := fun σ H Q h => by
  obtain ⟨F, B, env, xs, vs, Se, St, w, g, p⟩ := h
  rw [evE] at p
  refine seq2 (R := fun v u H2 => AnyOp X (compareOp op) v u H2 Q) w g p fun x y e2 v u H2 F2 Se2 St2 w2 s2 p2 => ?_
  obtain ⟨t, ht, k⟩ := Post.ofO p2
  obtain ⟨c, hc, rfl⟩ := map_some ht
  exact cmpV ok w2 hc (Nxt.after k s2)
theorem idx_imp (ok : XOk X Z I nm N sc) {a b : IE} : ∀ σ H Q, tT Z I (.idx a b) σ H Q → tOp (AnyIx X) (tT Z I a) (tT Z I b) σ H Q := fun σ H Q h => by
  obtain ⟨F, B, env, xs, vs, Se, St, w, g, p⟩ := h
  rw [evE] at p
  refine seq2 (R := fun v u H2 => AnyIx X v u H2 Q) w g p fun x y e2 v u H2 F2 Se2 St2 w2 s2 p2 => ?_
  obtain ⟨t, ht, k⟩ := Post.ofO p2
  exact idx_ok (by have := ok.hu; omega) ok.hK w2 ht (Nxt.after k s2)
theorem neg_imp {a : IE} : ∀ σ H Q, tT Z I (.neg a) σ H Q → tUn (rU fun i => .int (-i)) (tT Z I a) σ H Q := fun σ H Q h => by
  obtain ⟨F, B, env, xs, vs, Se, St, w, g, p⟩ := h
  rw [evE] at p
  refine seq1 (R := fun v H1 => rU (fun i => .int (-i)) v H1 Q) w g p fun x e1 v H1 F1 Se1 St1 w1 s1 _ p1 => ?_
  obtain ⟨f1, r, tp⟩ := w1.top1
  cases x <;> first | exact p1.elim | skip
  obtain rfl := r.1
  exact ⟨_, rfl, (Nxt.after p1 s1).imm tp (imm_int _)⟩
theorem not_imp {a : IE} : ∀ σ H Q, tT Z I (.nt a) σ H Q → tNotV (tT Z I a) σ H Q := fun σ H Q h => by
  obtain ⟨F, B, env, xs, vs, Se, St, w, g, p⟩ := h
  rw [evE] at p
  refine seq1 (R := fun x H1 => ∃ c, x = .bl c ∧ Q (.bl (!c)) H1) w g p fun x e1 v H1 F1 Se1 St1 w1 s1 _ p1 => ?_
  obtain ⟨f1, r, tp⟩ := w1.top1
  cases x <;> first | exact p1.elim | skip
  obtain rfl := r.1
  exact ⟨_, rfl, (Nxt.after p1 s1).imm tp (imm_bl _)⟩
theorem notT_imp {a : IE} : ∀ σ H Q, tTest (tT Z I (.nt a)) σ H Q → tNot (tTest (tT Z I a)) σ H Q := fun σ H Q h => by
  obtain ⟨F, B, env, xs, vs, Se, St, w, g, p⟩ := h
  rw [evE] at p
  refine seq1 (R := fun x H1 => ∃ c, x = .bl c ∧ Q (!c) H1) w g p fun x e1 v H1 F1 Se1 St1 w1 s1 _ p1 => ?_
  obtain ⟨f1, r, tp⟩ := w1.top1
  cases x <;> first | exact p1.elim | skip
  obtain rfl := r.1
  obtain ⟨c, e, q⟩ := (Nxt.after p1 s1).imm tp (imm_bl _)
  cases e
  exact ⟨_, rfl, q⟩
theorem an_imp {a b : IE} : ∀ σ H Q, tT Z I (.an a b) σ H Q → tAndV (tT Z I a) (tT Z I b) σ H Q := fun σ H Q h => by
  obtain ⟨F, B, env, xs, vs, Se, St, w, g, p⟩ := h
  rw [evE] at p
  refine seq1 (R := fun x H1 => ∃ c, x = .bl c ∧ if c = true then tT Z I b σ H1 Q else Q (.bl false) H1) w (gd_l g) p fun x e1 v H1 F1 Se1 St1 w1 s1 he p1 => ?_
  obtain ⟨f1, r, tp⟩ := w1.top1
  cases x <;> first | exact p1.elim | skip
  rename_i c0
  obtain rfl := r.1
  obtain ⟨f0, f2, rfl, _, w0⟩ := w1.pop
  cases c0 with
  | true => exact ⟨true, rfl, F1, B, e1, xs, vs, Se1, f0, w0, gd_r g, Post.imp (K := fun t e => Nxt Z F B H σ e xs vs (Se ++ St) t Q) (p1.mono fun _ _ z => NxtX.after z (Step.le fun a => by simp)) fun t e _ k => Nxt.after k (s1.trans (Step.le fun a => by simp))⟩
  | false => exact ⟨false, rfl, (Nxt.after (show Nxt Z F B H σ e1 xs vs (Se ++ St) (.bl false) Q from p1) s1).imm tp (imm_bl _)⟩
theorem orr_imp {a b : IE} : ∀ σ H Q, tT Z I (.orr a b) σ H Q → tOrV (tT Z I a) (tT Z I b) σ H Q := fun σ H Q h => by
  obtain ⟨F, B, env, xs, vs, Se, St, w, g, p⟩ := h
  rw [evE] at p
  refine seq1 (R := fun x H1 => ∃ c, x = .bl c ∧ if c = true then Q (.bl true) H1 else tT Z I b σ H1 Q) w (gd_l g) p fun x e1 v H1 F1 Se1 St1 w1 s1 he p1 => ?_
  obtain ⟨f1, r, tp⟩ := w1.top1
  cases x <;> first | exact p1.elim | skip
  rename_i c0
  obtain rfl := r.1
  obtain ⟨f0, f2, rfl, _, w0⟩ := w1.pop
  cases c0 with
  | false => exact ⟨false, rfl, F1, B, e1, xs, vs, Se1, f0, w0, gd_r g, Post.imp (K := fun t e => Nxt Z F B H σ e xs vs (Se ++ St) t Q) (p1.mono fun _ _ z => NxtX.after z (Step.le fun a => by simp)) fun t e _ k => Nxt.after k (s1.trans (Step.le fun a => by simp))⟩
  | true => exact ⟨true, rfl, (Nxt.after (show Nxt Z F B H σ e1 xs vs (Se ++ St) (.bl true) Q from p1) s1).imm tp (imm_bl _)⟩
theorem anT_imp {a b : IE} : ∀ σ H Q, tTest (tT Z I (.an a b)) σ H Q → tAnd (tTest (tT Z I a)) (tTest (tT Z I b)) σ H Q := fun σ H Q h => by
  have h := an_imp σ H _ h
  obtain ⟨F, B, env, xs, vs, Se, St, w, g, p⟩ := h
  refine ⟨F, B, env, xs, vs, Se, St, w, g, p.imp fun t e _ k v H' F' Se' St' w' s' => ?_⟩
  obtain ⟨c, rfl, q⟩ := k v H' F' Se' St' w' s'
  refine ⟨c, rfl, ?_⟩
  cases c with
  | true => exact q
  | false =>
    obtain ⟨k, e, q⟩ := q
    cases e
    exact q
theorem orT_imp {a b : IE} : ∀ σ H Q, tTest (tT Z I (.orr a b)) σ H Q → tOr (tTest (tT Z I a)) (tTest (tT Z I b)) σ H Q := fun σ H Q h => by
  have h := orr_imp σ H _ h
  obtain ⟨F, B, env, xs, vs, Se, St, w, g, p⟩ := h
  refine ⟨F, B, env, xs, vs, Se, St, w, g, p.imp fun t e _ k v H' F' Se' St' w' s' => ?_⟩
  obtain ⟨c, rfl, q⟩ := k v H' F' Se' St' w' s'
  refine ⟨c, rfl, ?_⟩
  cases c with
  | false => exact q
  | true =>
    obtain ⟨k, e, q⟩ := q
    cases e
    exact q
theorem ite_imp {c a b : IE} : ∀ σ H Q, tT Z I (.ite c a b) σ H Q → tIf (tTest (tT Z I c)) (tT Z I a) (tT Z I b) σ H Q := fun σ H Q h => by
  obtain ⟨F, B, env, xs, vs, Se, St, w, g, p⟩ := h
  rw [evE] at p
  refine seq1 (R := fun x H1 => ∃ c, x = .bl c ∧ if c = true then tT Z I a σ H1 Q else tT Z I b σ H1 Q) w (gd_l g) p fun x e1 v H1 F1 Se1 St1 w1 s1 he p1 => ?_
  obtain ⟨f1, r, tp⟩ := w1.top1
  cases x <;> first | exact p1.elim | skip
  rename_i c0
  obtain rfl := r.1
  obtain ⟨f0, f2, rfl, _, w0⟩ := w1.pop
  have g2 := gd_r g
  cases c0 with
  | false => exact ⟨false, rfl, F1, B, e1, xs, vs, Se1, f0, w0, gd_r g2, Post.imp (K := fun t e => Nxt Z F B H σ e xs vs (Se ++ St) t Q) (p1.mono fun _ _ z => NxtX.after z (Step.le fun a => by simp)) fun t e _ k => Nxt.after k (s1.trans (Step.le fun a => by simp))⟩
  | true => exact ⟨true, rfl, F1, B, e1, xs, vs, Se1, f0, w0, gd_l g2, Post.imp (K := fun t e => Nxt Z F B H σ e xs vs (Se ++ St) t Q) (p1.mono fun _ _ z => NxtX.after z (Step.le fun a => by simp)) fun t e _ k => Nxt.after k (s1.trans (Step.le fun a => by simp))⟩
theorem cmp2_imp (ok : XOk X Z I nm N sc) {op op' : CmpOp} {a b c : IE} : ∀ σ H Q, tT Z I (.cmp2 op op' a b c) σ H Q → tChain (AnyOp X (compareOp op)) (AnyOp X (compareOp op')) (tT Z I a) (tT Z I b) (tT Z I c) σ H Q := fun σ H Q h => by
  obtain ⟨F, B, env, xs, vs, Se, St, w, g, p⟩ := h
  rw [evE] at p
  have ga := gd_l g
  have gbc := gd_r g
  refine seq1 w ga p fun x e1 v H1 F1 Se1 St1 w1 s1 _ p1 => ?_
  obtain ⟨gx, p1⟩ := Post.gd p1
  have gb : pE I b = true ∨ vwL (xs ++ [x]) = false := by
    rcases gx with q | q
    · rcases gd_l gbc with z | z
      · exact .inl z
      · exact .inr (by rw [vwL_snoc, z, q]; rfl)
    · exact .inl q
  refine seq1 w1 gb p1 fun y e2 u H2 F2 Se2 St2 w2 s2 _ p2 => ?_
  split at p2
  · rename_i c0 hc
    cases c0 with
    | false =>
      obtain ⟨f1, f2, r1, r2, tp⟩ := w2.top2
      exact cmp_ok ok.hu ok.hK w2 hc ⟨false, rfl, (Nxt.after (show Nxt Z F B H σ e2 xs vs (Se ++ St) (.bl false) Q from p2) (s1.trans s2)).imm tp (imm_bl _)⟩
    | true =>
    have p2 := show Post (NxtX Z F2 B H2 σ (Se2 ++ St2)) (gd (x.vw || y.vw) (pE I c) ((evE I c e2).bind fun z e3 => .ofO ((cmpT op' y z).map T.bl) e3)) _ from p2
    obtain ⟨gy, p2⟩ := Post.gd p2
    refine cmp_ok ok.hu ok.hK w2 hc ⟨true, rfl, ?_⟩
    have gc : pE I c = true ∨ vwL (xs ++ [x] ++ [y]) = false := by
      rcases gy with q | q
      · rcases gd_r gbc with z | z
        · exact .inl z
        · rw [Bool.or_eq_false_iff] at q
          exact .inr (by rw [vwL_snoc, vwL_snoc, z, q.1, q.2]; rfl)
      · exact .inl q
    refine seq1 (R := fun w' H4 => AnyOp X (compareOp op') u w' H4 Q) w2 gc p2 fun z e3 w' H3 F3 Se3 St3 w3 s3 _ p3 => ?_
    obtain ⟨t, ht, k⟩ := Post.ofO p3
    obtain ⟨c', hc', rfl⟩ := map_some ht
    have w4 : Wd Z F3 B H3 σ e3 (xs ++ [x, y, z]) (vs ++ [v, u, w']) Se3 St3 := by simpa [List.append_assoc] using w3
    obtain ⟨f, _, tp⟩ := w4.top rfl
    exact cmp_ok (xs := xs ++ [x]) (vs := vs ++ [v]) ok.hu ok.hK w3 hc' ((Nxt.after k ((s1.trans s2).trans s3)).imm tp (imm_bl _))
  · exact p2.elim
theorem lst_imp {xs : IL} : ∀ σ H Q, tT Z I (.lst xs) σ H Q → tLst (tL Z I xs) σ H Q := fun σ H Q h => by
  obtain ⟨F, B, env, xs, vs, Se, St, w, g, p⟩ := h
  rw [evE] at p
  refine ⟨F, B, env, xs, vs, Se, St, w, g, (Post.bind p).imp fun ts e _ p1 ws H1 F1 Se1 St1 hl w1 s1 => ?_⟩
  split at p1
  · exact p1.elim
  rename_i hc
  simp only [Bool.or_eq_true, not_or, Bool.not_eq_true, Bool.not_eq_false', decide_eq_true_eq] at hc
  obtain ⟨f2, r, tp⟩ := w1.top hl
  exact ⟨by rw [sizeLine_eq, ← hl]; exact hc.2, fun q hq => (Nxt.after (show Nxt Z F B H σ e xs vs (Se ++ St) (.lst .own ts) Q from p1) s1).list tp (fun a => Nat.le_refl _) r hc.1 hq⟩
theorem tup_imp {xs : IL} : ∀ σ H Q, tT Z I (.tup xs) σ H Q → tTup (tL Z I xs) σ H Q := fun σ H Q h => by
  obtain ⟨F, B, env, xs, vs, Se, St, w, g, p⟩ := h
  rw [evE] at p
  refine ⟨F, B, env, xs, vs, Se, St, w, g, (Post.bind p).imp fun ts e _ p1 ws H1 F1 Se1 St1 hl w1 s1 => ?_⟩
  split at p1
  · exact p1.elim
  rename_i hc
  simp only [Bool.not_eq_true, Bool.not_eq_false', decide_eq_true_eq] at hc
  obtain ⟨f2, r, tp⟩ := w1.top hl
  exact ⟨by rw [sizeLine_eq, ← hl]; exact hc, fun q hq => (Nxt.after (show Nxt Z F B H σ e xs vs (Se ++ St) (.tup ts) Q from p1) s1).tup tp (fun a => Nat.le_refl _) r hq⟩
theorem blt_imp (ok : XOk X Z I nm N sc) {x : Str} (hh : (x == ("len" : Str) || !nm.hot) = true) {xs : IL} : ∀ σ H Q, tT Z I (.blt x xs) σ H Q → tCB (AnyCall X (bltV x)) (tL Z I xs) σ H Q := fun σ H Q h => by
  obtain ⟨F, B, env, xs, vs, Se, St, w, g, p⟩ := h
  rw [evE] at p
  refine ⟨F, B, env, xs, vs, Se, St, w, g, (Post.bind p).imp fun ts e _ p1 ws H1 F1 Se1 St1 hl w1 s1 => ?_⟩
  obtain ⟨t, ht, k⟩ := Post.ofO p1
  exact blt_ok (fun n => ok.calm (by cases e : nm.hot with | false => rfl | true => rw [e, Bool.or_eq_true] at hh; rcases hh with z | z; exact absurd (beq_iff_eq.mp z) n; cases z)) ok.hK w1 hl ht (Nxt.after k s1)
theorem isi_imp (ok : XOk X Z I nm N sc) {ty : Str} {a : IE} : ∀ σ H Q, tT Z I (.isi a ty) σ H Q → tCB (rIsi X.K) (tCons (tT Z I a) (tCons (tC0 (.ty (tyV ty))) tNil)) σ H Q := fun σ H Q h => by
  obtain ⟨F, B, env, xs, vs, Se, St, w, g, p⟩ := h
  rw [evE] at p
  refine seq1 (R := fun x H1 => rIsi X.K [x, .ty (tyV ty)] H1 Q) w g p fun x e1 v H1 F1 Se1 St1 w1 s1 _ p1 => ?_
  obtain ⟨t, ht, k⟩ := Post.ofO p1
  obtain ⟨c', hc', rfl⟩ := map_some ht
  exact isi_ok ok.hK w1 hc' (Nxt.after k s1)
theorem tT_mono {a : IE} {Q Q' : VK} {σ : L2.St} {H : Hp} (h : tT Z I a σ H Q) (k : ∀ v H, Q v H → Q' v H) : tT Z I a σ H Q' := by
  obtain ⟨F, B, env, xs, vs, Se, St, w, g, p⟩ := h
  exact ⟨F, B, env, xs, vs, Se, St, w, g, p.imp fun t e _ q v H' F' Se' St' w' s' => k v H' (q v H' F' Se' St' w' s')⟩
theorem gv_imp {x : Str} {v : V} {t : T} (hg : I.gl x = some t) (hi : ImmIs t v) : ∀ σ H Q, tT Z I (.gv x) σ H Q → L2.tC v σ H Q := fun σ H Q h => by
  obtain ⟨F, B, env, xs, vs, Se, St, w, g, p⟩ := h
  rw [evE, hg] at p
  exact p v H F Se St (w.push (hi _ _ _)) Step.refl
theorem gv_none {x : Str} (hg : I.gl x = none) {t : TE} : ∀ σ H Q, tT Z I (.gv x) σ H Q → t σ H Q := fun σ H Q h => by
  obtain ⟨F, B, env, xs, vs, Se, St, w, g, p⟩ := h
  rw [evE, hg] at p
  exact p.elim
def tTys (tys : List Str) : TA := fun _ H Q => Q (tys.map fun ty => V.ty (tyV ty)) H
theorem isiN_imp (ok : XOk X Z I nm N sc) {tys : List Str} {a : IE} (h0 : tys ≠ []) (h1 : tys.length ≤ 10) : ∀ σ H Q, tT Z I (.isiN a tys) σ H Q → tCB (rIsiT X.K) (tCons (tT Z I a) (tCons (tTup (tTys tys)) tNil)) σ H Q := fun σ H Q h => by
  obtain ⟨F, B, env, xs, vs, Se, St, w, g, p⟩ := h
  rw [evE] at p
  refine seq1 (R := fun x H1 => (tys.map fun ty => V.ty (tyV ty)).length ≤ sizeLine ∧ ∀ q, H1 q = none → rIsiT X.K [x, .ref q] (upd H1 q (.tup (tys.map fun ty => V.ty (tyV ty)))) Q) w g p fun x e1 v H1 F1 Se1 St1 w1 s1 _ p1 => ?_
  obtain ⟨t, ht, k⟩ := Post.ofO p1
  obtain ⟨c', hc', rfl⟩ := map_some ht
  exact ⟨by rw [List.length_map, sizeLine_eq]; omega, fun q hq => isiN_ok ok.hK w1 hc' h0 (Nxt.after k s1) hq⟩
theorem mxd_imp (ok : XOk X Z I nm N sc) (hot : nm.hot = false) {a d : IE} : ∀ σ H Q, tT Z I (.mxd a d) σ H Q → tCKw (rMaxDf X.K) (tCons (tT Z I a) tNil) (tCons (tT Z I d) tNil) σ H Q := fun σ H Q h => by
  obtain ⟨F, B, env, xs, vs, Se, St, w, g, p⟩ := h
  rw [evE] at p
  refine seq2 (R := fun v u H2 => rMaxDf X.K [v] [u] H2 Q) w g p fun x y e2 v u H2 F2 Se2 St2 w2 s2 p2 => ?_
  obtain ⟨t, ht, k⟩ := Post.ofO p2
  exact mxd_ok (ok.calm hot) ok.hK w2 ht (Nxt.after k s2)
theorem lmt_imp (ok : XOk X Z I nm N sc) {m : Str} {o : IE} {r : IL} : ∀ σ H Q, tT Z I (.lmt m o r) σ H Q → tBM X.K "list" (rIndex X.K) (tT Z I o) (tL Z I r) σ H Q := fun σ H Q h => by
  obtain ⟨F, B, env, xs, vs, Se, St, w, g, p⟩ := h
  rw [evE] at p
  refine seq1 (R := fun x H1 => L2.tyV X.K "list" x H1 ∧ tL Z I r σ H1 fun us H2 => rIndex X.K x us H2 Q) w (gd_l g) p fun x e1 v H1 F1 Se1 St1 w1 s1 _ p1 => ?_
  obtain ⟨gx, p1⟩ := Post.gd p1
  have nx := gd_nx g gx
  have s0 : L2.tyV X.K "list" v H1 := by
    obtain ⟨ts, e2, he⟩ := (Post.bind p1).ok
    have p2 := Post.un (J' := fun _ _ => False) (Post.bind p1)
    rw [he] at p2
    obtain ⟨t, ht, k⟩ := Post.ofO p2
    cases x <;> first | (cases ht; done) | exact lst_ty w1
  refine ⟨s0, F1, B, e1, xs ++ [x], vs ++ [v], Se1, St1, w1, nx, (Post.un (Post.bind p1)).imp fun ts e2 _ p2 ws H2 F2 Se2 St2 hl w2 s2 => ?_⟩
  obtain ⟨t, ht, k⟩ := Post.ofO p2
  exact lmt_ok ok.hK w2 hl ht (Nxt.after k (s1.trans s2))
theorem smt_imp (ok : XOk X Z I nm N sc) {m : Str} {o : IE} {r : IL} {te : TE} (hte : ∀ σ H Q, tL Z I r σ H Q → tCons te tNil σ H Q) : ∀ σ H Q, tT Z I (.smt m o r) σ H Q → tM1 (AnyMS X (smtId m)) (tT Z I o) te σ H Q := fun σ H Q h => by
  obtain ⟨F, B, env, xs, vs, Se, St, w, g, p⟩ := h
  rw [evE] at p
  refine seq1 (R := fun x H1 => (∃ a, x = .str a) ∧ te σ H1 fun y H2 => AnyMS X (smtId m) x [y] H2 Q) w (gd_l g) p fun x e1 v H1 F1 Se1 St1 w1 s1 _ p1 => ?_
  obtain ⟨gx, p1⟩ := Post.gd p1
  have nx := gd_nx g gx
  have tl : tL Z I r σ H1 fun us H2 => match us with | [y] => AnyMS X (smtId m) v [y] H2 Q | _ => True := by
    refine ⟨F1, B, e1, xs ++ [x], vs ++ [v], Se1, St1, w1, nx, (Post.un (Post.bind p1)).imp fun ts e2 _ p2 ws H2 F2 Se2 St2 hl w2 s2 => ?_⟩
    dsimp only
    split
    case h_2 => trivial
    obtain ⟨t, ht, k⟩ := Post.ofO p2
    exact (smt_ok ok.hK w2 hl ht (Nxt.after k (s1.trans s2))).2
  have s0 : ∃ a, v = .str a := by
    obtain ⟨ts, e2, he⟩ := (Post.bind p1).ok
    have p2 := Post.un (J' := fun _ _ => False) (Post.bind p1)
    rw [he] at p2
    obtain ⟨t, ht, k⟩ := Post.ofO p2
    obtain ⟨f1, r1, _⟩ := w1.top1
    cases x <;> first | (cases ht; done) | exact ⟨_, r1.1⟩
  exact ⟨s0, hte σ H1 _ tl⟩
theorem slc_imp (ok : XOk X Z I nm N sc) {a : IE} {lo hi : IO} : ∀ σ H Q, tT Z I (.slc a lo hi) σ H Q → tSl (AnySl X) (tT Z I a) (tOo Z I lo) (tOo Z I hi) σ H Q := fun σ H Q h => by
  obtain ⟨F, B, env, xs, vs, Se, St, w, g, p⟩ := h
  rw [evE] at p
  have gr := gd_r g
  refine seq1 w (gd_l g) p fun x e1 v H1 F1 Se1 St1 w1 s1 _ p1 => ?_
  obtain ⟨gx, p1⟩ := Post.gd p1
  have g2 : (pO I lo && pO I hi) = true ∨ vwL (xs ++ [x]) = false := by
    rcases gx with q | q
    · rcases gr with z | z
      · exact .inl z
      · exact .inr (by rw [vwL_snoc, z, q]; rfl)
    · exact .inl q
  refine ⟨F1, B, e1, xs ++ [x], vs ++ [v], Se1, St1, w1, gd_l g2, (Post.un (Post.bind p1)).imp fun l e2 _ p2 => ?_⟩
  have p2 := Post.bind p2
  obtain ⟨h0, e0, he0⟩ := p2.ok
  have p2 := Post.un (J' := NxtX Z F1 B H1 σ (Se1 ++ St1)) p2
  have p2' := p2
  rw [he0] at p2'
  obtain ⟨t, ht, k⟩ := Post.ofO p2'
  have il : ∃ l' h', intO l = some l' ∧ intO h0 = some h' := by
    unfold slcT at ht
    split at ht
    · exact ⟨_, _, by assumption, by assumption⟩
    · exact ⟨_, _, by assumption, by assumption⟩
    · exact ⟨_, _, by assumption, by assumption⟩
    · cases ht
  obtain ⟨l', h', hl', hh'⟩ := il
  refine ⟨l', hl', fun H2 F2 Se2 St2 w2 s2 => ⟨F2, B, e2, xs ++ [x], vs ++ [v], Se2, St2, w2, gd_r g2, (p2.mono fun _ _ z => NxtX.after z s2).imp fun h1 e3 he p3 => ⟨h', ?_, fun H3 F3 Se3 St3 w3 s3 => ?_⟩⟩⟩
  · rw [he0] at he; cases he; exact hh'
  · rw [he0] at he; cases he
    exact slc_ok ok.hK w3 hl' hh' ht (Nxt.after k ((s1.trans s2).trans s3))
end
end VI

namespace VI
open PySem L2
section
variable {Z : Wo} {I : CI} {nm : Tb} {N : List Str}
theorem var_imp {i : Nat} : ∀ σ H Q, tT Z I (.var i) σ H Q → tVar i σ H Q := fun σ H Q h => by
  obtain ⟨F, B, env, xs, vs, Se, St, w, g, p⟩ := h
  rw [evE] at p
  split at p
  · rename_i t e
    obtain ⟨v, hv, w1⟩ := w.view e
    exact ⟨v, hv, p v H F Se St w1 Step.refl⟩
  · exact p.elim
theorem mov_imp {i : Nat} : ∀ σ H Q, tT Z I (.mov i) σ H Q → tVar i σ H Q := fun σ H Q h => by
  obtain ⟨F, B, env, xs, vs, Se, St, w, g, p⟩ := h
  have nv : vwL xs = false := by rcases g with g | g; cases g; exact g
  rw [evE] at p
  split at p
  · rename_i t e
    obtain ⟨v, Se', St', hv, w1, s1⟩ := w.move nv e
    exact ⟨v, hv, p v H F Se' St' w1 s1⟩
  · exact p.elim
theorem con_imp {ir : IE} {t : T} {v : V} (hi : ImmIs t v) (he : ∀ env, evE I ir env = .ok t env) : ∀ σ H Q, tT Z I ir σ H Q → L2.tC v σ H Q := fun σ H Q h => by
  obtain ⟨F, B, env, xs, vs, Se, St, w, g, p⟩ := h
  rw [he] at p
  exact p v H F Se St (w.push (hi _ _ _)) Step.refl
/-- the call of a def -/
theorem call_imp {X : Cx} {f : Nat} {il : IL} {np : Nat} (hn : (I.md f).length = np) : ∀ σ H Q, tT Z I (.call f il) σ H Q → tCallS (spOf Z I f np) (WE Z.ws) (tAr Z I (I.md f) il) σ H Q := fun σ H Q h => by
  obtain ⟨F, B, env, xs, vs, Se, St, w, g, p⟩ := h
  rw [evE] at p
  refine ⟨F, B, env, xs, vs, Se, St, w, gd_r g, (Post.bind p).imp fun ts e _ p1 ws H1 F1 Se1 St1 hl w1 s1 => ?_⟩
  subst hn
  exact callT_ok w1 hl (gd_l g) ((p1.mono fun _ _ z => NxtX.after z s1).imp fun t e2 _ k => Nxt.after k s1)
theorem starL {es : List Expr} (h : ∀ e ∈ es, ∀ env rest, starEach (e :: rest) env = (false, eval e env) :: starEach rest env) (env : PySem.Env) (pos : Pos) : (backTo pos (starEach es env)).any (·.1) = false := by
  induction es with
  | nil => rfl
  | cons e es ih =>
    rw [h e List.mem_cons_self]
    have := ih fun e' h' => h e' (List.mem_cons_of_mem _ h')
    show (false || (backTo pos (starEach es env)).any (·.1)) = false
    rw [this]; rfl
theorem Post.nb {α β : Type} {J : Xn → Env → Prop} {m : Out α} {g : α → Env → Out β} {K : β → Env → Prop} (h : Post J (m.noX.bind g) K) : Post J (m.bind g) K := by
  cases m with | ok a e => exact h | exc x e => exact h.elim | stuck => exact h
theorem Post.nb2 {α β γ : Type} {J : Xn → Env → Prop} {m : Out α} {n : α → Env → Out β} {g : α → β → Env → Out γ} {v : α → Bool} {p : Bool} {K : γ → Env → Prop}
    (h : Post J (m.noX.bind fun x e1 => VI.gd (v x) p ((n x e1).noX.bind (g x))) K) : Post J (m.bind fun x e1 => VI.gd (v x) p ((n x e1).bind (g x))) K := by
  refine Post.nb ?_
  revert h
  cases m with
  | exc x e => exact id
  | stuck => exact id
  | ok a e =>
    show Post J (VI.gd _ _ _) K → Post J (VI.gd _ _ _) K
    unfold VI.gd
    split
    · exact id
    · exact Post.nb
theorem Post.okN {α β : Type} {J : Xn → Env → Prop} {m : Out α} {g : α → Env → Out β} {K : β → Env → Prop} (h : Post J (m.noX.bind g) K) : ∃ x e, m = .ok x e := by
  cases m with | ok a e => exact ⟨a, e, rfl⟩ | exc x e => exact h.elim | stuck => exact h.elim
/-- sources of loops -/
theorem seq_imp {X : Cx} {sc : Scope} (ok : XOk X Z I nm N sc) {a : IE} : ∀ σ H R, tI Z I (.seq a) σ H R → (iList X.K (tT Z I a) σ H R ∨ (iTup X.K (tT Z I a) σ H R ∨ iStr (tT Z I a) σ H R)) := fun σ H R h => by
  obtain ⟨F, B, env, xs, vs, Se, St, w, nv, p⟩ := h
  rw [evIT] at p
  obtain ⟨x, e1, he⟩ := Post.okN p
  have p := Post.nb p
  have go : ∀ (R' : V → Hp → Prop), (∀ v H1 F1 Se1 St1, Rep Z ⟨F1, B, fun _ => False⟩ H1 (x.mapF Fl.fre) v [] → Wd Z F1 B H1 σ e1 xs vs Se1 St1 → Step F H (Se ++ St) F1 H1 (Se1 ++ St1) → x.vw = false → (∃ its, itemsT (x.mapF Fl.fre) = some its ∧
      ∀ J P H' F' Se' St', P H' → IterOk Z F' B J P its → Wd Z F' B H' σ e1 xs vs Se' St' → Step F H (Se ++ St) F' H' (Se' ++ St') → R J H') → R' v H1) → tT Z I a σ H R' := fun R' hR => by
    refine seq1 w (.inr nv) p fun x' e1' v H1 F1 Se1 St1 w1 s1 he' p1 => ?_
    rw [he] at he'; cases he'
    split at p1
    · exact p1.elim
    rename_i nvx
    obtain ⟨its, hits, k⟩ := Post.ofO p1
    obtain ⟨F2, St2, w2, r2, s2⟩ := w1.frozen (by simpa using nvx)
    exact hR v H1 F2 Se1 St2 r2 w2 (s1.trans s2) (by simpa using nvx) ⟨its, hits, k⟩
  cases x with
  | lst f ys =>
    refine .inl (go _ fun v H1 F1 Se1 St1 r w1 s1 nvx ⟨its, hits, k⟩ => ?_)
    cases hits
    obtain ⟨q, ps, fp', rfl, ha, hp, e0, _, ra⟩ := r
    have nf : Fl.fre f ≠ .own := by cases f <;> decide
    have : fp' = [] := by rw [hd_ne nf] at e0; simpa using e0.symm
    subst this
    refine ⟨q, rfl, ⟨ps, SqL.of hp⟩, ?_⟩
    rw [ok.hK]
    exact k _ _ H1 F1 Se1 St1 ⟨ps, hp, ra⟩ (iter_list nf ha) w1 s1
  | scr ns =>
    refine .inl (go _ fun v H1 F1 Se1 St1 r w1 s1 nvx ⟨its, hits, k⟩ => ?_)
    cases hits
    obtain ⟨q, rfl, hs, _⟩ := r
    refine ⟨q, rfl, ⟨_, by rw [ok.hK]; exact scr_sq hs⟩, ?_⟩
    rw [ok.hK]
    exact k _ _ H1 F1 Se1 St1 hs iter_scr w1 s1
  | tup ys =>
    refine .inr (.inl (go _ fun v H1 F1 Se1 St1 r w1 s1 nvx ⟨its, hits, k⟩ => ?_))
    cases hits
    obtain ⟨q, ps, rfl, hp, ra⟩ := r
    refine ⟨q, rfl, ⟨ps, by rw [ok.hK]; exact hp⟩, ?_⟩
    rw [ok.hK]
    exact k _ _ H1 F1 Se1 St1 ⟨ps, hp, ra⟩ iter_tup w1 s1
  | str s =>
    refine .inr (.inr (go _ fun v H1 F1 Se1 St1 r w1 s1 nvx ⟨its, hits, k⟩ => ?_))
    cases hits
    obtain rfl := r.1
    exact ⟨s, rfl, k _ _ H1 F1 Se1 St1 trivial iter_str w1 s1⟩
  | _ =>
    refine .inl (go _ fun v H1 F1 Se1 St1 r w1 s1 nvx ⟨its, hits, k⟩ => ?_)
    cases hits
theorem rng1_imp {a : IE} : ∀ σ H R, tI Z I (.rng1 a) σ H R → iRng1 (tCons (tT Z I a) tNil) σ H R := fun σ H R h => by
  obtain ⟨F, B, env, xs, vs, Se, St, w, nv, p⟩ := h
  rw [evIT] at p
  have p := Post.nb p
  refine seq1 (R := fun x H1 => ∃ j : Int, [x] = [V.int j] ∧ -(2 ^ 62) ≤ j ∧ j < 2 ^ 62 ∧ R (Itr 0 j.toNat) H1) w (.inr nv) p fun x e1 v H1 F1 Se1 St1 w1 s1 he p1 => ?_
  obtain ⟨f0, f2, rfl, r, w0⟩ := w1.pop
  cases x <;> first | exact p1.elim | skip
  rename_i i
  obtain rfl := r.1
  dsimp only at p1
  split at p1
  · rename_i hi
    exact ⟨i, rfl, hi.1, hi.2, p1 _ _ H1 F1 Se1 f0 trivial (iter_rng (a := 0) (b := i) (by simp)) w0 (s1.trans (Step.le fun a => by simp))⟩
  · exact p1.elim
theorem rng2_imp {a b : IE} : ∀ σ H R, tI Z I (.rng2 a b) σ H R → iRng2 (tCons (tT Z I a) (tCons (tT Z I b) tNil)) σ H R := fun σ H R h => by
  obtain ⟨F, B, env, xs, vs, Se, St, w, nv, p⟩ := h
  rw [evIT] at p
  have p := Post.nb2 p
  refine seq2 (R := fun x y H1 => ∃ i j : Int, [x, y] = [V.int i, .int j] ∧ (-(2 ^ 62) ≤ i ∧ i < 2 ^ 62 ∧ -(2 ^ 62) ≤ j ∧ j < 2 ^ 62) ∧ R (Itr i (j - i).toNat) H1) w (.inr nv) p fun x y e1 v u H1 F1 Se1 St1 w1 s1 p1 => ?_
  obtain ⟨f0, f2, rfl, r, w0⟩ := w1.two.split' rfl
  obtain ⟨g1, g2, rfl, r1, r2⟩ := r.two
  split at p1
  · obtain rfl := r1.1; obtain rfl := r2.1
    split at p1
    · rename_i i j hi
      exact ⟨i, j, rfl, ⟨hi.1.1, hi.1.2, hi.2.1, hi.2.2⟩, p1 _ _ H1 F1 Se1 f0 trivial (iter_rng rfl) w0 (s1.trans (Step.le fun a => by simp))⟩
    · exact p1.elim
  · exact p1.elim
theorem fre_lst {x : T} {ys : List T} {f : Fl} (h : x.mapF Fl.fre = .lst f ys) : f ≠ .own := by
  cases x <;> first | (cases h; done) | skip
  rename_i f0 zs
  have h : T.lst (Fl.fre f0) (T.mapFL Fl.fre zs) = .lst f ys := h
  cases h
  cases f0 <;> decide
theorem enu_imp {X : Cx} {sc : Scope} (ok : XOk X Z I nm N sc) {a : IE} : ∀ σ H R, tI Z I (.enu a) σ H R → iEnum X.K (tCons (tT Z I a) tNil) σ H R := fun σ H R h => by
  obtain ⟨F, B, env, xs, vs, Se, St, w, nv, p⟩ := h
  rw [evIT] at p
  have p := Post.nb p
  refine seq1 (R := fun x H1 => ∃ a xs, [x] = [V.ref a] ∧ SqL X.K H1 a xs ∧ R (Ite X.K a) H1) w (.inr nv) p fun x e1 v H1 F1 Se1 St1 w1 s1 _ p1 => ?_
  split at p1
  · exact p1.elim
  rename_i nvx
  obtain ⟨F2, St2, w2, r2, s2⟩ := w1.frozen (by simpa using nvx)
  split at p1
  · rename_i f0 ys hx
    rw [hx] at r2
    have nf := fre_lst hx
    obtain ⟨q, ps, fp', rfl, ha, hp, e0, _, ra⟩ := r2
    have : fp' = [] := by rw [hd_ne nf] at e0; simpa using e0.symm
    subst this
    refine ⟨q, ps, rfl, SqL.of hp, ?_⟩
    rw [ok.hK]
    exact p1 _ _ H1 F2 Se1 St2 ⟨ps, hp, ra⟩ (iter_enu nf ha) w2 (s1.trans s2)
  · exact p1.elim
theorem zip_imp {X : Cx} {sc : Scope} (ok : XOk X Z I nm N sc) {a b : IE} : ∀ σ H R, tI Z I (.zip a b) σ H R → iZip X.K (tCons (tT Z I a) (tCons (tT Z I b) tNil)) σ H R := fun σ H R h => by
  obtain ⟨F, B, env, xs, vs, Se, St, w, nv, p⟩ := h
  rw [evIT] at p
  have p := Post.nb2 p
  refine seq2 (R := fun x y H1 => ∃ a b xs ys, [x, y] = [V.ref a, .ref b] ∧ SqL X.K H1 a xs ∧ SqL X.K H1 b ys ∧ R (Itz X.K a b) H1) w (.inr nv) p fun x y e1 v u H1 F1 Se1 St1 w1 s1 p1 => ?_
  split at p1
  · exact p1.elim
  rename_i nvx
  simp only [Bool.or_eq_true, not_or, Bool.not_eq_true] at nvx
  obtain ⟨F2, St2, w2, r2, s2⟩ := w1.frozen nvx.2
  obtain ⟨F3, St3, w3, r3, s3⟩ := w2.frozen nvx.1
  have r2 : Rep Z ⟨F3, B, fun _ => False⟩ H1 (y.mapF Fl.fre) u [] := Rep.mono (G := ⟨F2, B, fun _ => False⟩) (G' := ⟨F3, B, fun _ => False⟩) s3.fF (fun _ h => h) (fun _ h => h) _ _ _ r2 fun a o h _ => h
  split at p1
  · rename_i f0 ys g0 zs hx hy
    rw [hx] at r3
    rw [hy] at r2
    have nf := fre_lst hx
    have ng := fre_lst hy
    obtain ⟨q, ps, fp', rfl, ha, hp, e0, _, ra⟩ := r3
    obtain ⟨q', ps', fq', rfl, hb, hq, e0', _, rb⟩ := r2
    have : fp' = [] := by rw [hd_ne nf] at e0; simpa using e0.symm
    subst this
    have : fq' = [] := by rw [hd_ne ng] at e0'; simpa using e0'.symm
    subst this
    refine ⟨q, q', ps, ps', rfl, SqL.of hp, SqL.of hq, ?_⟩
    rw [ok.hK]
    exact p1 _ _ H1 F3 Se1 St3 ⟨⟨ps, hp, ra⟩, ⟨ps', hq, rb⟩⟩ (iter_zip nf ha ng hb) w3 ((s1.trans s2).trans s3)
  · exact p1.elim
end
end VI

namespace VI
open PySem L2
section
variable {X : Cx} {Z : Wo} {I : CI} {nm : Tb} {N : List Str} {sc : Scope}
variable {F B : Addr → Prop} {H : Hp} {σ : L2.St} {env : Env} {xs ys : List T} {vs ws : List V} {Se St : List Addr} {t x y : T} {v u : V} {Q : VK}
/-! a field is read -/
theorem lookup_zip : ∀ {fl : List Str} {us : List V} {k : Nat} {x : Str} {u : V}, fl.Nodup → fl[k]? = some x → us[k]? = some u → (fl.zip us).lookup x = some u
  | [], _, _, _, _, _, h, _ => by simp at h
  | _ :: _, [], _, _, _, _, _, h => by simp at h
  | f :: fl, w :: us, 0, x, u, _, h1, h2 => by
    simp at h1 h2
    subst h1 h2
    rw [List.zip_cons_cons, List.lookup_cons]
    simp
  | f :: fl, w :: us, k + 1, x, u, hn, h1, h2 => by
    obtain ⟨n1, n2⟩ := List.nodup_cons.mp hn
    have h1' : fl[k]? = some x := by simpa using h1
    have : (x == f) = false := by
      rw [beq_eq_false_iff_ne]
      rintro rfl
      exact n1 (List.mem_of_getElem? h1')
    rw [List.zip_cons_cons, List.lookup_cons, this]
    exact lookup_zip n2 h1' (by simpa using h2)
theorem lookup_not : ∀ {fl : List Str} {us : List V} {x : Str}, x ∉ fl → (fl.zip us).lookup x = none
  | [], _, _, _ => rfl
  | _ :: _, [], _, _ => rfl
  | f :: fl, w :: us, x, h => by
    simp only [List.mem_cons, not_or] at h
    have : (x == f) = false := by rw [beq_eq_false_iff_ne]; exact h.1
    rw [List.zip_cons_cons, List.lookup_cons, this]
    exact lookup_not h.2
theorem fld_imp (ok : XOk X Z I nm N sc) {c k : Nat} {x : Str} {a : IE} (hx : (nm.fl c)[k]? = some x) : ∀ σ H Q, tT Z I (.fld c k a) σ H Q → tFld X.K (tT Z I a) x σ H Q := fun σ H Q h => by
  obtain ⟨F, B, env, xs, vs, Se, St, w, g, p⟩ := h
  rw [evE] at p
  refine seq1 (R := fun v H1 => ∃ a C dx fs y, v = .ref a ∧ H1 a = some (.ins C dx fs) ∧ Cls X.K C ∧ NoAttr X.K C x ∧ fs.lookup x = some y ∧ Q y H1) w g p fun z e1 v H1 F1 Se1 St1 w1 s1 _ p1 => ?_
  obtain ⟨t, ht, kk⟩ := Post.ofO p1
  obtain ⟨f1, r, tp⟩ := w1.top1
  unfold fldT at ht
  split at ht
  case h_2 => cases ht
  rename_i f c' us
  split at ht
  case isFalse => cases ht
  rename_i ec
  subst ec
  obtain ⟨p, dx, ps, fp', rfl, _, l, hp, rfl, _, rl⟩ := r
  obtain ⟨q, f1, f2, f3, hq, rfl, rq⟩ := rl.get ht
  obtain ⟨k1, k2⟩ := ok.fld _ _ _ hx
  refine ⟨p, _, dx, _, q, rfl, hp, k1, k2, ?_, (Nxt.after kk s1).part tp (fun a => by simp; omega) rq⟩
  rw [ok.hfl]
  exact lookup_zip (ok.few _).2 hx hq
/-! a dict is displayed -/
def trsOf (Z : Wo) (I : CI) : List Str → IL → List (TE × TE)
  | s :: ks, .cons e r => (L2.tC (.str s), tT Z I e) :: trsOf Z I ks r
  | _, _ => []
def ilen : IL → Nat | .nil => 0 | .cons _ r => ilen r + 1
theorem tL_mono {il : IL} {Q Q' : List V → Hp → Prop} {σ : L2.St} {H : Hp} (h : tL Z I il σ H Q) (k : ∀ v H, Q v H → Q' v H) : tL Z I il σ H Q' := by
  obtain ⟨F, B, env, xs, vs, Se, St, w, g, p⟩ := h
  exact ⟨F, B, env, xs, vs, Se, St, w, g, p.imp fun t e _ q v H' F' Se' St' l w' s' => k v H' (q v H' F' Se' St' l w' s')⟩
theorem pairs_of : ∀ (ks : List Str) (il : IL) (σ : L2.St) (H : Hp) (Q : List V → Hp → Prop) (Qp : List (V × V) → Hp → Prop), ilen il = ks.length → tL Z I il σ H Q → (∀ ws H2, Q ws H2 → Qp ((ks.map V.str).zip ws) H2) → tPairs (trsOf Z I ks il) σ H Qp
  | [], .nil, σ, H, Q, Qp, _, h, k => k [] H (tL_nil σ H Q h)
  | s :: ks, .cons e r, σ, H, Q, Qp, hl, h, k => tT_mono (tL_cons σ H Q h) fun x H1 h1 => pairs_of ks r σ H1 _ _ (by simpa [ilen] using hl) h1 fun ws H2 q => k (x :: ws) H2 q
  | [], .cons _ _, _, _, _, _, hl, _, _ => by simp [ilen] at hl
  | _ :: _, .nil, _, _, _, _, hl, _, _ => by simp [ilen] at hl
theorem mergeK_new : ∀ (ks : List Key) (ws : List V) (acc : List (Key × V)), ks.length = ws.length → ks.Nodup → (∀ k ∈ ks, k ∉ acc.map (·.1)) → mergeK acc (ks.zip ws) = acc ++ ks.zip ws
  | [], _, acc, _, _, _ => by simp [mergeK]
  | _ :: _, [], _, h, _, _ => by simp at h
  | k :: ks, w :: ws, acc, hl, hn, h => by
    obtain ⟨n1, n2⟩ := List.nodup_cons.mp hn
    have e : putK acc k w = acc ++ [(k, w)] := by
      unfold putK
      rw [if_neg]
      intro z
      obtain ⟨p, hp, e⟩ := List.any_eq_true.mp z
      exact h k List.mem_cons_self (List.mem_map.mpr ⟨p, hp, of_decide_eq_true e⟩)
    show mergeK (putK acc k w) (ks.zip ws) = _
    rw [e, mergeK_new ks ws _ (by simpa using hl) n2 fun a ha => ?_]
    · simp
    · rw [List.map_append, List.mem_append, not_or]
      refine ⟨h a (List.mem_cons_of_mem _ ha), ?_⟩
      simp
      rintro rfl
      exact n1 ha
/-- an own dict at hand is filled -/
theorem Wd.fillDic {p : Addr} {ks : List Key} (w : Wd Z F B H σ env (xs ++ [.dic .own [] []] ++ ys) (vs ++ [.ref p] ++ ws) Se St) (hl : ys.length = ws.length) (hk : ks.length = ws.length ∧ ks.Nodup) :
    H p = some (.dK []) ∧ ∃ St', Wd Z F B (upd H p (.dK (ks.zip ws))) σ env (xs ++ [.dic .own ks ys]) (vs ++ [.ref p]) Se St' ∧ Step F H (Se ++ St) F (upd H p (.dK (ks.zip ws))) (Se ++ St') := by
  have w' : Wd Z F B H σ env (xs ++ ([.dic .own [] []] ++ ys)) (vs ++ ([.ref p] ++ ws)) Se St := by simpa [List.append_assoc] using w
  obtain ⟨f1, f2, rfl, r, w2⟩ := w'.split' (by simp [hl])
  obtain ⟨v', vs', g1, g2, e, rfl, r1, r2⟩ := (show RepL Z ⟨F, B, fun a => 0 < cn a Se⟩ H (.dic .own [] [] :: ys) (.ref p :: ws) f2 from r)
  cases e
  obtain ⟨q, ps, fp', e, _, l, hp, rfl, _, ra⟩ := r1
  cases e
  obtain ⟨rfl, rfl⟩ := ra
  have hp := hp.own
  refine ⟨hp, ?_⟩
  have nd := w.nd
  have cp : cn p Se = 0 ∧ cn p f1 = 0 ∧ cn p g2 = 0 := by have := nd p; simp [hd_own] at this; omega
  have nFB : ¬ (F p ∨ B p) := fun h => by have := w.dj p h; simp [hd_own] at this
  have other : ∀ a o, H a = some o → a ≠ p → upd H p (.dK (ks.zip ws)) a = some o := fun a o h n => by rw [upd_ne n]; exact h
  have away : ∀ (S0 : List Addr) (W : Addr → Prop), cn p S0 = 0 → ¬ W p → ∀ a o, H a = some o → Leans ⟨F, B, W⟩ S0 a o → upd H p (.dK (ks.zip ws)) a = some o := fun S0 W h0 hW a o h l => by
    refine other a o h fun z => ?_
    subst z
    rw [hp] at h; cases h
    rcases l with l | l | l | l | l
    · exact l trivial
    · have := cn_pos.mpr l; omega
    · exact nFB (.inl l)
    · exact nFB (.inr l)
    · exact hW l
  have nW : ¬ (0 < cn p Se) := by omega
  refine ⟨f1 ++ (p :: g2), ⟨EnvRep.mono (fun _ h => h) (fun _ h => h) (fun _ h => h) w2.er (away Se _ cp.1 fun z => z), ?_, fun a => ?_, fun a h => ?_, fun a h => ?_⟩, ⟨fun _ h => h, fun a o h z => ?_, fun a o h => ?_, fun a h => ?_, fun _ h => .inl h⟩⟩
  · refine (RepL.mono (fun _ h => h) (fun _ h => h) (fun _ h => h) xs vs f1 w2.tr (away f1 _ cp.2.1 nW)).append (RepL.one.mpr ⟨p, ws, g2, rfl, trivial, hk, .inl upd_same, rfl, fun z => absurd rfl z, ?_⟩)
    exact RepL.mono (fun _ h => h) (fun _ h => h) (fun _ h => h) _ _ _ r2 (away g2 _ cp.2.2 nW)
  · have h1 := nd a; simp [hd_own] at h1 ⊢; omega
  · have h1 := w.dj a h; simp only [hd_own, cn_append, cn_cons, cn_nil] at h1 ⊢; omega
  · obtain ⟨o, ho⟩ := w.al a h
    by_cases q : a = p
    · subst q; exact ⟨_, upd_same⟩
    · exact ⟨o, other a o ho q⟩
  · refine other a o h fun q => ?_
    subst q
    simp [hd_own] at z
  · by_cases q : a = p
    · subst q; exact ⟨_, upd_same⟩
    · exact ⟨o, other a o h q⟩
  · simp [hd_own] at h ⊢
    left; omega
theorem zip_kv : ∀ (ks : List Str) (ws : List V), (ks.map V.str).zip ws = (((ks.map Sum.inr : List Key)).zip ws).map fun kv => (kV kv.1, kv.2)
  | [], _ => rfl
  | _ :: _, [] => rfl
  | s :: ks, w :: ws => by
    simp only [List.map_cons, List.zip_cons_cons, List.cons.injEq]
    exact ⟨rfl, zip_kv ks ws⟩
theorem dct_imp {ks : List Str} {il : IL} (hk : ilen il = ks.length) : ∀ σ H Q, tT Z I (.dct ks il) σ H Q → tDisp (trsOf Z I ks il) σ H Q := fun σ H Q h p hp => by
  obtain ⟨F, B, env, xs, vs, Se, St, w, g, p0⟩ := h
  rw [evE] at p0
  have w' : Wd Z F B H σ env (xs ++ []) (vs ++ []) Se St := by simpa using w
  obtain ⟨St1, w1, s1⟩ := w'.newDic (ys := []) (ws := []) (ks := []) rfl ⟨rfl, List.nodup_nil⟩ hp
  refine pairs_of ks il σ _ (fun ws H2 => H2 p = some (.dK []) ∧ (ws.length = ks.length ∧ ((ks.map Sum.inr : List Key)).Nodup ∧ ks.length ≤ 15) ∧ Q (.ref p) (upd H2 p (.dK (((ks.map Sum.inr : List Key)).zip ws)))) _ hk ⟨F, B, env, _, _, Se, St1, w1, ?_, ((Post.bind p0).mono fun _ _ z => NxtX.after z s1).imp fun ts e _ p1 ws H2 F2 Se2 St2 hl w2 s2 => ?_⟩ fun ws H2 ⟨h1, ⟨h2, h4, h5⟩, h3⟩ => ?_
  · rcases g with g | g
    · exact .inl g
    · exact .inr (by rw [vwL_snoc, g]; rfl)
  · split at p1
    · exact p1.elim
    rename_i hc
    simp only [Bool.or_eq_true, not_or, Bool.not_eq_true, Bool.not_eq_false', decide_eq_true_eq] at hc
    obtain ⟨⟨⟨c1, c2⟩, c3⟩, c4⟩ := hc
    have hkw : ((ks.map Sum.inr : List Key)).length = ws.length := by rw [List.length_map, ← hl, c2]
    obtain ⟨hp2, St3, w3, s3⟩ := w2.fillDic hl ⟨hkw, c3⟩
    exact ⟨hp2, ⟨by rw [← hl, c2], c3, by omega⟩, p1 _ _ F2 Se2 St3 w3 ((s1.trans s2).trans s3)⟩
  · have n1 : ((ks.map Sum.inr : List Key)).length = ws.length := by simp [h2]
    refine ⟨h1, ((ks.map Sum.inr : List Key)).zip ws, ?_, by rw [List.length_zip, List.length_map]; omega, ?_⟩
    · exact zip_kv ks ws
    · rw [mergeK_new _ _ _ n1 h4 (by simp)]
      exact h3
end
end VI

namespace VI
open PySem L2
section
variable {X : Cx} {Z : Wo} {I : CI} {nm : Tb} {N : List Str} {sc : Scope}
variable {F B : Addr → Prop} {H : Hp} {σ : L2.St} {env : Env} {xs ys : List T} {vs ws : List V} {Se St : List Addr} {t x y : T} {v u : V} {Q : VK}
/-! own methods -/
theorem isC_rep {c : Nat} {G : Sh} {f1 : List Addr} (h : isC c x = true) (r : Rep Z G H x v f1) (hfl : Z.fl = nm.fl) {m : Str} (hm : m ∉ nm.fl c) : ∃ a dx fs, v = .ref a ∧ H a = some (.ins (Z.cls c) dx fs) ∧ fs.lookup m = none := by
  unfold isC at h
  split at h
  · rename_i f c' us
    obtain rfl := beq_iff_eq.mp h
    obtain ⟨p, dx, ps, fp', rfl, _, l, hp, _⟩ := r
    exact ⟨p, dx, _, rfl, hp, lookup_not (by rw [hfl]; exact hm)⟩
  · cases h
theorem meth_bor (ok : XOk X Z I nm N sc) {c f : Nat} {mn : Str} {m : Md} {ms : List Md} {o : IE} {il : IL} {np : Nat} (hmd : I.md f = m :: ms) (hio : m ≠ .io) (hn : (I.md f).length = np) (hnot : mn ∉ nm.fl c) {ta : TA} (hta : ∀ σ H Q, tAr Z I ms il σ H Q → ta σ H Q) :
    ∀ σ H Q, tT Z I (.meth c f o il) σ H Q → tMethS (Z.cls c) mn (spOf Z I f np) (WE Z.ws) (tT Z I o) ta σ H Q := fun σ H Q h => by
  obtain ⟨F, B, env, xs, vs, Se, St, w, g, p⟩ := h
  have ev : evE I (.meth c f o il) env = (evE I o env).bind fun x e1 => if isC c x then gd x.vw (pL I il) ((evA I ms il e1).bind fun ts e2 => callT I f (.cons o il) (x :: ts) e2) else .stuck := by
    rw [evE, hmd]
    cases m <;> first | exact absurd rfl hio | rfl
  rw [ev] at p
  have g' : (!anyIo (I.md f)) = true ∨ vwL xs = false := gd_l g
  have g2 := gd_r g
  refine seq1 (R := fun v H1 => ∃ a dx fs, v = .ref a ∧ H1 a = some (.ins (Z.cls c) dx fs) ∧ fs.lookup mn = none ∧ ta σ H1 fun vs H2 => spOf Z I f np (v :: vs) H2 Q (WE Z.ws σ)) w (gd_l g2) p fun x e1 v H1 F1 Se1 St1 w1 s1 _ p1 => ?_
  split at p1
  case isFalse => exact p1.elim
  rename_i hc
  obtain ⟨f1, r, tp⟩ := w1.top1
  obtain ⟨a, dx, fs, rfl, h1, h2⟩ := isC_rep hc r ok.hfl hnot
  obtain ⟨gx, p1⟩ := Post.gd p1
  refine ⟨a, dx, fs, rfl, h1, h2, hta _ _ _ ⟨F1, B, e1, _, _, Se1, St1, w1, gd_nx g2 gx, (Post.bind p1).imp fun ts e2 _ p2 ws H2 F2 Se2 St2 hl w2 s2 => ?_⟩⟩
  have pt : ptrs σ (I.md f) (.cons o il) (x :: ts) = x :: ptrs σ ms il ts := by rw [hmd]; cases m <;> first | exact absurd rfl hio | rfl
  subst hn
  refine callT_ok (il := .cons o il) (ts := x :: ts) ?_ (by rw [pt]; simpa using hl) g' ((p2.mono fun _ _ z => NxtX.after z s2).imp fun t e3 _ k => Nxt.after k (s1.trans s2))
  rw [pt]
  simpa [List.append_assoc] using w2
theorem meth_io (ok : XOk X Z I nm N sc) {c f i : Nat} {mn : Str} {ms : List Md} {il : IL} {np : Nat} (hmd : I.md f = .io :: ms) (hn : (I.md f).length = np) (hnot : mn ∉ nm.fl c) {ta : TA} (hta : ∀ σ H Q, tAr Z I ms il σ H Q → ta σ H Q) :
    ∀ σ H Q, tT Z I (.meth c f (.var i) il) σ H Q → tMethS (Z.cls c) mn (spOf Z I f np) (WE Z.ws) (tVar i) ta σ H Q := fun σ H Q h => by
  obtain ⟨F, B, env, xs, vs, Se, St, w, g, p⟩ := h
  rw [evE, hmd] at p
  dsimp only at p
  have ga : vwL xs = false := by
    rcases g with z | z
    · rw [pE, hmd] at z; simp [anyIo] at z
    · exact z
  split at p
  case h_2 => exact p.elim
  rename_i c' us0 e0
  split at p
  case isFalse => exact p.elim
  rename_i ec
  subst ec
  obtain ⟨v, hv, wv⟩ := w.view e0
  obtain ⟨f1, r, tp⟩ := wv.top1
  obtain ⟨a, dx, fs, rfl, h1, h2⟩ := isC_rep (c := c') (by show (c' == c') = true; simp) r ok.hfl hnot
  refine ⟨.ref a, hv, a, dx, fs, rfl, h1, h2, hta _ _ _ ⟨F, B, env, xs ++ [.ptr (.ref a)], vs ++ [.ref a], Se, St, w.push (show Rep Z _ H (.ptr (.ref a)) (.ref a) [] from ⟨rfl, rfl⟩), .inr (by rw [vwL_snoc, ga]; rfl), (Post.bind p).imp fun ts e2 _ p2 ws H2 F2 Se2 St2 hl w2 s2 => ?_⟩⟩
  have pt : ptrs σ (I.md f) (.cons (.var i) il) (.non :: ts) = .ptr (.ref a) :: ptrs σ ms il ts := by
    rw [hmd]
    show T.ptr (((σ[i]?).getD none).getD .non) :: _ = _
    rw [hv]; rfl
  subst hn
  refine callT_ok (il := .cons (.var i) il) (ts := .non :: ts) ?_ (by rw [pt]; simpa using hl) (.inr ga) ((p2.mono fun _ _ z => NxtX.after z s2).imp fun t e3 _ k => Nxt.after k s2)
  rw [pt]
  simpa [List.append_assoc] using w2
/-! an instance is made -/
theorem EnvRep.snoc {G : Sh} : ∀ {σ : L2.St} {env : Env} {S : List Addr} {v : V} {t : T} {fp : List Addr}, EnvRep Z G H σ env S → Rep Z G H t v fp → EnvRep Z G H (σ ++ [some v]) (env ++ [some t]) (S ++ fp) := fun {σ} => by
  induction σ with
  | nil =>
    intro env S v t fp h r
    obtain ⟨rfl, rfl⟩ := h
    exact ⟨some t, [], rfl, v, fp, [], rfl, by simp, r, rfl, rfl⟩
  | cons vo σ ih =>
    intro env S v t fp h r
    obtain ⟨to, env', rfl, h⟩ := h
    cases to with
    | none => exact ⟨none, env' ++ [some t], rfl, ih h r⟩
    | some u =>
      obtain ⟨w, f1, S', rfl, rfl, q, h⟩ := h
      exact ⟨some u, env' ++ [some t], rfl, w, f1, S' ++ fp, rfl, by rw [List.append_assoc], q, ih h r⟩
theorem EnvRep.unsnoc {G : Sh} : ∀ {σ : L2.St} {env : Env} {S : List Addr} {v : V} {t : T}, EnvRep Z G H (σ ++ [some v]) (env ++ [some t]) S → σ.length = env.length → ∃ S1 fp, S = S1 ++ fp ∧ EnvRep Z G H σ env S1 ∧ Rep Z G H t v fp := fun {σ} => by
  induction σ with
  | nil =>
    intro env S v t h hl
    have : env = [] := List.length_eq_zero_iff.mp hl.symm
    subst this
    obtain ⟨to, env', e, h⟩ := h
    cases e
    obtain ⟨w, f1, S', e, rfl, q, h⟩ := h
    cases e
    obtain ⟨_, rfl⟩ := h
    exact ⟨[], f1, by simp, ⟨rfl, rfl⟩, q⟩
  | cons vo σ ih =>
    intro env S v t h hl
    cases env with
    | nil => simp at hl
    | cons to env =>
      obtain ⟨to', env', e, h⟩ := h
      cases e
      cases to with
      | none =>
        obtain ⟨S1, fp, rfl, a, b⟩ := ih h (by simpa using hl)
        exact ⟨S1, fp, rfl, ⟨none, env, rfl, a⟩, b⟩
      | some u =>
        obtain ⟨w, f1, S', rfl, rfl, q, h⟩ := h
        obtain ⟨S1, fp, rfl, a, b⟩ := ih h (by simpa using hl)
        exact ⟨f1 ++ S1, fp, by rw [List.append_assoc], ⟨some u, env, rfl, w, f1, S1, rfl, rfl, q, a⟩, b⟩
theorem prep_env : ∀ {ms : List Md} {il : IL} {ts us : List T} {e e1 : Env}, anyIo ms = false → prep ms il ts e = some (us, e1) → e1 = e ∧ ∀ e', prep ms il ts e' = some (us, e') := fun {ms} => by
  induction ms with
  | nil => intro il ts us e e1 _ h; cases il <;> cases ts <;> cases h; exact ⟨rfl, fun _ => rfl⟩
  | cons m ms ih =>
    intro il ts us e e1 hi h
    rw [anyIo, Bool.or_eq_false_iff] at hi
    cases il with
    | nil => cases m <;> cases ts <;> cases h
    | cons x il =>
      cases ts with
      | nil => cases m <;> cases x <;> cases h
      | cons t ts =>
        cases m with
        | bor =>
          rw [prep] at h
          obtain ⟨p, hp, e⟩ := map_some h
          cases e
          obtain ⟨a, b⟩ := ih (us := p.1) (e1 := p.2) hi.2 hp
          exact ⟨a, fun e' => by rw [prep, b e']; rfl⟩
        | frz =>
          rw [prep] at h
          split at h
          · cases h
          rename_i nv
          obtain ⟨p, hp, e⟩ := map_some h
          cases e
          obtain ⟨a, b⟩ := ih (us := p.1) (e1 := p.2) hi.2 hp
          exact ⟨a, fun e' => by rw [prep, if_neg nv, b e']; rfl⟩
        | io => cases hi.1
theorem ptrs_noio : ∀ {ms : List Md} {il : IL} {ts us : List T} {e e1 : Env} {σ : L2.St}, anyIo ms = false → prep ms il ts e = some (us, e1) → ptrs σ ms il ts = ts := fun {ms} => by
  induction ms with
  | nil => intro il ts us e e1 σ _ h; cases il <;> cases ts <;> cases h; rfl
  | cons m ms ih =>
    intro il ts us e e1 σ hi h
    rw [anyIo, Bool.or_eq_false_iff] at hi
    cases il with
    | nil => cases m <;> cases ts <;> cases h
    | cons x il =>
      cases ts with
      | nil => cases m <;> cases x <;> cases h
      | cons t ts =>
        cases m with
        | bor =>
          rw [prep] at h
          obtain ⟨p, hp, e⟩ := map_some h
          show t :: ptrs σ ms il ts = _
          rw [ih (us := p.1) (e1 := p.2) hi.2 hp]
        | frz =>
          rw [prep] at h
          split at h
          · cases h
          obtain ⟨p, hp, e⟩ := map_some h
          show t :: ptrs σ ms il ts = _
          rw [ih (us := p.1) (e1 := p.2) hi.2 hp]
        | io => cases hi.1
theorem putb_no : ∀ {ms : List Md} {xs : IL} {ts us : List T} {e e1 e2 : Env}, anyIo ms = false → prep ms xs ts e = some (us, e1) → putb ms xs [] e2 = some e2
  | [], .nil, ts, us, e, e1, e2, h0, h => rfl
  | [], .cons _ _, ts, us, e, e1, e2, h0, h => by cases ts <;> cases h
  | .bor :: ms, .nil, ts, us, e, e1, e2, h0, h => by cases ts <;> cases h
  | .frz :: ms, .nil, ts, us, e, e1, e2, h0, h => by cases ts <;> cases h
  | .bor :: ms, .cons x r, [], us, e, e1, e2, h0, h => by cases h
  | .frz :: ms, .cons x r, [], us, e, e1, e2, h0, h => by cases h
  | .bor :: ms, .cons x r, t :: ts, us, e, e1, e2, h0, h => by
    rw [prep] at h
    obtain ⟨p, hp, _⟩ := map_some h
    rw [putb]
    exact putb_no (us := p.1) (e1 := p.2) h0 hp
  | .frz :: ms, .cons x r, t :: ts, us, e, e1, e2, h0, h => by
    rw [prep] at h
    split at h
    · cases h
    · obtain ⟨p, hp, _⟩ := map_some h
      rw [putb]
      exact putb_no (us := p.1) (e1 := p.2) h0 hp
  | .io :: ms, _, _, us, e, e1, e2, h0, h => by cases h0
/-- the new instance stands in a slot more -/
theorem Wd.newIns (w : Wd Z F B H σ env xs vs Se St) {c : Nat} {p dx : Addr} (hp : H p = none) (hdx : H dx = none) (hne : dx ≠ p) :
    Wd Z F B (upd (upd H dx (.own p)) p (.ins (Z.cls c) dx [])) (σ ++ [some (.ref p)]) (env ++ [some (.ins .own c [])]) xs vs (Se ++ [p]) St ∧
    Step F H (Se ++ St) F (upd (upd H dx (.own p)) p (.ins (Z.cls c) dx [])) (Se ++ [p] ++ St) := by
  have hp' : upd H dx (.own p) p = none := by rw [upd_ne (fun z => hne z.symm)]; exact hp
  have k : ∀ a o, H a = some o → upd (upd H dx (.own p)) p (.ins (Z.cls c) dx []) a = some o := fun a o h => upd_keep hp' a o (upd_keep hdx a o h)
  have g := w.grow k
  obtain ⟨c1, c2, c3, c4⟩ := w.fresh hp
  refine ⟨⟨g.er.snoc ⟨p, dx, [], [], rfl, trivial, Nat.zero_le _, by rw [upd_same]; simp, rfl, fun z => absurd rfl z, rfl, rfl⟩, ?_, fun a => ?_, fun a h => ?_, g.al⟩, ⟨fun _ h => h, fun a o h _ => k a o h, fun a o h => ⟨o, k a o h⟩, fun a h => ?_, fun _ h => .inl h⟩⟩
  · exact RepL.mono (G := ⟨F, B, fun a => 0 < cn a Se⟩) (G' := ⟨F, B, fun a => 0 < cn a (Se ++ [p])⟩) (fun _ h => h) (fun _ h => h) (fun a h => by simp at h ⊢; omega) _ _ _ g.tr fun a o h _ => h
  · have := w.nd a
    simp
    by_cases e : p = a
    · subst e; simp; omega
    · simp [e]; omega
  · have := w.dj a h
    have e : ¬ p = a := by rintro rfl; exact h.elim c3 c4
    simp [e]; omega
  · by_cases e : p = a
    · subst e; exact .inr hp
    · left; simp [e] at h ⊢; omega
theorem new_imp {c f : Nat} {il : IL} {np : Nat} (hn : (I.md f).length = np) {ta : TA} (hta : ∀ σ H Q, tAr Z I (I.md f).tail il σ H Q → ta σ H Q) : ∀ σ H Q, tT Z I (.new c f il) σ H Q → tMakeS (Z.cls c) (spOf Z I f np) (WE Z.ws) ta σ H Q := fun σ H Q h => by
  obtain ⟨F, B, env, xs, vs, Se, St, w, g, p⟩ := h
  rw [evE] at p
  have nvx : vwL xs = false := by
    rcases g with z | z
    · rw [pE] at z; cases z
    · exact z
  refine hta _ _ _ ⟨F, B, env, xs, vs, Se, St, w, .inr nvx, (Post.bind p).imp fun ts e _ p1 ws H1 F1 Se1 St1 hl w1 s1 => ?_⟩
  intro a dx ha hdx hne
  unfold newT at p1
  split at p1
  case h_2 => exact p1.elim
  rename_i ms hmd
  split at p1
  · exact p1.elim
  rename_i hio
  have hio2 : anyIo ms = false ∧ vwBor ms ts = false := by simpa using hio
  obtain ⟨hio, hvb⟩ := hio2
  split at p1
  · exact p1.elim
  rename_i us e1 hprep
  obtain ⟨rfl, hpe⟩ := prep_env hio hprep
  rw [hmd] at hl w1
  have pt := ptrs_noio (σ := σ) hio hprep
  rw [show (Md.io :: ms).tail = ms from rfl, pt] at hl w1
  obtain ⟨w2, s2⟩ := w1.newIns (c := c) ha hdx hne
  subst hn
  have hlen : σ.length = e1.length := w1.er.length
  have hgv : (σ ++ [some (V.ref a)])[e1.length]? = some (some (.ref a)) := by rw [← hlen]; simp
  -- the hand: the arguments alone; the self's pointer ahead
  have w3 : Wd Z F1 B (upd (upd H1 dx (.own a)) a (.ins (Z.cls c) dx [])) (σ ++ [some (.ref a)]) (e1 ++ [some (.ins .own c [])]) (xs ++ ptrs (σ ++ [some (.ref a)]) (I.md f) (.cons (.var e1.length) il) (.non :: ts)) (vs ++ (.ref a :: ws)) (Se1 ++ [a]) St1 := by
    have pt2 : ptrs (σ ++ [some (V.ref a)]) (I.md f) (.cons (.var e1.length) il) (.non :: ts) = .ptr (.ref a) :: ts := by
      rw [hmd]
      show T.ptr ((((σ ++ [some (V.ref a)])[e1.length]?).getD none).getD .non) :: ptrs _ ms il ts = _
      rw [hgv, ptrs_noio hio hprep]; rfl
    rw [pt2]
    obtain ⟨f1, f2, e0, r, w4⟩ := w2.split' hl
    refine ⟨w2.er, ?_, w2.nd, w2.dj, w2.al⟩
    rw [e0]
    exact w4.tr.append ⟨.ref a, ws, [], f2, rfl, rfl, ⟨rfl, rfl⟩, r⟩
  refine callT_okE w3 (by rw [hmd]; show (_ :: ptrs _ ms il ts).length = _; rw [ptrs_noio hio hprep]; simpa using hl) (.inr nvx) ?_
  have h1 : vwBor (.io :: ms) (.non :: ts) = false := hvb
  have h2 : (e1 ++ [some (T.ins .own c [])])[e1.length]? = some (some (.ins .own c [])) := by simp
  have hset : (e1 ++ [some (T.ins .own c [])]).set e1.length none = e1 ++ [none] := by rw [List.set_append_right _ _ (Nat.le_refl _), Nat.sub_self]; rfl
  have h3 : prep (.io :: ms) (.cons (.var e1.length) il) (.non :: ts) (e1 ++ [some (T.ins .own c [])]) = some (.ins .own c [] :: us, e1 ++ [none]) := by
    rw [prep, h2]
    dsimp only
    rw [hset, hpe]
    rfl
  have hset2 : ∀ t, (e1 ++ [(none : Option T)]).set e1.length (some t) = e1 ++ [some t] := fun t => by rw [List.set_append_right _ _ (Nat.le_refl _), Nat.sub_self]; rfl
  split at p1
  case h_3 => exact p1.elim
  case h_2 =>
    rename_i x t hrun
    split at p1
    · exact p1.elim
    rename_i hc
    simp only [Bool.or_eq_true, not_or, Bool.not_eq_true, Bool.not_eq_false', decide_eq_true_eq] at hc
    have p1 : NxtX Z F B H σ (Se ++ St) x e1 := p1
    have hcall : callT I f (.cons (.var e1.length) il) (.non :: ts) (e1 ++ [some (.ins .own c [])]) = .exc x (e1 ++ [some t]) := by
      unfold callT
      rw [hmd, h1, Bool.and_false, if_neg (by simp), h3]
      dsimp only
      rw [hrun]
      dsimp only
      rw [putb, hc.2, hc.1]
      show (match putb ms il [] ((e1 ++ [none]).set e1.length (some t)) with | none => Out.stuck | some e2 => .exc x e2) = _
      rw [hset2, putb_no (us := us) (e1 := e1) hio hprep]
    rw [hcall]
    intro cls d H' F' Se' hx w7 s7
    obtain ⟨S1, fp, rfl, er1, rt⟩ := w7.er.unsnoc hlen
    exact p1 cls d H' F' S1 hx ⟨er1, ⟨rfl, rfl⟩, fun b => by have := w7.nd b; simp at *; omega, fun b hb => by have := w7.dj b hb; simp at *; omega, w7.al⟩ (((s1.trans s2).trans s7).trans (Step.le fun b => by simp))
  rename_i t hrun
  split at p1
  · exact p1.elim
  rename_i hc
  simp only [Bool.or_eq_true, not_or, Bool.not_eq_true, Bool.not_eq_false', decide_eq_true_eq] at hc
  obtain ⟨⟨c1, c2⟩, c3⟩ := hc
  have hcall : callT I f (.cons (.var e1.length) il) (.non :: ts) (e1 ++ [some (.ins .own c [])]) = .ok .non (e1 ++ [some t]) := by
    unfold callT
    rw [hmd]
    rw [h1, Bool.and_false, if_neg (by simp)]
    rw [h3]
    dsimp only
    rw [hrun]
    have h4 : (T.non.vw || T.non.hasBrw) = false := rfl
    dsimp only
    rw [h4, if_neg (by simp)]
    have h5 : putb (.io :: ms) (.cons (.var e1.length) il) [t] (e1 ++ [none]) = some (e1 ++ [some t]) := by
      rw [putb, c2, c1]
      show putb ms il [] ((e1 ++ [none]).set e1.length (some t)) = _
      rw [hset2]
      exact putb_no (us := us) (e1 := e1) hio hprep
    rw [h5]
  rw [hcall]
  intro v H2 F2 Se2 St2 w5 s5
  obtain ⟨f1, f2, rfl, r, w6⟩ := w5.pop
  obtain ⟨rfl, rfl⟩ := r
  refine ⟨rfl, ?_⟩
  obtain ⟨S1, fp, rfl, er1, rt⟩ := w6.er.unsnoc hlen
  have p1 : Nxt Z F B H σ e1 xs vs (Se ++ St) t Q := p1
  refine p1 (.ref a) H2 F2 S1 (f1 ++ fp) ⟨er1, ?_, fun b => ?_, fun b hb => ?_, w6.al⟩ (((s1.trans s2).trans s5).trans (Step.le fun b => by simp; omega))
  · exact (RepL.noW (W' := fun b => 0 < cn b S1) xs vs f1 nvx w6.tr).append (RepL.one.mpr (Rep.noW (G := ⟨F2, B, fun _ => False⟩) (W' := fun b => 0 < cn b S1) _ _ _ c1 rt))
  · have := w6.nd b; simp at this ⊢; omega
  · have := w6.dj b hb; simp at this ⊢; omega
end
end VI

namespace VI
open PySem L2
section
variable {X : Cx} {Z : Wo} {I : CI} {nm : Tb} {N : List Str} {sc : Scope} {G : Sh}
variable {F B : Addr → Prop} {H : Hp} {σ : L2.St} {env : Env} {xs ys : List T} {vs ws : List V} {Se St : List Addr} {t x y : T} {v u : V} {Q : VK}
/-! places, by values -/
def VC (Z : Wo) (H : Hp) : List Pst → V → V → Prop
  | [], v, w => v = w
  | s :: r, v, w => ∃ u, VS Z H s v u ∧ VC Z H r u w
def VX (Z : Wo) (H : Hp) (σ : L2.St) : PX → V → V → Prop
  | .f c k, v, u => VS Z H (.f c k) v u
  | .ks s, v, u => VS Z H (.k (.inr s)) v u
  | .ki n, v, u => VS Z H (.k (.inl n)) v u
  | .kv j, v, u => ∃ k : Key, σ[j]? = some (some (kV k)) ∧ VS Z H (.k k) v u
def VPa (Z : Wo) (H : Hp) (σ : L2.St) : List PX → V → V → Prop
  | [], v, w => v = w
  | s :: r, v, w => ∃ u, VX Z H σ s v u ∧ VPa Z H σ r u w
theorem VPa.snoc : ∀ {ps : List PX} {x : PX} {v w : V}, VPa Z H σ (ps ++ [x]) v w → ∃ u, VPa Z H σ ps v u ∧ VX Z H σ x u w
  | [], x, v, w, ⟨u, h, e⟩ => ⟨v, rfl, by obtain rfl : u = w := e; exact h⟩
  | p :: ps, x, v, w, ⟨u, h, r⟩ => by
    obtain ⟨z, a, b⟩ := VPa.snoc (ps := ps) r
    exact ⟨z, ⟨u, h, a⟩, b⟩
theorem resX_ok {S : List Addr} (er : EnvRep Z G H σ env S) {x : PX} {s : Pst} {v u : V} (h : resX env x = some s) (q : VS Z H s v u) : VX Z H σ x v u := by
  cases x with
  | f c k => cases h; exact q
  | ks s => cases h; exact q
  | ki n => cases h; exact q
  | kv j =>
    unfold resX at h
    dsimp only at h
    split at h
    · rename_i z e
      cases h
      obtain ⟨w, _, _, _, hv, _, r, _⟩ := er.get e
      obtain rfl := r.1
      exact ⟨.inr z, hv, q⟩
    · rename_i z e
      cases h
      obtain ⟨w, _, _, _, hv, _, r, _⟩ := er.get e
      obtain rfl := r.1
      exact ⟨.inl z, hv, q⟩
    · cases h
theorem resP_ok {S : List Addr} (er : EnvRep Z G H σ env S) : ∀ {ps : List PX} {p : List Pst} {v w : V}, resP env ps = some p → VC Z H p v w → VPa Z H σ ps v w
  | [], p, v, w, h, q => by cases h; exact q
  | x :: ps, p, v, w, h, q => by
    rw [resP] at h
    split at h
    · rename_i a b e1 e2
      cases h
      obtain ⟨u, q1, q2⟩ := q
      exact ⟨u, resX_ok er e1 q1, resP_ok er e2 q2⟩
    · cases h
theorem zip_of {c : T} : ∀ {p : List Pst} {t : T} {v : V} {fp : List Addr}, Rep Z G H t v fp → getP p t = some c → ∃ w f1 f2, VC Z H p v w ∧ Zip Z G H t v fp c w f1 f2 (setP p t)
  | [], t, v, fp, r, h => by cases h; exact ⟨v, [], fp, rfl, Zip.refl r⟩
  | s :: p, t, v, fp, r, h => by
    rw [getP] at h
    obtain ⟨⟨j, d⟩, h1, h2⟩ := Option.bind_eq_some_iff.mp h
    obtain ⟨u, g1, g2, vs, z⟩ := r.step h1
    obtain ⟨w, f1, f2, vc, z2⟩ := zip_of z.rep h2
    refine ⟨w, g1 ++ f1, f2, ⟨u, vs, vc⟩, ?_⟩
    have e : setP (s :: p) t = setC t j ∘ setP p d := by
      funext c'
      rw [setP, h1]
      rfl
    rw [e]
    exact z.trans z2
/-- what is read -/
theorem Rep.stepR {s : Pst} {c d : T} {w : V} {f2 : List Addr} (r : Rep Z G H c w f2) (h : VI.stepR s c = some d) : ∃ u g, VS Z H s w u ∧ Rep Z G H d u g := by
  unfold VI.stepR at h
  split at h
  · rename_i k f c' us
    split at h
    case isFalse => cases h
    rename_i e
    subst e
    obtain ⟨p, dx, ps, fp', rfl, _, l, hp, rfl, _, rl⟩ := r
    obtain ⟨q, f1, f2, f3, hq, rfl, rq⟩ := rl.get h
    have hk : k < (Z.fl c').length := by have := (List.getElem?_eq_some_iff.mp h).1; omega
    exact ⟨q, f2, ⟨p, dx, ps, _, rfl, hp, by rw [← rl.length]; exact l, List.getElem?_eq_some_iff.mpr ⟨hk, rfl⟩, hq⟩, rq⟩
  · obtain ⟨j, hj, h⟩ := Option.bind_eq_some_iff.mp h
    obtain ⟨p, ps, fp', rfl, _, l, hp, rfl, _, rl⟩ := r
    obtain ⟨q, f1, f2, f3, hq, rfl, rq⟩ := rl.get h
    exact ⟨q, f2, ⟨p, rfl, .inl ⟨_, hp.rd, by rw [valV_zip l.1, hj]; exact hq⟩⟩, rq⟩
  · rename_i i f us
    obtain ⟨p, ps, fp', rfl, _, hp, rfl, _, rl⟩ := r
    obtain ⟨q, f, hq, _, rq⟩ := rl.atI h
    exact ⟨q, f, ⟨p, rfl, .inr ⟨i, ps, rfl, hq, .inl hp⟩⟩, rq⟩
  · rename_i i us
    obtain ⟨p, ps, rfl, hp, rl⟩ := r
    obtain ⟨q, f, hq, _, rq⟩ := rl.atI h
    exact ⟨q, f, ⟨p, rfl, .inr ⟨i, ps, rfl, hq, .inr hp⟩⟩, rq⟩
  · cases h
theorem read_of {c : T} : ∀ {p : List Pst} {t : T} {v : V} {fp : List Addr}, Rep Z G H t v fp → getR p t = some c → ∃ w f, VC Z H p v w ∧ Rep Z G H c w f
  | [], t, v, fp, r, h => by cases h; exact ⟨v, fp, rfl, r⟩
  | s :: p, t, v, fp, r, h => by
    rw [getR] at h
    obtain ⟨d, h1, h2⟩ := Option.bind_eq_some_iff.mp h
    obtain ⟨u, g, vs, r1⟩ := r.stepR h1
    obtain ⟨w, f, vc, r2⟩ := read_of r1 h2
    exact ⟨w, f, ⟨u, vs, vc⟩, r2⟩
/-- the expression of a place -/
def tPl (Z : Wo) (i : Nat) (ps : List PX) : TE := fun σ H Q => ∃ v w, σ[i]? = some (some v) ∧ VPa Z H σ ps v w ∧ Q w H
theorem noCallA_b {oe : Expr} (h : noCallA oe = true) (n : Str) (env : PySem.Env) (w : Sem Value) : attributeBase oe n env w = w := by
  unfold attributeBase
  split
  · cases h
  · rfl
theorem pl_ok (ok : XOk X Z I nm N sc) (i : Nat) : ∀ (rs : List PX) (e : Expr), ckPl nm N sc i rs e = true → PE X e (tPl Z i rs.reverse) := by
  intro rs
  have ixG : ∀ {r : List PX} {x : PX} {o k : Expr} {pos : Pos} {tk : TE}, PE X o (tPl Z i r.reverse) → PE X k tk → PlainIx k → (∀ σ H u w Q, VX Z H σ x u w → (∀ key : Key, VS Z H (.k key) u w → Q (kV key) H) → tk σ H Q) → PE X (.Subscript o k pos) (tPl Z i (x :: r).reverse) := by
    intro r x o k pos tk po pk pl hk
    refine (pe_ix (anyIx X) po pk pl).imp fun σ H Q q => ?_
    obtain ⟨v, w, hv, vp, q⟩ := q
    rw [List.reverse_cons] at vp
    obtain ⟨u, vp1, vx⟩ := vp.snoc
    refine ⟨v, u, hv, vp1, hk σ H u w _ vx fun key hs => ?_⟩
    obtain ⟨p, rfl, h⟩ := hs
    rcases h with ⟨kvs, rd, hv⟩ | ⟨n, us, rfl, hn, hp⟩
    · exact ⟨_, ix_dict (by have := ok.hu; omega), p, w, rfl, .inl ⟨kvs, key, rd, rfl, hv.symm⟩, q⟩
    · rcases hp with hp | hp
      · exact ⟨_, ix_list, p, us, n, w, rfl, rfl, SqL.of hp, hn, q⟩
      · exact ⟨_, ix_tup, p, us, n, w, rfl, rfl, by rw [ok.hK]; exact hp, hn, q⟩
  induction rs with
  | nil =>
    intro e h
    unfold ckPl at h; split at h <;> first | (cases h; done) | skip
    all_goals (rename_i heq; cases heq)
    exact (var_ok ok h).imp fun σ H Q ⟨v, w, hv, e, q⟩ => ⟨v, hv, by obtain rfl : v = w := e; exact q⟩
  | cons a r ih =>
    intro e h
    cases a with
    | f c k =>
      cases e <;> first | (cases h; done) | skip
      rename_i o f pos
      have h : ((nm.fl c)[k]? == some f && (noCallA o && ckPl nm N sc i r o)) = true := h
      obtain ⟨h1, h2, h3⟩ := and3 h
      have hf := beq_iff_eq.mp h1
      refine (pe_fld (ih o h3) (noCallA_b h2 _ _ _)).imp fun σ H Q q => ?_
      obtain ⟨v, w, hv, vp, q⟩ := q
      rw [List.reverse_cons] at vp
      obtain ⟨u, vp1, p, dx, us, x, rfl, hp, l, hx, hu⟩ := vp.snoc
      obtain ⟨k1, k2⟩ := ok.fld _ _ _ hf
      rw [ok.hfl] at hx hp
      have : x = f := by rw [hf] at hx; exact (Option.some.inj hx).symm
      subst this
      exact ⟨v, .ref p, hv, vp1, p, _, dx, _, w, rfl, hp, k1, k2, lookup_zip (ok.few _).2 hx hu, q⟩
    | ks s =>
      unfold ckPl at h; split at h <;> first | (cases h; done) | skip
      all_goals (rename_i h1 h2; cases h1; try cases h2)
      rw [Bool.and_eq_true] at h
      obtain rfl := beq_iff_eq.mp h.1
      exact ixG (ih _ h.2) pe_str (fun _ _ => rfl) fun σ H u w Q vx q => q _ vx
    | ki n =>
      unfold ckPl at h; split at h <;> first | (cases h; done) | skip
      all_goals (rename_i h1 h2; cases h1; try cases h2)
      rw [Bool.and_eq_true] at h
      obtain rfl := beq_iff_eq.mp h.1
      exact ixG (ih _ h.2) pe_int (fun _ _ => rfl) fun σ H u w Q vx q => q _ vx
    | kv j =>
      unfold ckPl at h; split at h <;> first | (cases h; done) | skip
      all_goals (rename_i h1 h2; cases h1; try cases h2)
      rw [Bool.and_eq_true] at h
      exact ixG (ih _ h.2) (var_ok ok h.1) (fun _ _ => rfl) fun σ H u w Q ⟨key, hs, vx⟩ q => ⟨_, hs, q _ vx⟩
/-- a place's thing is written anew -/
theorem Wd.atPl (w : Wd Z F B H σ env (xs ++ ys) (vs ++ ws) Se St) (hl : ys.length = ws.length) (nv : vwL (xs ++ ys) = false) {i : Nat} {p : List Pst} {c : T} (he : env[i]? = some (some t)) (hp : getP p t = some c) :
    ∃ v z f2 g, σ[i]? = some (some v) ∧ VC Z H p v z ∧ Rep Z ⟨F, B, fun _ => False⟩ H c z f2 ∧ RepL Z ⟨F, B, fun _ => False⟩ H ys ws g ∧ (∀ a, cn a f2 + cn a g ≤ 1) ∧ (∀ a, F a ∨ B a → cn a f2 + cn a g = 0) ∧
      ∀ q o' c' g', z = .ref q → 0 < cn q f2 → (∀ a, cn a g' ≤ cn a f2 + cn a g) → Rep Z ⟨F, B, fun _ => False⟩ (upd H q o') c' z g' →
        ∃ Se' St', Wd Z F B (upd H q o') σ (env.set i (some (setP p t c'))) xs vs Se' St' ∧ Step F H (Se ++ St) F (upd H q o') (Se' ++ St') := by
  obtain ⟨f1, f2, rfl, r, w'⟩ := w.split' hl
  obtain ⟨v0, k1, k2, k3, hv, rfl, ra, d⟩ := w.er.get he
  obtain ⟨z, j1, j2, vc, zp⟩ := zip_of ra hp
  have nvx : vwL xs = false ∧ vwL ys = false := by rw [vwL_append, Bool.or_eq_false_iff] at nv; exact nv
  have r' := RepL.noW (W' := fun _ => False) ys ws f2 nvx.2 r
  have rx := RepL.noW (W' := fun _ => False) xs vs f1 nvx.1 w'.tr
  have cnt := zp.cnt
  have nd := w.nd
  refine ⟨v0, z, j2, f2, hv, vc, zp.rep, r', fun a => by have := nd a; have := cnt a; simp at *; omega, fun a h => by have := w.dj a h; have := cnt a; simp at *; omega, ?_⟩
  intro q o' c' g' hz hq hg rc
  have cp : cn q k1 = 0 ∧ cn q k3 = 0 ∧ cn q f1 = 0 ∧ cn q j1 = 0 := by have := nd q; have := cnt q; simp at *; omega
  have nFB : ¬ (F q ∨ B q) := fun h => by have := w.dj q h; have := cnt q; simp at *; omega
  have other : ∀ a o, H a = some o → a ≠ q → upd H q o' a = some o := fun a o h n => by rw [upd_ne n]; exact h
  have mq : ∃ u, H q = some u ∧ Mut (some u) := by
    have := Rep.mut _ _ _ zp.rep q (cn_pos.mp hq)
    cases e : H q with
    | none => rw [e] at this; exact this.elim
    | some u => exact ⟨u, rfl, by rw [e] at this; exact this⟩
  have away : ∀ (S0 : List Addr), cn q S0 = 0 → ∀ a o, H a = some o → Leans ⟨F, B, fun _ => False⟩ S0 a o → upd H q o' a = some o := fun S0 h0 a o h l => by
    refine other a o h fun z => ?_
    subst z
    obtain ⟨u, hu, mu⟩ := mq
    rw [hu] at h; cases h
    rcases l with l | l | l | l | l
    · exact l mu
    · have := cn_pos.mpr l; omega
    · exact nFB (.inl l)
    · exact nFB (.inr l)
    · exact l
  have d1 := EnvRep.mono (fun _ h => h) (fun _ h => h) (fun _ h => h) d (away (k1 ++ k3) (by simp; omega))
  obtain ⟨fp', rt, hc'⟩ := zp.re ⟨F, B, fun _ => False⟩ (upd H q o') c' g' (fun _ h => h) (fun _ h => h) (fun _ h => h) (away j1 cp.2.2.2) rc
  have hi : i < env.length := (List.getElem?_eq_some_iff.mp he).1
  obtain ⟨m1, m3, ej, d2⟩ := d1.put (i := i) (by simp [hi]) rt
  rw [List.set_set, set_same hv] at d2
  have ec : ∀ a, cn a m1 + cn a m3 = cn a k1 + cn a k3 := fun a => by have := congrArg (cn a) ej; simp at this; omega
  refine ⟨_, f1, ⟨d2, RepL.noW (W' := fun a => 0 < cn a (m1 ++ fp' ++ m3)) xs vs f1 nvx.1 (RepL.mono (fun _ h => h) (fun _ h => h) (fun _ h => h) xs vs f1 rx (away f1 cp.2.2.1)), fun a => ?_, fun a h => ?_, fun a h => ?_⟩, ⟨fun _ h => h, fun a o h z => ?_, fun a o h => ?_, fun a h => ?_, fun _ h => .inl h⟩⟩
  · have h1 := nd a; have h2 := hg a; have h3 := ec a; have h4 := hc' a; have h5 := cnt a; simp only [cn_append] at h1 ⊢; omega
  · have h1 := w.dj a h; have h2 := hg a; have h3 := ec a; have h4 := hc' a; have h5 := cnt a; simp only [cn_append] at h1 ⊢; omega
  · obtain ⟨o, ho⟩ := w.al a h
    by_cases q0 : a = q
    · subst q0; exact ⟨_, upd_same⟩
    · exact ⟨o, other a o ho q0⟩
  · refine other a o h fun q0 => ?_
    subst q0
    have h5 := cnt a
    simp at z
    omega
  · by_cases q0 : a = q
    · subst q0; exact ⟨_, upd_same⟩
    · exact ⟨o, other a o h q0⟩
  · have h2 := hg a; have h3 := ec a; have h4 := hc' a; have h5 := cnt a
    simp only [cn_append] at h ⊢
    left; omega
end
end VI

namespace VI
open PySem L2
/-! a dict is locked while it is walked -/
/-- two heaps that differ at a dict's place at most, by its lock -/
structure Swp (d : Addr) (H H' : Hp) : Prop where
  oth : ∀ a o, H a = some o → a ≠ d → H' a = some o
  at_ : ∀ f kvs, f ≠ .own → DAt f H d kvs → DAt f H' d kvs
  dic : ∀ o, H d = some o → ∃ kvs, o = .dK kvs ∨ ∃ od, o = .frz od (.dK kvs)
section
variable {Z : Wo} {G : Sh} {H H' : Hp} {d : Addr}
theorem Swp.sq (s : Swp d H H') {K : PySem.W.Frag} {p : Addr} {vs : List V} (h : SqT K H p vs) : SqT K H' p vs := by
  rcases h with (h | ⟨o, h⟩) | h
  · refine .inl (.inl (s.oth _ _ h fun e => ?_))
    subst e
    obtain ⟨kvs, z | ⟨od, z⟩⟩ := s.dic _ h <;> cases z
  · refine .inl (.inr ⟨o, s.oth _ _ h fun e => ?_⟩)
    subst e
    obtain ⟨kvs, z | ⟨od, z⟩⟩ := s.dic _ h <;> cases z
  · exact .inr h
mutual
theorem Rep.swap (s : Swp d H H') : ∀ (t : T) (v : V) (fp : List Addr), Rep Z G H t v fp → cn d fp = 0 → Rep Z G H' t v fp := fun t v fp h h0 => by
  cases t with
  | non => exact h
  | bl _ => exact h
  | int _ => exact h
  | str _ => exact h
  | ptr _ => exact h
  | exn _ _ => exact ⟨⟨h.1.choose, h.1.choose_spec.1, Z.xm _ _ _ _ _ (fun b o hb ho => s.oth _ _ hb fun e => by subst e; obtain ⟨kvs, z | ⟨od, z⟩⟩ := s.dic _ hb <;> (subst z; cases ho)) h.1.choose_spec.2⟩, h.2⟩
  | scr _ =>
    obtain ⟨p, e, h, e2⟩ := h
    refine ⟨p, e, ?_, e2⟩
    rcases h with ⟨f, (h | ⟨o, h⟩)⟩ | h
    · refine .inl ⟨f, .inl (s.oth _ _ h fun e => ?_)⟩
      subst e
      obtain ⟨kvs, z | ⟨od, z⟩⟩ := s.dic _ h <;> cases z
    · refine .inl ⟨f, .inr ⟨o, s.oth _ _ h fun e => ?_⟩⟩
      subst e
      obtain ⟨kvs, z | ⟨od, z⟩⟩ := s.dic _ h <;> cases z
    · exact .inr h
  | tup xs =>
    obtain ⟨p, vs, e, q, r⟩ := h
    exact ⟨p, vs, e, s.sq q, RepL.swap s xs vs fp r h0⟩
  | lst f xs =>
    obtain ⟨p, vs, fp', e, g, hp, rfl, e3, r⟩ := h
    refine ⟨p, vs, fp', e, g, s.oth _ _ hp fun z => ?_, rfl, e3, RepL.swap s xs vs fp' r (by simp at h0; omega)⟩
    subst z
    obtain ⟨kvs, z | ⟨od, z⟩⟩ := s.dic _ hp <;> cases z
  | dic f ks xs =>
    obtain ⟨p, vs, fp', e, g, l, hp, rfl, e3, r⟩ := h
    refine ⟨p, vs, fp', e, g, l, ?_, rfl, e3, RepL.swap s xs vs fp' r (by simp at h0; omega)⟩
    by_cases z : p = d
    · subst z
      refine s.at_ f _ (fun ef => ?_) hp
      subst ef
      simp [hd_own] at h0
    · rcases hp with hp | ⟨n, o, hp⟩
      · exact .inl (s.oth _ _ hp z)
      · exact .inr ⟨n, o, s.oth _ _ hp z⟩
  | ins f c xs =>
    obtain ⟨p, dx, vs, fp', e, g, l, hp, rfl, e3, r⟩ := h
    refine ⟨p, dx, vs, fp', e, g, l, s.oth _ _ hp fun z => ?_, rfl, e3, RepL.swap s xs vs fp' r (by simp at h0; omega)⟩
    subst z
    obtain ⟨kvs, z | ⟨od, z⟩⟩ := s.dic _ hp <;> cases z
theorem RepL.swap (s : Swp d H H') : ∀ (xs : List T) (vs : List V) (fp : List Addr), RepL Z G H xs vs fp → cn d fp = 0 → RepL Z G H' xs vs fp := fun xs vs fp h h0 => by
  cases xs with
  | nil => exact h
  | cons x xs =>
    obtain ⟨v, vs', f1, f2, e, rfl, r1, r2⟩ := h
    exact ⟨v, vs', f1, f2, e, rfl, Rep.swap s x v f1 r1 (by simp at h0; omega), RepL.swap s xs vs' f2 r2 (by simp at h0; omega)⟩
end
theorem EnvRep.swap (s : Swp d H H') : ∀ {σ : L2.St} {env : Env} {S : List Addr}, EnvRep Z G H σ env S → cn d S = 0 → EnvRep Z G H' σ env S := fun {σ} => by
  induction σ with
  | nil => intro env S h h0; exact h
  | cons vo σ ih =>
    intro env S h h0
    obtain ⟨to, env', rfl, h⟩ := h
    refine ⟨to, env', rfl, ?_⟩
    cases to with
    | none => exact ih h h0
    | some t =>
      obtain ⟨w, g1, S', e, rfl, q, h⟩ := h
      exact ⟨w, g1, S', e, rfl, Rep.swap s t w g1 q (by simp at h0; omega), ih h (by simp at h0; omega)⟩
variable {F B : Addr → Prop} {σ : L2.St} {env : Env} {xs : List T} {vs : List V} {Se St : List Addr}
theorem Wd.swap (s : Swp d H H') (ex : ∃ o, H' d = some o) (w : Wd Z F B H σ env xs vs Se St) (h0 : cn d Se + cn d St = 0) : Wd Z F B H' σ env xs vs Se St :=
  ⟨w.er.swap s (by omega), RepL.swap s _ _ _ w.tr (by omega), w.nd, w.dj, fun a h => by
    obtain ⟨o, e⟩ := w.al a h
    by_cases z : a = d
    · subst z; exact ex
    · exact ⟨o, s.oth a o e z⟩⟩
theorem swp_lock {od : Obj} {kvs : List (Key × V)} (h : H d = some (.dK kvs)) : Swp d H (upd H d (.frz od (.dK kvs))) where
  oth := fun a o e n => by rw [upd_ne n]; exact e
  at_ := fun f kvs' nf q => by
    rcases q with q | ⟨_, o, q⟩
    · rw [h] at q; cases q; exact .inr ⟨nf, od, upd_same⟩
    · rw [h] at q; cases q
  dic := fun o e => by rw [h] at e; cases e; exact ⟨kvs, .inl rfl⟩
theorem swp_unlock {od : Obj} {kvs : List (Key × V)} (h : H d = some (.frz od (.dK kvs))) : Swp d H (upd H d (.dK kvs)) where
  oth := fun a o e n => by rw [upd_ne n]; exact e
  at_ := fun f kvs' nf q => by
    rcases q with q | ⟨_, o, q⟩
    · rw [h] at q; cases q
    · rw [h] at q; cases q; exact .inl upd_same
  dic := fun o e => by rw [h] at e; cases e; exact ⟨kvs, .inr ⟨od, rfl⟩⟩
/-- what is locked is nobody's own -/
theorem Wd.frz0 (w : Wd Z F B H σ env xs vs Se St) {od : Obj} {u : HO} (h : H d = some (.frz od u)) : cn d Se + cn d St = 0 := by
  have a : cn d Se = 0 := by
    cases e : cn d Se with
    | zero => rfl
    | succ k => have := w.mutE (a := d) (by omega); rw [h] at this; exact this.elim
  have b : cn d St = 0 := by
    cases e : cn d St with
    | zero => rfl
    | succ k => have := w.mutT (a := d) (by omega); rw [h] at this; exact this.elim
  omega
/-- steps, the lock taken off again -/
theorem Step.locked {F' : Addr → Prop} {H2 : Hp} {S S' : List Addr} {od : Obj} {u : HO} (h : H d = some u) (h0 : cn d S = 0) (s : Step F (upd H d (.frz od u)) S F' H2 S') : H2 d = some (.frz od u) ∧ Step F H S F' (upd H2 d u) S' := by
  have e := s.kp d _ upd_same h0
  refine ⟨e, s.fF, fun a o ha hz => ?_, fun a o ha => ?_, fun a hz => ?_, fun a hz => ?_⟩
  · by_cases q : a = d
    · subst q; rw [h] at ha; cases ha; exact upd_same
    · rw [upd_ne q]; exact s.kp a o (by rw [upd_ne q]; exact ha) hz
  · by_cases q : a = d
    · subst q; exact ⟨_, upd_same⟩
    · rw [upd_ne q]; exact s.ne a o (by rw [upd_ne q]; exact ha)
  · rcases s.nS a hz with q | q
    · exact .inl q
    · by_cases z : a = d
      · subst z; rw [upd_same] at q; cases q
      · rw [upd_ne z] at q; exact .inr q
  · rcases s.nF a hz with q | q | q
    · exact .inl q
    · exact .inr (.inl q)
    · by_cases z : a = d
      · subst z; rw [upd_same] at q; cases q
      · rw [upd_ne z] at q; exact .inr (.inr q)
theorem Step.lock {S : List Addr} {od : Obj} {u : HO} (h : H d = some u) (h0 : cn d S = 0) : Step F (upd H d (.frz od u)) S F (upd H d (.frz od u)) S := Step.refl
/-- the keys, walked -/
theorem iter_keys {d : Addr} {od : Obj} {ks : List Key} {us : List V} (hl : ks.length = us.length) : IterOk Z F B (Itk d od (ks.zip us)) (fun H => H d = some (.frz od (.dK (ks.zip us)))) (ks.map keyT) where
  keep := fun H H' k h => k _ _ h (.inl fun z => z)
  go := fun i H t ht h => by
    rw [List.getElem?_map] at ht
    obtain ⟨k, hk, rfl⟩ := Option.map_eq_some_iff.mp ht
    have hi := (List.getElem?_eq_some_iff.mp hk).1
    refine ⟨⟨h, by rw [List.length_zip]; omega⟩, fun x H' y => ?_⟩
    obtain ⟨rfl, k', v, h1, rfl⟩ := y
    have h2 : (List.zip ks us)[i]? = some (ks[i], us[i]'(by omega)) := List.getElem?_eq_some_iff.mpr ⟨by rw [List.length_zip]; omega, List.getElem_zip⟩
    rw [h2] at h1
    cases h1
    obtain ⟨_, hk2⟩ := List.getElem?_eq_some_iff.mp hk
    subst hk2
    refine ⟨fun _ _ z => z, ?_⟩
    cases ks[i] <;> exact ⟨rfl, rfl⟩
  stop := fun H h => ⟨h, by rw [List.length_zip, List.length_map]; omega⟩
theorem iter_enumK {d : Addr} {od : Obj} {ks : List Key} {us : List V} (hl : ks.length = us.length) : IterOk Z F B (Itek d od (ks.zip us)) (fun H => H d = some (.frz od (.dK (ks.zip us)))) (enuT 0 (ks.map keyT)) where
  keep := fun H H' k h => k _ _ h (.inl fun z => z)
  go := fun i H t ht h => by
    obtain ⟨x0, hx0, rfl⟩ := enuT_get ht
    rw [List.getElem?_map] at hx0
    obtain ⟨k, hk, rfl⟩ := Option.map_eq_some_iff.mp hx0
    have hi := (List.getElem?_eq_some_iff.mp hk).1
    refine ⟨⟨h, by rw [List.length_zip]; omega⟩, fun x H' y => ?_⟩
    obtain ⟨q, k', v, rfl, h1, hq, rfl⟩ := y
    have h2 : (List.zip ks us)[i]? = some (ks[i], us[i]'(by omega)) := List.getElem?_eq_some_iff.mpr ⟨by rw [List.length_zip]; omega, List.getElem_zip⟩
    rw [h2] at h1
    cases h1
    obtain ⟨_, hk2⟩ := List.getElem?_eq_some_iff.mp hk
    subst hk2
    refine ⟨upd_keep hq, rep_tup2 hq ⟨by simp, rfl⟩ ?_⟩
    cases ks[i] <;> exact ⟨rfl, rfl⟩
  stop := fun H h => ⟨h, by rw [enuT_len, List.length_zip, List.length_map]; omega⟩
end
section
variable {X : Cx} {Z : Wo} {I : CI} {nm : Tb} {N : List Str} {sc : Scope}
variable {F B : Addr → Prop} {H : Hp} {σ : L2.St} {env : Env} {xs : List T} {vs : List V} {Se St : List Addr} {Q : VK}
/-- the place of the dict, and how it stands -/
theorem keysR_ok (w : Wd Z F B H σ env xs vs Se St) {i : Nat} {ps : List PX} {ks : List Key} (h : keysR i ps env = some ks) :
    ∃ v d us, σ[i]? = some (some v) ∧ VPa Z H σ ps v (.ref d) ∧ ks.length = us.length ∧ cn d Se + cn d St = 0 ∧ (H d = some (.dK (ks.zip us)) ∨ ∃ od, H d = some (.frz od (.dK (ks.zip us)))) := by
  unfold keysR at h
  split at h
  case h_2 => cases h
  rename_i t p e1 e2
  split at h
  case h_2 => cases h
  rename_i f ks' us' e3
  split at h
  · cases h
  rename_i nf
  cases h
  obtain ⟨v0, k1, k2, k3, hv, hS, ra, _⟩ := w.er.get e1
  obtain ⟨z, g, vc, rc⟩ := read_of ra e3
  obtain ⟨d, us, fp', rfl, hat, l, hp, _, _, _⟩ := rc
  refine ⟨v0, d, us, hv, resP_ok w.er e2 vc, l.1, ?_, ?_⟩
  · cases f with
    | own => exact absurd rfl nf
    | frz => exact w.dj d (.inl hat)
    | brw => exact w.dj d (.inr hat)
    | vw => exact hat.elim
  · rcases hp with hp | ⟨_, o, hp⟩
    · exact .inl hp
    · exact .inr ⟨o, hp⟩
theorem VPa.lock {d : Addr} {H H' : Hp} (s : Swp d H H') (hd : ∀ f kvs, DAt f H d kvs → DAt .frz H' d kvs) : ∀ {ps : List PX} {v w : V}, VPa Z H σ ps v w → VPa Z H' σ ps v w
  | [], v, w, h => h
  | x :: ps, v, w, ⟨u, h, r⟩ => by
    have vs : ∀ {k : Pst}, VS Z H k v u → VS Z H' k v u := fun {k} q => by
      cases k with
      | f c k =>
        obtain ⟨p, dx, us, y, rfl, hp, l⟩ := q
        refine ⟨p, dx, us, y, rfl, s.oth _ _ hp fun z => ?_, l⟩
        subst z
        obtain ⟨kvs, z | ⟨od, z⟩⟩ := s.dic _ hp <;> cases z
      | k k =>
        obtain ⟨p, rfl, q⟩ := q
        refine ⟨p, rfl, ?_⟩
        rcases q with ⟨kvs, rd, hv⟩ | ⟨i, us, e, hu, hp⟩
        · left
          by_cases z : p = d
          · subst z
            refine ⟨kvs, ?_, hv⟩
            rcases rd with rd | ⟨o, rd⟩
            · exact (hd .frz kvs (.inl rd)).rd
            · exact (hd .frz kvs (.inr ⟨by decide, o, rd⟩)).rd
          · exact ⟨kvs, rd.imp (fun h => s.oth _ _ h z) fun ⟨o, h⟩ => ⟨o, s.oth _ _ h z⟩, hv⟩
        · refine .inr ⟨i, us, e, hu, hp.imp (fun h => s.oth _ _ h fun z => ?_) s.sq⟩
          subst z
          obtain ⟨kvs, z | ⟨od, z⟩⟩ := s.dic _ h <;> cases z
    refine ⟨u, ?_, VPa.lock s hd r⟩
    cases x with
    | f c k => exact vs (k := .f c k) h
    | ks s => exact vs (k := .k (.inr s)) h
    | ki n => exact vs (k := .k (.inl n)) h
    | kv j => obtain ⟨k, h1, h2⟩ := h; exact ⟨k, h1, vs h2⟩
theorem lockD {d : Addr} {H : Hp} {od : Obj} {kvs : List (Key × V)} (h : H d = some (.dK kvs)) : ∀ f kvs', DAt f H d kvs' → DAt .frz (upd H d (.frz od (.dK kvs))) d kvs' := fun f kvs' q => by
  rcases q with q | ⟨_, o, q⟩
  · rw [h] at q; cases q; exact .inr ⟨by decide, od, upd_same⟩
  · rw [h] at q; cases q
/-- a comprehension over the keys of a dict -/
theorem compk_imp {tg : List Nat} {i : Nat} {ps : List PX} {c : IO} {elt : IE} : ∀ σ H Q, tT Z I (.comp tg (.keys i ps) c elt) σ H Q →
    tLc (iKeys (tPl Z i ps)) (tgR Z tg) (tC Z.nox I c) (tT Z.nox I elt) tg σ H Q ∨ tLockE (tLc (iKeys (tPl Z i ps)) (tgR Z tg) (tC Z.nox I c) (tT Z.nox I elt) tg) σ H Q := fun σ H Q h => by
  obtain ⟨F, B, env, xs, vs, Se, St, w, g, p⟩ := h
  have nv : vwL xs = false := by rcases g with g | g; cases g; exact g
  rw [evE, evIT] at p
  obtain ⟨its, hi, p⟩ := Post.ofO (Post.bind p)
  obtain ⟨ks, hk, rfl⟩ := map_some hi
  obtain ⟨v, d, us, hv, vp, hl, h0, hd⟩ := keysR_ok w hk
  rcases hd with hd | ⟨od, hd⟩
  · right
    refine ⟨d, _, hd, trivial, fun od => ⟨v, .ref d, hv, vp.lock (swp_lock hd) (lockD hd), d, od, rfl, .inl ⟨_, upd_same, fun D hD => ?_⟩⟩⟩
    have w2 := w.swap (swp_lock (od := od) hd) ⟨_, upd_same⟩ h0
    have k2 : ∀ t e, Nxt Z F B H σ e xs vs (Se ++ St) t Q → Nxt Z F B (upd H d (.frz od (.dK (ks.zip us)))) σ e xs vs (Se ++ St) t fun v H' => H' d = some (.frz od (.dK (ks.zip us))) ∧ Q v (upd H' d (.dK (ks.zip us))) := fun t e k v H' F' Se' St' w' s' => by
      obtain ⟨e1, s2⟩ := Step.locked hd (by simpa using h0) s'
      exact ⟨e1, k v _ F' Se' St' (w'.swap (swp_unlock e1) ⟨_, upd_same⟩ (w'.frz0 e1)) s2⟩
    exact comp_core (Z := Z.nox) nv (p.imp fun t e _ k => Nxt.toW (k2 t e k)) upd_same (iter_keys hl) w2.ws Step.refl D hD
  · left
    exact ⟨v, .ref d, hv, vp, d, od, rfl, .inl ⟨_, hd, fun D hD => comp_core (Z := Z.nox) nv (p.imp fun t e _ k => Nxt.toW k) hd (iter_keys hl) w.ws Step.refl D hD⟩⟩
/-- the same, counted -/
theorem compe_imp {tg : List Nat} {i : Nat} {ps : List PX} {c : IO} {elt : IE} : ∀ σ H Q, tT Z I (.comp tg (.enuK i ps) c elt) σ H Q →
    tLc (iEnumK (tCons (tPl Z i ps) tNil)) (tgR Z tg) (tC Z.nox I c) (tT Z.nox I elt) tg σ H Q ∨ tLockE (tLc (iEnumK (tCons (tPl Z i ps) tNil)) (tgR Z tg) (tC Z.nox I c) (tT Z.nox I elt) tg) σ H Q := fun σ H Q h => by
  obtain ⟨F, B, env, xs, vs, Se, St, w, g, p⟩ := h
  have nv : vwL xs = false := by rcases g with g | g; cases g; exact g
  rw [evE, evIT] at p
  obtain ⟨its, hi, p⟩ := Post.ofO (Post.bind p)
  obtain ⟨ks, hk, rfl⟩ := map_some hi
  obtain ⟨v, d, us, hv, vp, hl, h0, hd⟩ := keysR_ok w hk
  rcases hd with hd | ⟨od, hd⟩
  · right
    refine ⟨d, _, hd, trivial, fun od => ⟨v, .ref d, hv, vp.lock (swp_lock hd) (lockD hd), d, od, _, rfl, upd_same, fun D hD => ?_⟩⟩
    have w2 := w.swap (swp_lock (od := od) hd) ⟨_, upd_same⟩ h0
    have k2 : ∀ t e, Nxt Z F B H σ e xs vs (Se ++ St) t Q → Nxt Z F B (upd H d (.frz od (.dK (ks.zip us)))) σ e xs vs (Se ++ St) t fun v H' => H' d = some (.frz od (.dK (ks.zip us))) ∧ Q v (upd H' d (.dK (ks.zip us))) := fun t e k v H' F' Se' St' w' s' => by
      obtain ⟨e1, s2⟩ := Step.locked hd (by simpa using h0) s'
      exact ⟨e1, k v _ F' Se' St' (w'.swap (swp_unlock e1) ⟨_, upd_same⟩ (w'.frz0 e1)) s2⟩
    exact comp_core (Z := Z.nox) nv (p.imp fun t e _ k => Nxt.toW (k2 t e k)) upd_same (iter_enumK hl) w2.ws Step.refl D hD
  · left
    exact ⟨v, .ref d, hv, vp, d, od, _, rfl, hd, fun D hD => comp_core (Z := Z.nox) nv (p.imp fun t e _ k => Nxt.toW k) hd (iter_enumK hl) w.ws Step.refl D hD⟩
end
end VI

namespace PySem.W
open PySem PySem.Spec PySem.Calls PyProof.Rows
section
variable {prog : Program} {w : World} {A : Around} {E : Value → Shared → Prop} {s : Shared} {K : Frag} {x D : Addr} {ox : Obj} {od : Option Obj}
theorem vi_findObj_data {C : Addr} {name : Str} {a g : Value} (hc : (clsIn K C).isSome = true) (ha : findIn K (.ref C) name = some (some a)) (hg : specialIn K a "__get__" = some (some g)) (ht : takesIn K a = some true) : findObj K C od name = some (.bind g a) := by
  obtain ⟨cd, hc⟩ := Option.isSome_iff_exists.mp hc
  unfold findObj
  rw [hc, Option.bind_some, ha, Option.bind_some]
  simp [hg, ht]
theorem vi_kin_classE {Q : Option Value → Shared → Prop} (hga : findIn K (.ref D) "__getattribute__" = some (some (.builtin "BaseException.__getattribute__"))) (hgt : findIn K (.ref D) "__getattr__" = some none) (hsub : subIn K (.ref D) (.type "BaseException") = some true)
    (hdct : hasDictIn K D = true) (ha : findIn K (.ref D) "__class__" = some (some (.builtin "object.__class__")))
    (hn : specialIn K (.builtin "object.__class__") "__get__" = some (some (.builtin "getset_descriptor.__get__"))) (htk : takesIn K (.builtin "object.__class__") = some true) (hm : mroIn K D (.type "object") = some true)
    (X : K.In s.heap) (I : InstAt s.heap x ox D od) (h : Q (some (.ref D)) { s with toks := s.toks + 1 }) : wpAny (model prog w) A (getAttr? (.ref x) "__class__") Q E s := by
  have hf : findObj K D od "__class__" = some (.bind (.builtin "getset_descriptor.__get__") (.builtin "object.__class__")) := vi_findObj_data (by obtain ⟨cd, hc, _⟩ := any_some hdct; rw [hc]; rfl) ha hn htk
  obtain ⟨hp, g, d, t, os⟩ := s
  have L0 := I.type (M := model prog w)
  have L1 := looks_findIn (M := model prog w) X hga
  have L2 := looks_findIn (M := model prog w) X hgt
  have L3 := looks_find (M := model prog w) X I hf
  have sub : Looks (model prog w) hp (isInstance (.ref x) (.type "BaseException")) true := L0.andThen (looks_subIn X hsub)
  have hx0 : (false && onTheHeap (Value.builtin "BaseException.__getattribute__")) = false := rfl
  have hx2 : (Value.builtin "BaseException.__getattribute__" == Value.builtin "object.__getattribute__") = false := by decide +kernel
  have hx1 : (onTheHeap (Value.ref D) && Value.builtin "BaseException.__getattribute__" == Value.builtin "object.__getattribute__") = false := by rw [hx2]; rfl
  unfold getAttr? getAttrBy? getAttrBy
  refine wpAny_bind (wpAny_mkText (wpAny_bind (wpAny_attempt (wpAny_holding (wpAny_bind (L0.at (wpAny_bind (L1.at ?_))))))))
  show wpAny _ _ (if (onTheHeap (Value.ref D) && Value.builtin "BaseException.__getattribute__" == Value.builtin "object.__getattribute__") = true then _ else _) _ _ _
  rw [hx1, if_neg Bool.false_ne_true]
  unfold getAttrByItsOwn hookBefore
  refine wpAny_bind ?_
  rw [if_pos (show onTheHeap (Value.ref D) = true from rfl)]
  refine L2.at ?_
  refine wpAny_bind (wpAny_attempt (wpAny_holding ?_))
  unfold callGetattribute
  rw [hx0, if_neg Bool.false_ne_true]
  unfold boundAndCalled
  rw [PySem.F.excAttr_ValueError.ga.bind (.ref x)]
  refine wpAny_bind (wpAny_pure ?_)
  show wpAny _ _ (call (.builtin "BaseException.__getattribute__") [.ref x, .str "__class__" t]) _ _ _
  refine wpAny_call (codeAny_call_builtin PySem.F.excAttr_ValueError.ga.plain PySem.F.entry_bexc_ga ?_)
  refine @check_slot (model prog w) _ _ ⟨hp, g, d, t + 1, os⟩ "BaseException.__getattribute__" "BaseException" "__getattribute__" (.ref x) [.str "__class__" t] [] _ (by decide +kernel) (by decide +kernel) sub (PySem.F.args_bexc_ga (.ref x) (.str "__class__" t)) ?_
  unfold Builtin.«object.__getattribute__»
  refine wpAny_bind (wpAny_of_eq (a := ((Value.ref x : Value), [Value.str "__class__" t])) (by first | rfl | (simp only [slotArgs]; rfl)) ?_)
  refine wpAny_bind (wpAny_pure (wpAny_bind (L0.at (wpAny_bind (L3.at ?_)))))
  show wpAny _ _ (holding [Value.builtin "object.__class__"] (call (.builtin "getset_descriptor.__get__") [.builtin "object.__class__", .ref x, .ref D]) >>= ret) _ _ _
  refine wpAny_bind (wpAny_holding (wpAny_call (class_get (s := ⟨hp, g, d, t + 1, os⟩) (ox := ox) (od := od) X I hm ?_)))
  refine wpAny_pure ?_
  show wpAny _ _ (handedOut (.ref D)) _ _ _
  rw [handedOut_of (v := .ref D) rfl]
  first
    | exact wpAny_pure (wpAny_pure h)
    | exact wpAny_pure h
    | exact wpAny_pure (wpAny_bind (wpAny_pure (wpAny_pure h)))
theorem vi_kitx_exc (hga : findIn K (.ref D) "__getattribute__" = some (some (.builtin "BaseException.__getattribute__"))) (hgt : findIn K (.ref D) "__getattr__" = some none) (hsub : subIn K (.ref D) (.type "BaseException") = some true) (hdct : hasDictIn K D = true) (ha : findIn K (.ref D) "__class__" = some (some (.builtin "object.__class__")))
    (hn : specialIn K (.builtin "object.__class__") "__get__" = some (some (.builtin "getset_descriptor.__get__"))) (htk : takesIn K (.builtin "object.__class__") = some true) (hm : mroIn K D (.type "object") = some true) :
    KitX K (.ref x) (.ref D) (fun h => InstAt h x ox D od) where
  ty := fun _ _ _ I => I.type
  it := fun _ _ X _ => by
    obtain ⟨cdD, hcD, _⟩ := any_some hdct
    unfold clsIn at hcD
    split at hcD
    · rename_i c' d' cd' sl' ho
      intro A' Q' E' s' k q
      unfold isType loadHead
      exact wpAny_bind (wpAny_loadPart (k _ _ (X _ _ ho)) (wpAny_pure q))
    · cases hcD
  ne := fun h tp dd its n sl X htp => by
    obtain ⟨cdD, hcD, _⟩ := any_some hdct
    refine Bool.eq_false_iff.mpr fun q => ?_
    have e : D = tp := Value.ref.inj (beq_iff_eq.mp q)
    subst e
    unfold clsIn at hcD
    split at hcD
    · rename_i c' d' cd' sl' ho
      have z := (X _ _ ho).symm.trans htp
      cases z
    · cases hcD
  ca := fun X I k => vi_kin_classE hga hgt hsub hdct ha hn htk hm X I k
end
end PySem.W
namespace VI
open PySem L2 PySem.Spec PyProof.Rows
/-! what is asked of an exception at hand -/
def HasD (H : Hp) (d : Option Addr) : Prop := d = none ∨ ∃ dd fs, d = some dd ∧ H dd = some (.xd fs)
theorem inst_at {X : Cx} {pins : List (Addr × Obj)} {σ : L2.St} {H : Hp} {s : Shared} {a D : Addr} {oe : Obj} {d : Option Addr} {pn : List (Addr × Obj)} (I : Inv (X.suite a ((a, oe) :: pn)) pins σ H s) (hz : Zc (.ref D) d oe) (hf : ∃ vs, oe.data = .fields vs) (hd : HasD H d) : ∃ od, PySem.W.InstAt s.heap a oe D od := by
  obtain ⟨hget, _⟩ := I.pin (a, oe) (List.mem_append.mpr (.inl List.mem_cons_self))
  obtain ⟨vs, hv⟩ := hf
  have nc : PySem.W.notCls oe = true := by unfold PySem.W.notCls; rw [hv] <;> rfl
  rcases hd with rfl | ⟨dd, fs, rfl, e⟩
  · obtain ⟨oc, od, oda, osl⟩ := oe
    obtain ⟨h1, h2⟩ := hz
    dsimp only at h1 h2 hv
    subst h1 h2 hv
    exact ⟨none, hget, rfl, rfl, trivial⟩
  · have hx : ObjOk X.prog X.w H s.heap dd (.xd fs) := I.hok dd _ e
    obtain ⟨mA, ⟨o, es, ep, ho, _⟩, _⟩ := hx
    exact ⟨some o, hget, hz.1, by unfold PySem.W.notCls; rw [hv] <;> rfl, by rw [hz.2]; exact ho⟩
/-- isinstance(e, c) -/
def rIsD (K : PySem.W.Frag) (D a : Addr) (d : Option Addr) : List V → Hp → VK → Prop := fun xs H Q => ∃ (c : V) (cv : Value) (b : Bool), xs = [.ref a, c] ∧ (∀ u, RelV c u → u = cv) ∧ PySem.W.kitOne K (.ref D) cv = some b ∧ HasD H d ∧ Q (.bl b) H
theorem call_isD {X : Cx} {a D : Addr} {oe : Obj} {d : Option Addr} {pn : List (Addr × Obj)} (C : ExcC X.K D) (hz : Zc (.ref D) d oe) (hf : ∃ vs, oe.data = .fields vs) : CallR (X.suite a ((a, oe) :: pn)) (.builtin "isinstance") (rIsD X.K D a d) := by
  intro pins s σ H xs us Q I r h
  obtain ⟨c, cv, b, rfl, hcv, e, hd, q⟩ := h
  cases r with
  | cons rx rr =>
    cases rr with
    | cons rt rr =>
      cases rr
      cases rx
      have ec := hcv _ rt
      subst ec
      obtain ⟨od, J⟩ := inst_at I hz hf hd
      exact PySem.W.kia_one (PySem.W.vi_kitx_exc C.hg C.hk C.hs C.hd C.ha C.hn C.ht C.hm) I.kIn J e (fun z => nomatch z) fun tk => ⟨.bl b, H, I.kept (t' := tk) fun _ _ z => z, rfl, q⟩
/-- isinstance(e, (c, ..)) -/
inductive XVs : List V → List Value → Prop
  | nil : XVs [] []
  | cons {v : V} {u : Value} {vs : List V} {us : List Value} : (∀ w, RelV v w → w = u) → XVs vs us → XVs (v :: vs) (u :: us)
theorem XVs.all {vs : List V} {us ws : List Value} (h : XVs vs us) (r : Vals vs ws) : ws = us := by
  induction h generalizing ws with
  | nil => cases r; rfl
  | cons k _ ih => cases r with | cons r1 r2 => rw [k _ r1, ih r2]
def rIsDT (K : PySem.W.Frag) (D a : Addr) (d : Option Addr) : List V → Hp → VK → Prop := fun xs H Q => ∃ (tp : Addr) (cs : List V) (us : List Value) (b : Bool), xs = [.ref a, .ref tp] ∧ H tp = some (.tup cs) ∧ XVs cs us ∧ PySem.W.kitAny K (.ref D) us = some b ∧ HasD H d ∧ Q (.bl b) H
theorem call_isDT {X : Cx} {a D : Addr} {oe : Obj} {d : Option Addr} {pn : List (Addr × Obj)} (C : ExcC X.K D) (hz : Zc (.ref D) d oe) (hf : ∃ vs, oe.data = .fields vs) : CallR (X.suite a ((a, oe) :: pn)) (.builtin "isinstance") (rIsDT X.K D a d) := by
  intro pins s σ H xs us Q I r h
  obtain ⟨tp, cs, us', b, rfl, hT, k, e, hd, q⟩ := h
  cases r with
  | cons rx rr =>
    cases rr with
    | cons rt rr =>
      cases rr
      cases rx
      cases rt
      obtain ⟨od, J⟩ := inst_at I hz hf hd
      obtain ⟨_, its, rv, o, h1, h2, n, h3⟩ := (show ObjOk X.prog X.w H s.heap tp (.tup cs) from I.hok tp _ hT)
      have e3 := k.all rv
      subst e3
      obtain ⟨oc, od', dt, sl⟩ := o
      simp only at h2 h3
      subst h2 h3
      exact PySem.W.kia_tup (PySem.W.vi_kitx_exc C.hg C.hk C.hs C.hd C.ha C.hn C.ht C.hm) I.kIn J h1 e (fun z => nomatch z) fun tk => ⟨.bl b, H, I.kept (t' := tk) fun _ _ z => z, rfl, q⟩
section
variable {X : Cx} {Z : Wo} {I : CI} {nm : Tb} {N : List Str} {sc : Scope}
theorem vie_exn {t : T} {c : Nat} {vs : List T} (h : t.mapF Fl.vie = .exn c vs) : t = .exn c vs := by
  cases t <;> first | exact h | cases h
theorem xis_hasD {H : Hp} {x : Xn} {cls : Value} {d : Option Addr} (h : XIs Z H x cls d) : HasD H d := h.2.2.2.imp (fun z => z.2) fun ⟨dd, fs, a, b, _⟩ => ⟨dd, fs, a, b⟩
/-- the exception behind a name -/
theorem exn_at (ok : XOk X Z I nm N sc) {F B : Addr → Prop} {H : Hp} {σ : L2.St} {env : Env} {xs : List T} {vs : List V} {Se St : List Addr} (w : Wd Z F B H σ env xs vs Se St) {i c : Nat} {us : List T} (e : env[i]? = some (some (.exn c us))) : ∃ a, σ[i]? = some (some (.ref a)) ∧ Z.xr H a c us := by
  obtain ⟨v, _, _, _, hv, _, ⟨⟨a, rfl, h⟩, _⟩, _⟩ := w.er.get e
  exact ⟨a, hv, h⟩
theorem xfl_ok (ok : XOk X Z I nm N sc) (hot : nm.hot = true) {i : Nat} {f x : Str} {np pos : Pos} (hx : ckN N sc i x = true) : PE X (.Attribute (.Name x np) f pos) (tT Z I (.xfl (.var i) f)) := by
  refine ⟨fun pins s σ H Q J h => ?_⟩
  obtain ⟨X0, a, oe, cls, d, pn, rfl, hz, hf, hxr⟩ := ok.sui hot
  obtain ⟨F, B, env, xs, vs, Se, St, w, g, p⟩ := h
  rw [evE, evE] at p
  cases he : env[i]? with
  | none => rw [he] at p; exact p.elim
  | some to =>
    cases to with
    | none => rw [he] at p; exact p.elim
    | some t =>
      rw [he] at p
      dsimp only at p
      rw [Out.bind_ok] at p
      obtain ⟨r, hr, k⟩ := Post.ofO p
      unfold xflT at hr
      split at hr
      case h_2 => cases hr
      rename_i c us ht
      obtain rfl := vie_exn ht
      obtain ⟨b, hv, xr⟩ := exn_at ok w he
      obtain ⟨rfl, ho, hi⟩ := hxr _ _ _ _ xr
      obtain ⟨C, hC, _, T, na⟩ := ok.xcs c ho
      have hcls : cls = .ref C := hi.1.trans hC
      subst hcls
      obtain ⟨j, hj, hr⟩ := Option.bind_eq_some_iff.mp hr
      rw [ok.hxf] at hj
      obtain ⟨hjl, hjf, _⟩ := List.findIdx?_eq_some_iff_getElem.mp hj
      have hjf := of_decide_eq_true hjf
      have hjs : (Z.xf c)[j]? = some f := List.getElem?_eq_some_iff.mpr ⟨hjl, hjf⟩
      have hno := na f (List.mem_of_getElem? hjs)
      rcases hi.2.2.2 with ⟨z, _⟩ | ⟨dd, fs, rfl, hd, hg⟩
      · rw [z] at hjs; simp at hjs
      obtain ⟨v, hl, im⟩ := hg j f r hjs hr
      exact (pe_xf T hno hz hf (var_ok ok hx) (by rfl)).run pins s σ H Q J ⟨.ref b, hv, rfl, rfl, dd, fs, v, rfl, hd, hl, k v H F Se St (w.push (im _ _ _)) Step.refl⟩
/-- the classes, as values -/
def xcV (X : Cx) (nm : Tb) : List XC → List V → List Value → Prop
  | [], vs, us => vs = [] ∧ us = []
  | k :: ks, vs, us => ∃ x v cv vs' us', nm.xk k = some x ∧ XNm X x v cv ∧ vs = v :: vs' ∧ us = cv :: us' ∧ xcV X nm ks vs' us'
theorem xn_pe (ok : XOk X Z I nm N sc) {k : XC} {e : Expr} (h : ckXN nm sc k e = true) : ∃ v cv, PE X e (L2.tC v) ∧ (∀ u, RelV v u → u = cv) ∧ (∀ c, I.xo c = true → PySem.W.kitOne X.K (Z.xc c) cv = some (xcB c k)) ∧ ∀ env rest, starEach (e :: rest) env = (false, eval e env) :: starEach rest env := by
  unfold ckXN at h
  split at h
  case h_2 => cases h
  rename_i x p
  obtain ⟨h1, h2, h3⟩ := and3 h
  obtain ⟨v, cv, ⟨r, r2, hm⟩, q⟩ := ok.xks k x (beq_iff_eq.mp h1)
  refine ⟨v, cv, ?_, r2, fun c hc => (q c hc).2, by intros; rfl⟩
  rcases hm with hm | ⟨hm, hb, hn⟩
  · exact pe_glob (gl_of ok h2) hm r (not_b h3)
  · exact pe_bltn (gl_of ok h2) hm hb r hn (not_b h3)
theorem xl_pa (ok : XOk X Z I nm N sc) : ∀ (ks : List XC) (es : List Expr), ckXL nm sc ks es = true → ∃ vs us, PA X es (fun _ H Q => Q vs H) ∧ XVs vs us ∧ vs.length = ks.length ∧ ∀ c, I.xo c = true → PySem.W.kitAny X.K (Z.xc c) us = some (ks.any (xcB c))
  | [], [], h => ⟨[], [], pa_nil, .nil, rfl, fun c _ => rfl⟩
  | [], _ :: _, h => by cases h
  | _ :: _, [], h => by cases h
  | k :: ks, e :: es, h => by
    have h : (ckXN nm sc k e && ckXL nm sc ks es) = true := h
    rw [Bool.and_eq_true] at h
    obtain ⟨v, cv, pe, r, q, ns⟩ := xn_pe ok h.1
    obtain ⟨vs, us, pa, xv, hl, qa⟩ := xl_pa ok ks es h.2
    refine ⟨v :: vs, cv :: us, (pa_cons pe pa (ns _ _)).imp fun σ H Q q => q, .cons r xv, by simp [hl], fun c hc => ?_⟩
    unfold PySem.W.kitAny
    rw [q c hc, List.any_cons]
    cases xcB c k with
    | true => rfl
    | false => rw [Bool.false_or]; exact qa c hc
theorem isx_ok (ok : XOk X Z I nm N sc) (hot : nm.hot = true) {i : Nat} {cs : List XC} {x y : Str} {np yp pos : Pos} {ke : Expr} (hy : y = ("isinstance" : Str)) (hgl : gl sc y = true) (hx : ckN N sc i x = true) (hk : ckXs nm sc cs ke = true) : PE X (.Call (.Name y yp) [.Name x np, ke] [] pos) (tT Z I (.isx (.var i) cs)) := by
  subst hy
  refine ⟨fun pins s σ H Q J h => ?_⟩
  have ok0 := ok
  obtain ⟨X0, a, oe, cls, d, pn, rfl, hz, hf, hxr⟩ := ok.sui hot
  obtain ⟨F, B, env, xs, vs, Se, St, w, g, p⟩ := h
  rw [evE, evE] at p
  cases he : env[i]? with
  | none => rw [he] at p; exact p.elim
  | some to =>
    cases to with
    | none => rw [he] at p; exact p.elim
    | some t =>
      rw [he] at p
      dsimp only at p
      rw [Out.bind_ok] at p
      obtain ⟨r, hr, kk⟩ := Post.ofO p
      obtain ⟨bb, hb, rfl⟩ := map_some hr
      unfold isxT at hb
      split at hb
      case h_2 => cases hb
      rename_i c us ht
      cases hb
      obtain rfl := vie_exn ht
      obtain ⟨b, hv, xr⟩ := exn_at ok w he
      obtain ⟨rfl, ho, hi⟩ := hxr _ _ _ _ xr
      obtain ⟨C, hC, EC, _, _⟩ := ok.xcs c ho
      have hcls : cls = .ref C := hi.1.trans hC
      subst hcls
      have fin : ∀ H', (∀ q o, H q = some o → H' q = some o) → Q (.bl (cs.any (xcB c))) H' := fun H' g => kk _ H' F Se St ((w.grow g).push (imm_bl _ _ _ _)) ⟨fun _ h => h, fun q o h _ => g q o h, fun q o h => ⟨o, g q o h⟩, fun _ h => .inl h, fun _ h => .inl h⟩
      have sx : starEach [Expr.Name x np, ke] X0.env = (false, eval (.Name x np) X0.env) :: starEach [ke] X0.env := rfl
      unfold ckXs at hk
      split at hk
      · rename_i k x2 p2
        obtain ⟨v, cv, pe, r2, q, ns⟩ := xn_pe ok hk
        refine (pe_callB (call_isD EC hz hf) (gl_of ok hgl) (ok.blt _ (by decide +kernel)) (by decide +kernel) (pa_cons (var_ok ok hx) (pa_cons pe pa_nil (ns _ _)) (by rfl)) (by decide +kernel) (by decide +kernel) (by rfl) (by rfl)).run pins s σ H Q J ?_
        refine ⟨.ref b, hv, v, cv, _, rfl, r2, by rw [← hC]; exact q c ho, xis_hasD hi, ?_⟩
        have := fin H fun _ _ h => h
        simpa using this
      · rename_i es tk tp
        rw [Bool.and_eq_true] at hk
        obtain ⟨vs, us, pa, xv, hl, qa⟩ := xl_pa ok cs es hk.2
        have hl2 := of_decide_eq_true hk.1
        refine (pe_callB (call_isDT EC hz hf) (gl_of ok hgl) (ok.blt _ (by decide +kernel)) (by decide +kernel) (pa_cons (var_ok ok hx) (pa_cons (pe_tup pa) pa_nil (by rfl)) (by rfl)) (by decide +kernel) (by decide +kernel) (by rfl) (by rfl)).run pins s σ H Q J ?_
        refine ⟨.ref b, hv, by rw [sizeLine_eq]; omega, fun tp2 htp => ⟨tp2, vs, us, _, rfl, upd_same, xv, by rw [← hC]; exact qa c ho, ?_, fin _ fun q o h => upd_keep htp q o h⟩⟩
        rcases xis_hasD hi with z | ⟨dd, fs, e1, e2⟩
        · exact .inl z
        · exact .inr ⟨dd, fs, e1, upd_keep htp _ _ e2⟩
      · cases hk
end
end VI

namespace VI
open PySem L2
section
variable {Z : Wo} {I : CI} {nm : Tb} {N : List Str}
theorem isi_in : (("isinstance" : Str)) ∈ bNames := by decide +kernel
theorem rng_in : (("range" : Str)) ∈ bNames := by decide +kernel
theorem enu_in : (("enumerate" : Str)) ∈ bNames := by decide +kernel
theorem zip_in : (("zip" : Str)) ∈ bNames := by decide +kernel
theorem tgNames_map {t : Expr} {tg : List Nat} (h : (tgNames t).length = tg.length) : ((tgNames t).zip tg).map (·.2) = tg := by
  rw [List.map_snd_zip]; omega
/-- nothing is swapped where no comprehension stands -/
theorem ns_of {e : Expr} (h : ∀ x p, e ≠ .Starred x p) (env : PySem.Env) (rest : List Expr) : starEach (e :: rest) env = (false, eval e env) :: starEach rest env := by
  cases e <;> first | rfl | exact absurd rfl (h _ _)
theorem _root_.L2.PTs.imp {X : Cx} {es : List Expr} {t t' : TT} (h : PTs X es t) (k : ∀ σ H Q, t' σ H Q → t σ H Q) : PTs X es t' := ⟨fun pins s σ H Q I q => h.run pins s σ H Q I (k σ H Q q)⟩
theorem _root_.L2.PO.imp {X : Cx} {e : Option Expr} {t t' : TO} (h : PO X e t) (k : ∀ σ H Q, t' σ H Q → t σ H Q) : PO X e t' := ⟨fun pins s σ H Q I q => h.run pins s σ H Q I (k σ H Q q)⟩
theorem var_form {sc : Scope} {i : Nat} {x : Expr} (h : ckE nm N sc (.var i) x = true) : ∃ y p, x = .Name y p ∧ ckN N sc i y = true := by
  unfold ckE at h; split at h <;> first | (cases h; done) | skip
  all_goals (rename_i heq; cases heq)
  exact ⟨_, _, rfl, h⟩
theorem max_in : (("max" : Str)) ∈ bNames := by decide +kernel
theorem tys_pa {X : Cx} {sc : Scope} (ok : XOk X Z I nm N sc) : ∀ (tys : List Str) (es : List Expr), ckTys sc tys es = true → PA X es (tTys tys)
  | [], es, h => by
    cases es with
    | nil => exact pa_nil
    | cons _ _ => cases h
  | ty :: r, es, h => by
    cases es with
    | nil => cases h
    | cons e es =>
      unfold ckTys at h
      split at h <;> first | (cases h; done) | skip
      all_goals (rename_i h1 h2; cases h1; first | cases h2 | skip)
      obtain ⟨h1, h2, h3⟩ := and3 h
      rw [Bool.and_eq_true] at h3
      obtain rfl := beq_iff_eq.mp h1
      obtain ⟨b1, b2, b3⟩ := ty_in h2
      exact (pa_cons (pe_bltn (v := V.ty (tyV ty)) (gl_of ok h3.1) (ok.blt _ (mem_ty h2)) b1 rfl b2 b3) (tys_pa ok r es h3.2) (by rfl))
theorem aBase {oe : Expr} (h : noCall0 oe = true) (n : Str) (env : PySem.Env) (w : Sem Value) : attributeBase oe n env w = w := by
  unfold attributeBase
  split
  · cases h
  · rfl
/-- what is walked, with the dicts -/
def tIx (Z : Wo) (I : CI) : IT → TI
  | .keys i ps => iKeys (tPl Z i ps)
  | .enuK i ps => iEnumK (tCons (tPl Z i ps) tNil)
  | it => tI Z I it
theorem _root_.L2.PE.or {X : Cx} {e : Expr} {t t' : TE} (h : PE X e t) (h' : PE X e t') : PE X e (fun σ H Q => t σ H Q ∨ t' σ H Q) := ⟨fun pins s σ H Q I q => q.elim (h.run pins s σ H Q I) (h'.run pins s σ H Q I)⟩
theorem ckPl_fs {nm : Tb} {N : List Str} {sc : Scope} {i : Nat} {rs : List PX} {e : Expr} (h : ckPl nm N sc i rs e = true) (env : PySem.Env) (x : Value) : foldedSetIterable e env x = pure x := by
  unfold ckPl at h
  split at h <;> first | (cases h; done) | rfl
theorem ckPl_ns {nm : Tb} {N : List Str} {sc : Scope} {i : Nat} {rs : List PX} {e : Expr} (h : ckPl nm N sc i rs e = true) (env : PySem.Env) (rest : List Expr) : starEach (e :: rest) env = (false, eval e env) :: starEach rest env := by
  unfold ckPl at h
  split at h <;> first | (cases h; done) | rfl
theorem ckKs_all : ∀ {ks : List Str} {es : List (Option Expr)}, ckKs ks es = true → es.all (·.isSome) = true ∧ es.length = ks.length
  | [], [], _ => ⟨rfl, rfl⟩
  | s :: r, some (.Constant (.str z) _ _) :: es, h => by
    rw [ckKs, Bool.and_eq_true] at h
    obtain ⟨a, b⟩ := ckKs_all h.2
    exact ⟨by rw [List.all_cons, a]; rfl, by simp [b]⟩
theorem ckL_len {nm : Tb} {N : List Str} {sc : Scope} : ∀ {il : IL} {es : List Expr}, ckL nm N sc il es = true → ilen il = es.length
  | .nil, [], _ => rfl
  | .cons e r, x :: es, h => by
    have h : (ckE nm N sc e x && ckL nm N sc r es) = true := h
    rw [Bool.and_eq_true] at h
    rw [ilen, List.length_cons, ckL_len h.2]
  | .nil, _ :: _, h => by cases h
  | .cons _ _, [], h => by cases h
theorem bt1 {pos : Pos} {e : Expr} {env : PySem.Env} (h : starEach [e] env = [(false, eval e env)]) : backTo pos (starEach [e] env) = (false, eval e env) :: backTo pos (starEach [] env) := by rw [h]; rfl
theorem bt2 {pos : Pos} {e : Expr} {env : PySem.Env} (h : starEach [e] env = [(false, eval e env)]) : (backTo pos (starEach [e] env)).any (·.1) = false := by rw [h]; rfl
theorem smt_facts {m : Str} (h : smtNames.contains m = true) : Slot "str" m (smtId m) ∧ typeOf (.builtin (smtId m)) = pure (.type "method_descriptor") := by
  have h := List.contains_iff_mem.mp h
  simp only [smtNames, List.mem_cons, List.not_mem_nil, or_false] at h
  rcases h with h | h | h | h | h <;> subst h
  · exact ⟨PySem.F.slot_str_join, PySem.F.type_str_join⟩
  · exact ⟨PySem.F.slot_str_split, PySem.F.type_str_split⟩
  · exact ⟨PySem.F.slot_str_startswith, PySem.F.type_str_startswith⟩
  · exact ⟨PySem.F.slot_str_index, PySem.F.type_str_index⟩
  · exact ⟨PySem.F.slot_str_find, PySem.F.type_str_find⟩
def AllNs (es : List Expr) : Prop := ∀ e ∈ es, ∀ env rest, starEach (e :: rest) env = (false, eval e env) :: starEach rest env
theorem fewL {X : Cx} {es : List Expr} {e : Expr} {cpos : Pos} (h : AllNs (e :: es)) (hl : (e :: es).length < 20) : ((backTo cpos (starEach (e :: es) X.env)).all (fun x => !x.1) && (backToKw cpos (keywordEach [] X.env)).all (fun x => x.1.isSome)
      && decide ((e :: es).length + ([] : List Keyword).length + (if ([] : List Keyword).isEmpty then 0 else 1) < 30)) = true := by
  have all : ∀ es : List Expr, AllNs es → (backTo cpos (starEach es X.env)).all (fun x => !x.1) = true := fun es => by
    induction es with
    | nil => intro _; rfl
    | cons e es ih =>
      intro h
      rw [h e List.mem_cons_self]
      show (true && (backTo cpos (starEach es X.env)).all (fun x => !x.1)) = true
      rw [ih fun e' h' => h e' (List.mem_cons_of_mem _ h')]; rfl
  rw [all _ h, decide_eq_true (by simp at hl ⊢; omega)]
  rfl
theorem call_form (o : Expr) (m : Str) (apos pos : Pos) (es : List Expr) (env : PySem.Env) (h : noCallA o = true) (hl : (apos.endLine == pos.line) = true) (hf : methodCallForm (es.length + ([] : List Keyword).length) (backTo pos (starEach es env)) (backToKw pos (keywordEach [] env)) = true) :
   eval (.Call (.Attribute o m apos) es [] pos) env = (do
      let ov ← eval o env
      standAt apos.atName
      let (f, first) ← holding [ov] (getMethod ov m (do return (← importBound o env).getD true))
      callWith pos f first (backTo pos (starEach es env)) (backToKw pos (keywordEach [] env))) := by
  rw [eval, noCallA_b h]
  unfold methodCall calleeOf methodCallPos
  rw [hf, hl]
  rfl
theorem few_ok {X : Cx} {es : List Expr} {cpos : Pos} (h : AllNs es) (hl : es.length < 20) : methodCallForm (es.length + ([] : List Keyword).length) (backTo cpos (starEach es X.env)) (backToKw cpos (keywordEach [] X.env)) = true := by
  cases es with
  | nil => rfl
  | cons e es => exact fewL h hl
theorem evL_len : ∀ {xs : IL} {env e : Env} {ts : List T}, evL I xs env = .ok ts e → ts.length = ilen xs
  | .nil, env, e, ts, h => by rw [evL] at h; cases h; rfl
  | .cons x r, env, e, ts, h => by
    rw [evL] at h
    cases h1 : evE I x env with
    | stuck => rw [h1] at h; cases h
    | exc _ _ => rw [h1] at h; cases h
    | ok t e1 =>
      rw [h1, Out.bind_ok] at h
      unfold gd at h
      split at h
      · cases h
      cases h2 : evL I r e1 with
      | stuck => rw [h2] at h; cases h
      | exc _ _ => rw [h2] at h; cases h
      | ok us e2 =>
        rw [h2, Out.bind_ok] at h
        cases h
        rw [List.length_cons, ilen, evL_len h2]
theorem dnew_imp {xs : IL} : ∀ σ H Q, tT Z I (.dct [] .nil) σ H Q → tDNewK σ H Q := fun σ H Q h d hd => by
  obtain ⟨F, B, env, xs, vs, Se, St, w, g, p⟩ := h
  have w' : Wd Z F B H σ env (xs ++ []) (vs ++ []) Se St := by simpa using w
  obtain ⟨St1, w1, s1⟩ := w'.newDic (ys := []) (ws := []) (ks := []) rfl ⟨rfl, List.nodup_nil⟩ hd
  exact p _ _ F Se St1 w1 s1
mutual
theorem sE : ∀ (ir : IE) {Z : Wo} (X : Cx) (sc : Scope) (e : Expr), XOk X Z I nm N sc → ckE nm N sc ir e = true → Snd X Z I ir e := fun ir {Z} X sc e ok h => by
  cases ir with
  | var i =>
    unfold ckE at h; split at h <;> first | (cases h; done) | skip
    all_goals (rename_i heq; cases heq)
    exact snd_of ((var_ok ok h).imp var_imp) (by intro _; rfl) rfl (by intros; rfl) (by intros; rfl)
  | mov i =>
    unfold ckE at h; split at h <;> first | (cases h; done) | skip
    all_goals (rename_i heq; cases heq)
    exact snd_of ((var_ok ok h).imp mov_imp) (by intro _; rfl) rfl (by intros; rfl) (by intros; rfl)
  | int n =>
    unfold ckE at h; split at h <;> first | (cases h; done) | skip
    all_goals (rename_i heq; cases heq)
    obtain rfl := beq_iff_eq.mp h
    exact snd_of (pe_int.imp (con_imp (imm_int _) fun env => by rw [evE])) (by intro _; rfl) rfl (by intros; rfl) (by intros; rfl)
  | bl b =>
    unfold ckE at h; split at h <;> first | (cases h; done) | skip
    all_goals (rename_i heq; cases heq)
    obtain rfl := beq_iff_eq.mp h
    exact snd_of (pe_bl.imp (con_imp (imm_bl _) fun env => by rw [evE])) (by intro _; rfl) rfl (by intros; rfl) (by intros; rfl)
  | non =>
    unfold ckE at h; split at h <;> first | (cases h; done) | skip
    all_goals (rename_i heq; cases heq)
    exact snd_of (pe_non.imp (con_imp imm_non fun env => by rw [evE])) (by intro _; rfl) rfl (by intros; rfl) (by intros; rfl)
  | str s =>
    unfold ckE at h; split at h <;> first | (cases h; done) | skip
    all_goals (rename_i heq; cases heq)
    obtain rfl := beq_iff_eq.mp h
    exact snd_of (pe_str.imp (con_imp (imm_str _) fun env => by rw [evE])) (by intro _; rfl) rfl (by intros; rfl) (by intros; rfl)
  | bop op a b =>
    unfold ckE at h; split at h <;> first | (cases h; done) | skip
    all_goals (rename_i heq; cases heq)
    obtain ⟨h1, h2, h3⟩ := and3 h
    obtain rfl := of_decide_eq_true h1
    exact snd_of ((pe_op (anyOp X _) (sE a X sc _ ok h2).pe (sE b X sc _ ok h3).pe).imp bop_imp) (by intro _; rfl) rfl (by intros; rfl) (by intros; rfl)
  | neg a =>
    unfold ckE at h; split at h <;> first | (cases h; done) | skip
    all_goals (rename_i heq; cases heq)
    exact snd_of ((pe_un un_neg (sE a X sc _ ok h).pe).imp neg_imp) (by intro _; rfl) rfl (by intros; rfl) (by intros; rfl)
  | nt a =>
    unfold ckE at h; split at h <;> first | (cases h; done) | skip
    all_goals (rename_i heq; cases heq)
    rw [Bool.and_eq_true] at h
    have s1 := sE a X sc _ ok h.2
    exact ⟨(pe_not s1.pe).imp not_imp, fun _ => (pt_not (s1.pt (not_b h.1))).imp notT_imp, (fun z => by cases z), (by intros; rfl), (by intros; rfl)⟩
  | cmp op a b =>
    unfold ckE at h; split at h <;> first | (cases h; done) | skip
    all_goals (rename_i heq; cases heq)
    obtain ⟨h1, h2, h3⟩ := and3 h
    obtain rfl := of_decide_eq_true h1
    rw [Bool.and_eq_true] at h3
    have s1 := sE a X sc _ ok h3.1
    have s2 := sE b X sc _ ok h3.2
    exact ⟨(pe_cmpR (anyOp X _) s1.pe s2.pe (not_b h2)).imp (cmp_imp ok), fun _ => (pt_cmpR (anyOp X _) s1.pe s2.pe (not_b h2)).imp fun σ H Q q => cmp_imp ok σ H _ q, (fun z => by cases z), (by intros; rfl), (by intros; rfl)⟩
  | cmp2 op op' a b c =>
    unfold ckE at h; split at h <;> first | (cases h; done) | skip
    all_goals (rename_i heq; cases heq)
    obtain ⟨h1, h2, h3⟩ := and3 h
    obtain rfl := of_decide_eq_true h1
    obtain rfl := of_decide_eq_true h2
    obtain ⟨h4, h5, h6⟩ := and3 h3
    rw [Bool.and_eq_true] at h6
    have s1 := sE a X sc _ ok h5
    have s2 := sE b X sc _ ok h6.1
    have s3 := sE c X sc _ ok h6.2
    exact ⟨(pe_chain (anyOp X _) (anyOp X _) s1.pe s2.pe s3.pe (not_b h4)).imp (cmp2_imp ok), fun _ => (pt_chain (anyOp X _) (anyOp X _) s1.pe s2.pe s3.pe (not_b h4)).imp fun σ H Q q => cmp2_imp ok σ H _ q, (fun z => by cases z), (by intros; rfl), (by intros; rfl)⟩
  | an a b =>
    unfold ckE at h; split at h <;> first | (cases h; done) | skip
    all_goals (rename_i heq; cases heq)
    obtain ⟨h1, h2, h3⟩ := and3 h
    rw [Bool.and_eq_true] at h3
    have s1 := sE a X sc _ ok h2
    have key : ∀ (y : Expr) (r : List Expr) (p : Pos), (match r with | [] => ckE nm N sc b y | _ :: _ => ckE nm N sc b (.BoolOp .And (y :: r) p)) = true → PE X (.BoolOp .And (y :: r) p) (tT Z I b) ∧ PW X (.BoolOp .And (y :: r) p) (tTest (tT Z I b)) := fun y r p h => by
      cases r with
      | nil =>
        have s2 := sE b X sc _ ok h
        exact ⟨pe_one s2.pe, pw_and1 (s2.pt (not_b h3.1))⟩
      | cons z r =>
        have s2 := sE b X sc _ ok h
        exact ⟨s2.pe, s2.pw rfl⟩
    obtain ⟨k1, k2⟩ := key _ _ _ h3.2
    have pw := (pw_and (s1.pt (not_b h1)) k2).imp (anT_imp (Z := Z) (I := I))
    exact ⟨(pe_and s1.pe k1).imp an_imp, fun _ => pw.pt, fun _ => pw, (by intros; rfl), (by intros; rfl)⟩
  | orr a b =>
    unfold ckE at h; split at h <;> first | (cases h; done) | skip
    all_goals (rename_i heq; cases heq)
    obtain ⟨h1, h2, h3⟩ := and3 h
    rw [Bool.and_eq_true] at h3
    have s1 := sE a X sc _ ok h2
    have key : ∀ (y : Expr) (r : List Expr) (p : Pos), (match r with | [] => ckE nm N sc b y | _ :: _ => ckE nm N sc b (.BoolOp .Or (y :: r) p)) = true → PE X (.BoolOp .Or (y :: r) p) (tT Z I b) ∧ PW X (.BoolOp .Or (y :: r) p) (tTest (tT Z I b)) := fun y r p h => by
      cases r with
      | nil =>
        have s2 := sE b X sc _ ok h
        exact ⟨pe_one s2.pe, pw_or1 (s2.pt (not_b h3.1))⟩
      | cons z r =>
        have s2 := sE b X sc _ ok h
        exact ⟨s2.pe, s2.pw rfl⟩
    obtain ⟨k1, k2⟩ := key _ _ _ h3.2
    have pw := (pw_or (s1.pt (not_b h1)) k2).imp (orT_imp (Z := Z) (I := I))
    exact ⟨(pe_or s1.pe k1).imp orr_imp, fun _ => pw.pt, fun _ => pw, (by intros; rfl), (by intros; rfl)⟩
  | ite c a b =>
    unfold ckE at h; split at h <;> first | (cases h; done) | skip
    all_goals (rename_i heq; cases heq)
    obtain ⟨h1, h2, h3⟩ := and3 h
    rw [Bool.and_eq_true] at h3
    have s1 := sE c X sc _ ok h2
    exact ⟨(pe_ifExp (s1.pt (not_b h1)) (sE a X sc _ ok h3.1).pe (sE b X sc _ ok h3.2).pe).imp ite_imp, (fun z => by cases z), (fun z => by cases z), (by intros; rfl), (by intros; rfl)⟩
  | lst xs =>
    unfold ckE at h; split at h <;> first | (cases h; done) | skip
    all_goals (rename_i heq; cases heq)
    exact snd_of ((pe_lst (sL xs X sc _ ok h).1).imp lst_imp) (by intro _; rfl) rfl (by intros; rfl) (by intros; rfl)
  | tup xs =>
    unfold ckE at h; split at h <;> first | (cases h; done) | skip
    all_goals (rename_i heq; cases heq)
    exact snd_of ((pe_tup (sL xs X sc _ ok h).1).imp tup_imp) (by intro _; rfl) rfl (by intros; rfl) (by intros; rfl)
  | idx a b =>
    unfold ckE at h; split at h <;> first | (cases h; done) | skip
    all_goals (rename_i heq; cases heq)
    rename_i x y _
    obtain ⟨h1, h2, h3⟩ := and3 h
    have hs : PlainIx y := fun o i => by cases y <;> first | rfl | cases h1
    exact snd_of ((pe_ix (anyIx X) (sE a X sc _ ok h2).pe (sE b X sc _ ok h3).pe hs).imp (idx_imp ok)) (by intro _; rfl) rfl (by intros; rfl) (by intros; rfl)
  | slc a lo hi =>
    unfold ckE at h; split at h <;> first | (cases h; done) | skip
    all_goals (rename_i heq; cases heq)
    obtain ⟨h1, h2, h3⟩ := and3 h
    exact snd_of ((pe_slice (anySl X) (sE a X sc _ ok h1).pe (sO lo X sc _ ok h2) (sO hi X sc _ ok h3)).imp (slc_imp ok)) (by intro _; rfl) rfl (by intros; rfl) (by intros; rfl)
  | call f xs =>
    unfold ckE at h; split at h <;> first | (cases h; done) | skip
    all_goals (rename_i heq; cases heq)
    rename_i x _ es _
    obtain ⟨h1, h2, h3⟩ := and3 h
    rw [Bool.and_eq_true] at h3
    obtain ⟨fa, fd, ps, k, g1, g2, g3, g4, g5, g6⟩ := ok.fns f x (beq_iff_eq.mp h1)
    obtain ⟨_, a2, a3⟩ := sL xs X sc es ok h3.2
    have pss : ∀ σ, PassesAt (L2.CX X.prog X.w) X σ (WE Z.ws σ) := fun σ => passAt ok.tk σ
    cases es with
    | nil =>
      exact snd_of ((pe_call0S (E := WE Z.ws) g6 g4 (gl_of ok h2) g1 g2 g3 pss (not_b h3.1)).imp fun σ H Q q => by
        have q := call_imp (X := X) g5 σ H Q q
        cases xs with
        | nil => exact tAr_nil σ H _ q
        | cons _ _ => cases h3.2) (by intro _; rfl) rfl (by intros; rfl) (by intros; rfl)
    | cons e es =>
      exact snd_of ((pe_callS (E := WE Z.ws) g6 g4 (gl_of ok h2) g1 g2 g3 pss (a2 (I.md f)) (not_b h3.1) (a3 e List.mem_cons_self X.env es) (starL (fun e' h' => a3 e' (List.mem_cons_of_mem _ h')) X.env _)).imp (call_imp (X := X) g5)) (by intro _; rfl) rfl (by intros; rfl) (by intros; rfl)
  | blt x xs =>
    unfold ckE at h; split at h <;> first | (cases h; done) | skip
    all_goals (rename_i heq; cases heq)
    rename_i y _ es _
    obtain ⟨h1, h2, h3⟩ := and3 h
    obtain rfl := beq_iff_eq.mp h1
    obtain ⟨h4, h5, h6⟩ := and3 h3
    obtain ⟨a1, a2, a3⟩ := sL xs X sc es ok h6
    obtain ⟨n1, n2⟩ := blt_names h2
    rw [Bool.and_eq_true] at h5
    obtain ⟨h5, h7⟩ := h5
    cases es with
    | nil => cases h5
    | cons e es =>
      have he := a3 e List.mem_cons_self X.env es
      have hp := fun pos => starL (fun e' h' => a3 e' (List.mem_cons_of_mem _ h')) X.env pos
      rcases blt_in h2 with ⟨id, b1, b2⟩ | ⟨T, b1, b2⟩
      · refine snd_of ((pe_callB (r := AnyCall X (bltV x)) (by rw [b1]; exact anyCall X _) (gl_of ok h4) (ok.blt x (mem_b h2)) b2 a1 n1 n2 he (hp _)).imp (blt_imp ok h7)) (by intro _; rfl) rfl (by intros; rfl) (by intros; rfl)
      · refine snd_of ((pe_callTy (r := AnyCall X (bltV x)) (by rw [b1]; exact anyCall X _) (gl_of ok h4) (ok.blt x (mem_b h2)) b2 a1 n1 n2 he (hp _)).imp (blt_imp ok h7)) (by intro _; rfl) rfl (by intros; rfl) (by intros; rfl)
  | isi a ty =>
    unfold ckE at h; split at h <;> first | (cases h; done) | skip
    all_goals (rename_i heq; cases heq)
    obtain ⟨h1, h2, h3⟩ := and3 h
    obtain ⟨h4, h5, h6⟩ := and3 h3
    rw [Bool.and_eq_true] at h6
    obtain rfl := beq_iff_eq.mp h1
    obtain rfl := beq_iff_eq.mp h4
    obtain ⟨b1, b2, b3⟩ := ty_in h5
    have s1 := sE a X sc _ ok h6.2
    refine snd_of ((pe_callB call_isi (gl_of ok h2) (ok.blt _ isi_in) (by decide +kernel) (pa_cons s1.pe (pa_cons (pe_bltn (v := V.ty (tyV ty)) (gl_of ok h6.1) (ok.blt _ (mem_ty h5)) b1 rfl b2 b3) pa_nil (by rfl)) (s1.ns _ _)) (by decide +kernel) (by decide +kernel) (s1.ns _ _) (by rfl)).imp (isi_imp ok)) (by intro _; rfl) rfl (by intros; rfl) (by intros; rfl)
  | isiN a tys =>
    unfold ckE at h; split at h <;> first | (cases h; done) | skip
    all_goals (rename_i heq; cases heq)
    obtain ⟨h1, h2, h3⟩ := and3 h
    obtain ⟨h4, h5, h6⟩ := and3 h3
    rw [Bool.and_eq_true] at h6
    obtain rfl := beq_iff_eq.mp h1
    have s1 := sE a X sc _ ok h6.2
    have h0 : tys ≠ [] := by cases tys with | nil => cases h5 | cons _ _ => exact fun z => by cases z
    refine snd_of ((pe_callB call_isiT (gl_of ok h2) (ok.blt _ isi_in) (by decide +kernel) (pa_cons s1.pe (pa_cons (pe_tup (tys_pa ok tys _ h4)) pa_nil (by rfl)) (s1.ns _ _)) (by decide +kernel) (by decide +kernel) (s1.ns _ _) (by rfl)).imp (isiN_imp ok h0 (of_decide_eq_true h6.1))) (by intro _; rfl) rfl (by intros; rfl) (by intros; rfl)
  | mxd a d =>
    unfold ckE at h; split at h <;> first | (cases h; done) | skip
    all_goals (rename_i heq; cases heq)
    obtain ⟨h1, h2, h3⟩ := and3 h
    rw [Bool.and_eq_true] at h1
    obtain ⟨h0, h1⟩ := h1
    have hot := not_b h0
    obtain ⟨h4, h5, h6⟩ := and3 h3
    obtain rfl := beq_iff_eq.mp h1
    obtain rfl := beq_iff_eq.mp h4
    have s1 := sE a X sc _ ok h5
    have s2 := sE d X sc _ ok h6
    refine snd_of ((pe_callBK (ks := [Str.ofString "default"]) (ck_maxD (ok.calm hot) ok.hu) (gl_of ok h2) (ok.blt _ max_in) (by decide +kernel) (pa_cons s1.pe pa_nil (s1.ns _ _)) (pk_cons s2.pe pk_nil) (by decide +kernel) (by decide +kernel) (bt1 (s1.ns _ _)) (bt2 (s1.ns _ _)) (by rfl) (by rfl) (by rfl)).imp (mxd_imp ok hot)) (by intro _; rfl) rfl (by intros; rfl) (by intros; rfl)
  | gv x =>
    unfold ckE at h; split at h <;> first | (cases h; done) | skip
    all_goals (rename_i heq; cases heq)
    obtain ⟨h1, h2, h3⟩ := and3 h
    obtain rfl := beq_iff_eq.mp h1
    cases hg : I.gl x with
    | some t =>
      obtain ⟨u, v, g1, g2, g3⟩ := ok.gls x t hg
      exact snd_of ((pe_glob (v := v) (gl_of ok h2) g1 g2 (not_b h3)).imp (gv_imp hg g3)) (by intro _; rfl) rfl (by intros; rfl) (by intros; rfl)
    | none => exact snd_of ⟨fun pins s σ H Q I q => (gv_none (t := fun _ _ _ => False) hg σ H Q q).elim⟩ (by intro _; rfl) rfl (by intros; rfl) (by intros; rfl)
  | smt m o xs =>
    unfold ckE at h; split at h <;> first | (cases h; done) | skip
    all_goals (rename_i heq; cases heq)
    obtain ⟨h1, h2, h3⟩ := and3 h
    obtain ⟨h4, h5, h6⟩ := and3 h3
    rw [Bool.and_eq_true] at h6
    obtain rfl := beq_iff_eq.mp h1
    have s1 := sE o X sc _ ok h6.1
    cases xs with
    | nil => cases h6.2
    | cons e r =>
      have h7 := h6.2
      change (ckE nm N sc e _ && ckL nm N sc r []) = true at h7
      rw [Bool.and_eq_true] at h7
      have s2 := sE e X sc _ ok h7.1
      cases r with
      | cons _ _ => cases h7.2
      | nil =>
        obtain ⟨f1, f2⟩ := smt_facts h2
        refine snd_of ((pe_m1 f1 f2 (anyMS X _) s1.pe s2.pe (s2.ns _ _) (aBase h4 _ _ _) h5).imp (smt_imp ok fun σ H Q q => ?_)) (by intro _; rfl) rfl (by intros; rfl) (by intros; rfl)
        exact tT_mono (tL_cons (e := e) (r := .nil) σ H Q q) fun v H1 z => tL_nil σ H1 _ z
  | fld c k a =>
    unfold ckE at h; split at h <;> first | (cases h; done) | skip
    all_goals (rename_i heq; cases heq)
    obtain ⟨h1, h2, h3⟩ := and3 h
    exact snd_of ((pe_fld (sE a X sc _ ok h3).pe (noCallA_b h2 _ _ _)).imp (fld_imp ok (beq_iff_eq.mp h1))) (by intro _; rfl) rfl (by intros; rfl) (by intros; rfl)
  | dct ks xs =>
    unfold ckE at h; split at h <;> first | (cases h; done) | skip
    all_goals (rename_i heq; cases heq)
    rename_i es vs pos
    obtain ⟨h1, h2, h3⟩ := and3 h
    obtain ⟨a1, a2⟩ := ckKs_all h1
    have a3 := ckL_len h3
    have a4 : ilen xs = ks.length ∨ ilen xs ≠ ks.length := Decidable.em _
    rcases a4 with a4 | a4
    · cases es with
      | nil =>
        cases ks with
        | cons _ _ => cases a2
        | nil =>
          cases xs with
          | cons _ _ => cases a4
          | nil =>
            cases vs with
            | cons _ _ => cases a3
            | nil => exact snd_of (pe_dnewK.imp (dnew_imp (xs := .nil))) (by intro _; rfl) rfl (by intros; rfl) (by intros; rfl)
      | cons e0 es => exact snd_of ((pe_disp (sP xs X sc vs ok ks _ h1 h3 (a4.symm ▸ rfl) pos) a1 (by rw [a2, ← a4, a3]) (fun z => by cases z) (of_decide_eq_true h2).1).imp (dct_imp a4)) (by intro _; rfl) rfl (by intros; rfl) (by intros; rfl)
    · exact absurd (by rw [a3, ← (of_decide_eq_true h2).2, a2]) a4
  | meth c f o xs =>
    unfold ckE at h; split at h <;> first | (cases h; done) | skip
    all_goals (rename_i heq; cases heq)
    rename_i oe m apos es pos
    obtain ⟨h1, h2, h3⟩ := and3 h
    obtain ⟨h4, h5, h6⟩ := and3 h3
    rw [Bool.and_eq_true] at h6
    obtain ⟨hnot, cl, fa, mth, fd, ps, k, bd, room, hl, F⟩ := ok.mts c f m (beq_iff_eq.mp h1)
    obtain ⟨_, a2, a3⟩ := sL xs X sc es ok h6.2
    have pss : ∀ σ, PassesAt (L2.CX X.prog X.w) X σ (WE Z.ws σ) := fun σ => passAt ok.tk σ
    have room' : Room k X.A := room.mono (by omega)
    have hf := few_ok (X := X) (cpos := pos) a3 (of_decide_eq_true h5)
    have ht := fun es' (e : es' = es) => call_form oe m apos pos es' X.env h2 h4 (by rw [e]; exact hf)
    have go : ∀ {te : TE} {ms : List Md}, PE X oe te → (∀ {ta : TA}, (∀ σ H Q, tAr Z I ms xs σ H Q → ta σ H Q) → ∀ σ H Q, tT Z I (.meth c f o xs) σ H Q → VI.tMethS (Z.cls c) m (spOf Z I f ps.length) (WE Z.ws) te ta σ H Q) → Snd X Z I (.meth c f o xs) (.Call (.Attribute oe m apos) es [] pos) := fun {te ms} po imp => by
      cases es with
      | nil =>
        refine snd_of ((VI.pe_meth0S (E := WE Z.ws) po cl mth F room' bd pss (ht [] rfl)).imp (imp fun σ H Q q => ?_)) (by intro _; rfl) rfl (by intros; rfl) (by intros; rfl)
        cases xs with
        | nil => exact tAr_nil σ H _ q
        | cons _ _ => cases h6.2
      | cons e es =>
        exact snd_of ((VI.pe_methS (E := WE Z.ws) po cl mth F room' bd pss (a2 ms) (a3 e List.mem_cons_self X.env es) (starL (fun e' h' => a3 e' (List.mem_cons_of_mem _ h')) X.env _) (ht _ rfl)).imp (imp fun _ _ _ q => q)) (by intro _; rfl) rfl (by intros; rfl) (by intros; rfl)
    cases hmd : I.md f with
    | nil =>
      refine snd_of ⟨fun pins s σ H Q I q => ?_⟩ (by intro _; rfl) rfl (by intros; rfl) (by intros; rfl)
      exfalso
      obtain ⟨F, B, env, ys, ws, Se, St, w, g, p⟩ := q
      rw [evE, hmd] at p
      exact p
    | cons md ms =>
      by_cases hio : md = .io
      · subst hio
        cases o with
        | var i =>
          obtain ⟨y, p, rfl, hy⟩ := var_form h6.1
          exact go (ms := ms) (var_ok ok hy) (fun hta => meth_io ok hmd hl hnot hta)
        | _ =>
          refine snd_of ⟨fun pins s σ H Q I q => ?_⟩ (by intro _; rfl) rfl (by intros; rfl) (by intros; rfl)
          exfalso
          obtain ⟨F, B, env, ys, ws, Se, St, w, g, p⟩ := q
          rw [evE, hmd] at p
          exact p
      · exact go (ms := ms) (sE o X sc _ ok h6.1).pe (fun hta => meth_bor ok hmd hio hl hnot hta)
  | new c f xs =>
    unfold ckE at h; split at h <;> first | (cases h; done) | skip
    all_goals (rename_i heq; cases heq)
    rename_i x _ es _
    obtain ⟨h1, h2, h3⟩ := and3 h
    rw [Bool.and_eq_true] at h3
    obtain ⟨mgx, fa, mk, fd, ps, k, bd, room, hl, F⟩ := ok.cns c x f (beq_iff_eq.mp h1)
    obtain ⟨_, a2, a3⟩ := sL xs X sc es ok h3.2
    have pss : ∀ σ, PassesAt (L2.CX X.prog X.w) X σ (WE Z.ws σ) := fun σ => passAt ok.tk σ
    cases es with
    | nil =>
      refine snd_of ((VI.pe_make0S (E := WE Z.ws) mk F room (gl_of ok h2) mgx bd pss (not_b h3.1)).imp (new_imp hl fun σ H Q q => ?_)) (by intro _; rfl) rfl (by intros; rfl) (by intros; rfl)
      cases xs with
      | nil => exact tAr_nil σ H _ q
      | cons _ _ => cases h3.2
    | cons e es => exact snd_of ((VI.pe_makeS (E := WE Z.ws) mk F room (gl_of ok h2) mgx bd pss (a2 (I.md f).tail) (not_b h3.1) (a3 e List.mem_cons_self X.env es) (starL (fun e' h' => a3 e' (List.mem_cons_of_mem _ h')) X.env _)).imp (new_imp hl fun _ _ _ q => q)) (by intro _; rfl) rfl (by intros; rfl) (by intros; rfl)
  | lmt m o xs =>
    unfold ckE at h; split at h <;> first | (cases h; done) | skip
    all_goals (rename_i heq; cases heq)
    obtain ⟨h1, h2, h3⟩ := and3 h
    obtain ⟨h4, h5, h6⟩ := and3 h3
    rw [Bool.and_eq_true] at h6
    obtain rfl := beq_iff_eq.mp h1
    obtain rfl := beq_iff_eq.mp h2
    have s1 := sE o X sc _ ok h6.1
    obtain ⟨a1, a2, a3⟩ := sL xs X sc _ ok h6.2
    exact snd_of ((pe_bm PySem.F.plainAttrs_list PySem.F.slot_list_index PySem.F.type_list_index mt_index s1.pe a1 (aBase h4 _ _ _) (fewL a3 (by simp)) h5 (a3 _ List.mem_cons_self _ _) (by rfl)).imp (lmt_imp ok)) (by intro _; rfl) rfl (by intros; rfl) (by intros; rfl)
  | popE i ps n => unfold ckE at h; cases h
  | isx a cs =>
    unfold ckE at h; split at h <;> first | (cases h; done) | skip
    all_goals (rename_i heq; cases heq)
    obtain ⟨h1, h2, h3⟩ := and3 h
    rw [Bool.and_eq_true] at h2 h3
    exact snd_of (isx_ok ok h1 (beq_iff_eq.mp h2.1) h2.2 h3.1 h3.2) (by intro _; rfl) rfl (by intros; rfl) (by intros; rfl)
  | xfl a f =>
    unfold ckE at h; split at h <;> first | (cases h; done) | skip
    all_goals (rename_i heq; cases heq)
    obtain ⟨h1, h2, h3⟩ := and3 h
    obtain rfl := beq_iff_eq.mp h2
    exact snd_of (xfl_ok ok h1 h3) (by intro _; rfl) rfl (by intros; rfl) (by intros; rfl)
  | comp tg it c elt =>
    unfold ckE at h; split at h <;> first | (cases h; done) | skip
    all_goals (rename_i heq; cases heq)
    obtain ⟨h1, h2, h3⟩ := and3 h
    rw [Bool.and_eq_true] at h1
    obtain ⟨h0, h1⟩ := h1
    have hot := not_b h0
    obtain ⟨h4, h5, h6⟩ := and3 h3
    rw [Bool.and_eq_true] at h6
    have ht := tgNames_map (of_decide_eq_true h2)
    refine snd_of ?_ (by intro _; rfl) rfl (by intros; rfl) (by intros; rfl)
    rename_i e0 t0 i0 ifs0 scope0 pos0
    have pl : PE X (.ListComp e0 [⟨t0, i0, ifs0, 0⟩] scope0 pos0) (tLc (tIx Z I it) (tgR Z tg) (tC Z.nox I c) (tT Z.nox I elt) (((tgNames t0).zip tg).map (·.2))) := pe_lc (wi := tIx Z I it) (g := tgR Z tg) (tt := tC Z.nox I c) (te := tT Z.nox I elt) (ok.calm hot) (by rw [ok.hN]; exact ok.nd) (sIT it X sc _ _ ok h5).1 (by rw [ok.hN, ok.hsc]; exact blkOk_by h1)
      (fun s H C cl fp => pg_of (ok.blk hot s H _ C cl fp) hot (fun z => by cases z) h4) (fun s H C cl fp => sC c _ _ _ (ok.blk hot s H _ C cl fp) h6.1) (fun s H C cl fp => (sE elt _ _ _ (ok.blk hot s H _ C cl fp) h6.2).pe) ((sIT it X sc _ _ ok h5).2 X.env)
    rw [ht] at pl
    cases it with
    | keys i ps => exact (L2.PE.or pl (pe_lock pl)).imp compk_imp
    | enuK i ps => exact (L2.PE.or pl (pe_lock pl)).imp compe_imp
    | _ => exact pl.imp comp_ok
/-- the pairs of a display -/
theorem sP : ∀ (il : IL) {Z : Wo} (X : Cx) (sc : Scope) (es : List Expr), XOk X Z I nm N sc → ∀ (ks : List Str) (keys : List (Option Expr)), ckKs ks keys = true → ckL nm N sc il es = true → ilen il = ks.length → ∀ pos, PPs X pos keys es (trsOf Z I ks il) := fun il {Z} X sc es ok ks keys hk h hl pos => by
  cases il with
  | nil =>
    cases ks with
    | cons _ _ => cases hl
    | nil =>
      cases es with
      | cons _ _ => cases h
      | nil =>
        cases keys with
        | cons _ _ => cases hk
        | nil => exact pps_nil
  | cons e r =>
    cases ks with
    | nil => cases hl
    | cons s ks =>
      cases es with
      | nil => cases h
      | cons x es =>
        have h : (ckE nm N sc e x && ckL nm N sc r es) = true := h
        rw [Bool.and_eq_true] at h
        cases keys with
        | nil => cases hk
        | cons k0 keys =>
          cases k0 with
          | none => cases hk
          | some k0 =>
            cases k0 <;> first | (cases hk; done) | skip
            rename_i cc kd cp
            cases cc <;> first | (cases hk; done) | skip
            rename_i z
            have hk : (s == z && ckKs ks keys) = true := hk
            rw [Bool.and_eq_true] at hk
            obtain rfl := beq_iff_eq.mp hk.1
            exact pps_cons pe_str (sE e X sc x ok h.1).pe (sP r X sc es ok ks _ hk.2 h.2 (by simpa [ilen] using hl) pos)
theorem sC : ∀ (c : IO) {Z : Wo} (X : Cx) (sc : Scope) (ifs : List Expr), XOk X Z I nm N sc → ckC nm N sc c ifs = true → PTs X ifs (tC Z I c) := fun c {Z} X sc ifs ok h => by
  cases c with
  | no =>
    cases ifs with
    | cons _ _ => cases h
    | nil =>
        refine pts_nil.imp fun σ H Q q => ?_
        obtain ⟨F, B, env, xs, vs, Se, St, w, nv, p⟩ := q
        rw [evC] at p
        exact p H F Se St w Step.refl
  | so e =>
    unfold ckC at h; split at h <;> first | (cases h; done) | skip
    all_goals (rename_i heq; cases heq)
    rw [Bool.and_eq_true] at h
    refine (pts_one ((sE e X sc _ ok h.2).pt (not_b h.1))).imp fun σ H Q q => ?_
    obtain ⟨F, B, env, xs, vs, Se, St, w, nv, p⟩ := q
    rw [evC] at p
    refine seq1 (R := fun x H1 => ∃ k, x = .bl k ∧ Q k H1) w (.inr nv) p fun x e1 v H1 F1 Se1 St1 w1 s1 _ p1 => ?_
    obtain ⟨f0, f2, rfl, r, w0⟩ := w1.pop
    cases x <;> first | exact p1.elim | skip
    obtain rfl := r.1
    exact ⟨_, rfl, p1 H1 F1 Se1 f0 w0 (s1.trans (Step.le fun a => by simp))⟩
theorem sO : ∀ (o : IO) {Z : Wo} (X : Cx) (sc : Scope) (e : Option Expr), XOk X Z I nm N sc → ckO nm N sc o e = true → PO X e (tOo Z I o) := fun o {Z} X sc e ok h => by
  cases o with
  | no =>
    cases e with
    | some _ => cases h
    | none =>
        refine po_none.imp fun σ H Q q => ?_
        obtain ⟨F, B, env, xs, vs, Se, St, w, g, p⟩ := q
        rw [evO] at p
        obtain ⟨l', hl, k⟩ := p
        cases hl
        exact k H F Se St w Step.refl
  | so e0 =>
    cases e with
    | none => cases h
    | some x =>
        refine (po_some (sE e0 X sc x ok h).pe).imp fun σ H Q q => ?_
        obtain ⟨F, B, env, xs, vs, Se, St, w, g, p⟩ := q
        rw [evO] at p
        refine seq1 (R := fun x H1 => ∃ i, x = .int i ∧ Q (some i) H1) w g p fun x e1 v H1 F1 Se1 St1 w1 s1 _ p1 => ?_
        obtain ⟨f0, f2, rfl, r, w0⟩ := w1.pop
        obtain ⟨l', hl, k⟩ := p1
        cases x <;> first | (cases hl; done) | skip
        cases hl
        obtain rfl := r.1
        exact ⟨_, rfl, k H1 F1 Se1 f0 w0 (s1.trans (Step.le fun a => by simp))⟩
theorem sL : ∀ (il : IL) {Z : Wo} (X : Cx) (sc : Scope) (es : List Expr), XOk X Z I nm N sc → ckL nm N sc il es = true → PA X es (tL Z I il) ∧ (∀ ms, PA X es (tAr Z I ms il)) ∧ AllNs es := fun il {Z} X sc es ok h => by
  cases il with
  | nil =>
    cases es with
    | cons _ _ => cases h
    | nil => exact ⟨pa_nil.imp tL_nil, fun ms => pa_nil.imp tAr_nil, fun _ z => by cases z⟩
  | cons e r =>
    cases es with
    | nil => cases h
    | cons x es =>
      have h : (ckE nm N sc e x && ckL nm N sc r es) = true := h
      rw [Bool.and_eq_true] at h
      have s1 := sE e X sc x ok h.1
      obtain ⟨a1, a2, a3⟩ := sL r X sc es ok h.2
      refine ⟨(pa_cons s1.pe a1 (s1.ns _ _)).imp tL_cons, fun ms => ?_, fun e' z => ?_⟩
      · cases ms with
        | nil =>
            refine (pa_cons s1.pe a1 (s1.ns _ _)).imp fun σ H Q q => ?_
            obtain ⟨F, B, env, xs, vs, Se, St, w, g, p⟩ := q
            rw [evA] at p
            exact p.elim
        | cons m ms =>
          by_cases hm : m = .io
          · subst hm
            cases e with
            | var i =>
              obtain ⟨y, p, rfl, h1⟩ := var_form h.1
              exact (pa_cons (var_ok ok h1) (a2 ms) (s1.ns _ _)).imp tAr_io
            | _ =>
                refine (pa_cons s1.pe a1 (s1.ns _ _)).imp fun σ H Q q => ?_
                obtain ⟨F, B, env, xs, vs, Se, St, w, g, p⟩ := q
                rw [evA] at p
                exact p.elim
                all_goals (intro i z; cases z)
          · exact (pa_cons s1.pe (a2 ms) (s1.ns _ _)).imp (tAr_cons (ms := m :: ms) (by simpa using hm) (by simp))
      · rcases List.mem_cons.mp z with z | z
        · subst z; exact s1.ns
        · exact a3 e' z
theorem sIT : ∀ (it : IT) {Z : Wo} (X : Cx) (sc : Scope) (tg e : Expr), XOk X Z I nm N sc → ckIT nm N sc it tg e = true → PI X tg e (tIx Z I it) ∧ ∀ env x, foldedSetIterable e env x = pure x := fun it {Z} X sc tg e ok h => by
  cases it with
  | keys i ps =>
    have h : ckPl nm N sc i ps.reverse e = true := h
    have pl := pl_ok ok i ps.reverse e h
    rw [List.reverse_reverse] at pl
    exact ⟨pi_keys pl, ckPl_fs h⟩
  | enuK i ps =>
    unfold ckIT at h; split at h <;> first | (cases h; done) | skip
    all_goals (rename_i heq; cases heq)
    obtain ⟨h1, h2, h3⟩ := and3 h
    obtain rfl := beq_iff_eq.mp h1
    have pl := pl_ok ok i ps.reverse _ h3
    rw [List.reverse_reverse] at pl
    exact ⟨pi_enumK (gl_of ok h2) (ok.blt _ enu_in) (pa_cons pl pa_nil (ckPl_ns h3 _ _)) (ckPl_ns h3 _ _), by intros; rfl⟩
  | seq a =>
    have s1 := sE a X sc e ok h
    refine ⟨((pi_list s1.pe).or ((pi_tup s1.pe).or (pi_str s1.pe))).imp (seq_imp ok), s1.fs⟩
  | rng1 a =>
    unfold ckIT at h; split at h <;> first | (cases h; done) | skip
    all_goals (rename_i heq; cases heq)
    obtain ⟨h1, h2, h3⟩ := and3 h
    obtain rfl := beq_iff_eq.mp h1
    have s1 := sE a X sc _ ok h3
    exact ⟨(pi_range1 (gl_of ok h2) (ok.blt _ rng_in) (pa_cons s1.pe pa_nil (s1.ns _ _)) (s1.ns _ _)).imp rng1_imp, by intros; rfl⟩
  | rng2 a b =>
    unfold ckIT at h; split at h <;> first | (cases h; done) | skip
    all_goals (rename_i heq; cases heq)
    obtain ⟨h1, h2, h3⟩ := and3 h
    rw [Bool.and_eq_true] at h3
    obtain rfl := beq_iff_eq.mp h1
    have s1 := sE a X sc _ ok h3.1
    have s2 := sE b X sc _ ok h3.2
    have n2 : starEach [_] X.env = [(false, eval _ X.env)] := s2.ns X.env []
    exact ⟨(pi_range2 (gl_of ok h2) (ok.blt _ rng_in) (pa_cons s1.pe (pa_cons s2.pe pa_nil (s2.ns _ _)) (s1.ns _ _)) ((s1.ns _ _).trans (by rw [n2])) n2).imp rng2_imp, by intros; rfl⟩
  | enu a =>
    unfold ckIT at h; split at h <;> first | (cases h; done) | skip
    all_goals (rename_i heq; cases heq)
    obtain ⟨h1, h2, h3⟩ := and3 h
    obtain rfl := beq_iff_eq.mp h1
    have s1 := sE a X sc _ ok h3
    exact ⟨(pi_enum (gl_of ok h2) (ok.blt _ enu_in) (pa_cons s1.pe pa_nil (s1.ns _ _)) (s1.ns _ _)).imp (enu_imp ok), by intros; rfl⟩
  | zip a b =>
    unfold ckIT at h; split at h <;> first | (cases h; done) | skip
    all_goals (rename_i heq; cases heq)
    obtain ⟨h1, h2, h3⟩ := and3 h
    rw [Bool.and_eq_true] at h3
    obtain rfl := beq_iff_eq.mp h1
    have s1 := sE a X sc _ ok h3.1
    have s2 := sE b X sc _ ok h3.2
    have n2 : starEach [_] X.env = [(false, eval _ X.env)] := s2.ns X.env []
    exact ⟨(pi_zip (gl_of ok h2) (ok.blt _ zip_in) (pa_cons s1.pe (pa_cons s2.pe pa_nil (s2.ns _ _)) (s1.ns _ _)) (s1.ns _ _) (by rw [n2]; rfl)).imp (zip_imp ok), by intros; rfl⟩
end
end
end VI

namespace VI
open PySem L2
theorem _root_.L2.PS.imp {X : Cx} {e : Stmt} {t t' : TS} (h : PS X e t) (k : ∀ D σ H, t' D σ H → t D σ H) : PS X e t' := ⟨fun pins s σ H D I q => h.run pins s σ H D I (k D σ H q)⟩
theorem _root_.L2.PSs.imp {X : Cx} {e : List Stmt} {t t' : TS} (h : PSs X e t) (k : ∀ D σ H, t' D σ H → t D σ H) : PSs X e t' := ⟨fun pins s σ H D I q => h.run pins s σ H D I (k D σ H q)⟩
def PostS (J : Xn → Env → Prop) (o : SOut) (KN : Env → Prop) (KR : T → Env → Prop) : Prop := match o with | .next e => KN e | .ret t e => KR t e | .exc x e => J x e | .stuck => False
section
variable {J J' : Xn → Env → Prop}
theorem PostS.bind {m : SOut} {f : Env → SOut} {KN : Env → Prop} {KR : T → Env → Prop} (h : PostS J (m.bind f) KN KR) : PostS J m (fun e => PostS J (f e) KN KR) KR := by cases m <;> exact h
theorem PostS.thn {α : Type} {m : Out α} {f : α → Env → SOut} {KN : Env → Prop} {KR : T → Env → Prop} (h : PostS J (m.thn f) KN KR) : Post J m fun a e => PostS J (f a e) KN KR := by cases m <;> exact h
theorem PostS.imp {m : SOut} {KN KN' : Env → Prop} {KR KR' : T → Env → Prop} (h : PostS J m KN KR) (j : ∀ x e, J x e → J' x e) (a : ∀ e, KN e → KN' e) (b : ∀ t e, KR t e → KR' t e) : PostS J' m KN' KR' := by
  cases m with
  | next e => exact a e h
  | ret t e => exact b t e h
  | exc x e => exact j x e h
  | stuck => exact h
theorem PostS.noK {m : SOut} {it : IT} {KN : Env → Prop} {KR : T → Env → Prop} (h : PostS J (m.noK it) KN KR) : PostS J m KN KR := by
  cases m with
  | next e => cases it <;> exact h
  | ret t e => cases it <;> exact h
  | exc x e => cases it <;> first | exact h | exact h.elim
  | stuck => cases it <;> exact h
theorem PostS.noKk {m : SOut} {i : Nat} {ps : List PX} {KN : Env → Prop} {KR : T → Env → Prop} (h : PostS J (m.noK (.keys i ps)) KN KR) : PostS J' m KN KR := by
  cases m with
  | next e => exact h
  | ret t e => exact h
  | exc x e => exact h.elim
  | stuck => exact h
theorem PostS.noKe {m : SOut} {i : Nat} {ps : List PX} {KN : Env → Prop} {KR : T → Env → Prop} (h : PostS J (m.noK (.enuK i ps)) KN KR) : PostS J' m KN KR := by
  cases m with
  | next e => exact h
  | ret t e => exact h
  | exc x e => exact h.elim
  | stuck => exact h
end
section
variable (Z : Wo) (as : List Nat) (D : Ends) (F B : Addr → Prop) (H : Hp) (σ : L2.St) (xs : List T) (vs : List V) (S : List Addr)
/-- what is wanted behind a statement -/
def KN (e : Env) : Prop := ∀ σ' H' F' Se' St', Wd Z F' B H' σ' e xs vs Se' St' → Step F H S F' H' (Se' ++ St') → Off as σ σ' → D.nx σ' H'
def KR (t : T) (e : Env) : Prop := ∀ v σ' H' F' Se' St', Wd Z F' B H' σ' e (xs ++ [t]) (vs ++ [v]) Se' St' → Step F H S F' H' (Se' ++ St') → Off as σ σ' → D.rt v H'
def KX (x : Xn) (e : Env) : Prop := ∀ σ' cls d H' F' Se', XIs Z H' x cls d → Wd Z F' B H' σ' e [] [] Se' [] → Step F H S F' H' Se' → Off as σ σ' → Z.ws cls d σ' H'
end
theorem nv0 {xs : List T} (h : xs = []) : vwL xs = false := by rw [h]; rfl
def tS (Z : Wo) (I : CI) (as : List Nat) (st : IS) : TS := fun D σ H => ∃ F B env xs vs Se St, Wd Z F B H σ env xs vs Se St ∧ xs = [] ∧ PostS (KX Z as F B H σ (Se ++ St)) (exS I st env) (KN Z as D F B H σ xs vs (Se ++ St)) (KR Z as D F B H σ xs vs (Se ++ St))
def tB (Z : Wo) (I : CI) (as : List Nat) (b : IB) : TS := fun D σ H => ∃ F B env xs vs Se St, Wd Z F B H σ env xs vs Se St ∧ xs = [] ∧ PostS (KX Z as F B H σ (Se ++ St)) (exB I b env) (KN Z as D F B H σ xs vs (Se ++ St)) (KR Z as D F B H σ xs vs (Se ++ St))
section
variable {Z : Wo} {I : CI} {as : List Nat} {D : Ends} {F B F1 : Addr → Prop} {H H1 : Hp} {σ σ1 : L2.St} {env e1 : Env} {xs ys : List T} {vs ws : List V} {Se St S S1 : List Addr} {t x y : T} {v u : V}
theorem KN.after {e : Env} (k : KN Z as D F B H σ xs vs S e) (s : Step F H S F1 H1 S1) (o : Off as σ σ1) : KN Z as D F1 B H1 σ1 xs vs S1 e := fun σ' H' F' Se' St' w s' o' => k σ' H' F' Se' St' w (s.trans s') (o.trans o')
theorem KR.after {t : T} {e : Env} (k : KR Z as D F B H σ xs vs S t e) (s : Step F H S F1 H1 S1) (o : Off as σ σ1) : KR Z as D F1 B H1 σ1 xs vs S1 t e := fun v σ' H' F' Se' St' w s' o' => k v σ' H' F' Se' St' w (s.trans s') (o.trans o')
theorem KX.after {x : Xn} {e : Env} (k : KX Z as F B H σ S x e) (s : Step F H S F1 H1 S1) (o : Off as σ σ1) : KX Z as F1 B H1 σ1 S1 x e := fun σ' cls d H' F' Se' hx w s' o' => k σ' cls d H' F' Se' hx w (s.trans s') (o.trans o')
theorem KX.nx {x : Xn} {e : Env} (k : KX Z as F B H σ S x e) : NxtX Z F B H σ S x e := fun cls d H' F' Se' hx w s' => k σ cls d H' F' Se' hx w s' Off.refl
theorem PostS.thnX {α : Type} {m : Out α} {f : α → Env → SOut} {KN : Env → Prop} {KR : T → Env → Prop} (h : PostS (KX Z as F B H σ S) (m.thn f) KN KR) : Post (NxtX Z F B H σ S) m fun a e => PostS (KX Z as F B H σ S) (f a e) KN KR := (PostS.thn h).mono fun _ _ k => k.nx
theorem PostS.after {m : SOut} (k : PostS (KX Z as F B H σ S) m (KN Z as D F B H σ xs vs S) (KR Z as D F B H σ xs vs S)) (s : Step F H S F1 H1 S1) (o : Off as σ σ1) : PostS (KX Z as F1 B H1 σ1 S1) m (KN Z as D F1 B H1 σ1 xs vs S1) (KR Z as D F1 B H1 σ1 xs vs S1) :=
  k.imp (fun _ _ k => k.after s o) (fun _ k => k.after s o) fun _ _ k => k.after s o
/-- an own list in a slot is written anew -/
theorem Wd.updSlot (w : Wd Z F B H σ env (xs ++ ys) (vs ++ ws) Se St) (hl : ys.length = ws.length) (nv : vwL (xs ++ ys) = false) {i : Nat} {a : List T} (he : env[i]? = some (some (.lst .own a))) :
    ∃ p ps g, σ[i]? = some (some (.ref p)) ∧ H p = some (.lst ps) ∧ RepL Z ⟨F, B, fun _ => False⟩ H (a ++ ys) (ps ++ ws) g ∧ ∀ bs us g', (∀ a, cn a g' ≤ cn a g) → RepL Z ⟨F, B, fun _ => False⟩ H bs us g' →
      ∃ Se' St', Wd Z F B (upd H p (.lst us)) σ (env.set i (some (.lst .own bs))) xs vs Se' St' ∧ Step F H (Se ++ St) F (upd H p (.lst us)) (Se' ++ St') := by
  obtain ⟨f1, f2, rfl, r, w'⟩ := w.split' hl
  obtain ⟨v0, k1, k2, k3, hv, rfl, ra, d⟩ := w.er.get he
  obtain ⟨p, ps, fa, rfl, _, hp, rfl, _, ra⟩ := ra
  have nvx : vwL xs = false ∧ vwL ys = false := by rw [vwL_append, Bool.or_eq_false_iff] at nv; exact nv
  have r' := RepL.noW (W' := fun _ => False) ys ws f2 nvx.2 r
  have rx := RepL.noW (W' := fun _ => False) xs vs f1 nvx.1 w'.tr
  refine ⟨p, ps, fa ++ f2, hv, hp, ra.append r', fun bs us g' hg rb => ?_⟩
  have nd := w.nd
  have cp : cn p k1 = 0 ∧ cn p k3 = 0 ∧ cn p f1 = 0 ∧ cn p fa = 0 ∧ cn p f2 = 0 := by have := nd p; simp [hd_own] at this; omega
  have nFB : ¬ (F p ∨ B p) := fun h => by have := w.dj p h; simp [hd_own] at this
  have other : ∀ a o, H a = some o → a ≠ p → upd H p (.lst us) a = some o := fun a o h n => by rw [upd_ne n]; exact h
  have away : ∀ (S0 : List Addr), cn p S0 = 0 → ∀ a o, H a = some o → Leans ⟨F, B, fun _ => False⟩ S0 a o → upd H p (.lst us) a = some o := fun S0 h0 a o h l => by
    refine other a o h fun z => ?_
    subst z
    rw [hp] at h; cases h
    rcases l with l | l | l | l | l
    · exact l trivial
    · have := cn_pos.mpr l; omega
    · exact nFB (.inl l)
    · exact nFB (.inr l)
    · exact l
  have cg : cn p g' = 0 := by have := hg p; simp at this; omega
  have d1 := EnvRep.mono (fun _ h => h) (fun _ h => h) (fun _ h => h) d (away (k1 ++ k3) (by simp; omega))
  have rl : Rep Z ⟨F, B, fun _ => False⟩ (upd H p (.lst us)) (.lst .own bs) (.ref p) (p :: g') :=
    ⟨p, us, g', rfl, trivial, upd_same, rfl, fun z => absurd rfl z, RepL.mono (fun _ h => h) (fun _ h => h) (fun _ h => h) bs us g' rb (away g' cg)⟩
  have hi : i < env.length := (List.getElem?_eq_some_iff.mp he).1
  obtain ⟨j1, j3, ej, d2⟩ := d1.put (i := i) (by simp [hi]) rl
  rw [List.set_set, set_same hv] at d2
  have ec : ∀ a, cn a j1 + cn a j3 = cn a k1 + cn a k3 := fun a => by have := congrArg (cn a) ej; simp at this; omega
  refine ⟨_, f1, ⟨d2, RepL.noW (W' := fun a => 0 < cn a (j1 ++ (p :: g') ++ j3)) xs vs f1 nvx.1 (RepL.mono (fun _ h => h) (fun _ h => h) (fun _ h => h) xs vs f1 rx (away f1 cp.2.2.1)), fun a => ?_, fun a h => ?_, fun a h => ?_⟩, ⟨fun _ h => h, fun a o h z => ?_, fun a o h => ?_, fun a h => ?_, fun _ h => .inl h⟩⟩
  · have h1 := nd a; have h2 := hg a; have h3 := ec a; simp only [hd_own, cn_append, cn_cons, cn_nil] at h1 h2 ⊢; omega
  · have h1 := w.dj a h; have h2 := hg a; have h3 := ec a; simp only [hd_own, cn_append, cn_cons, cn_nil] at h1 h2 ⊢; omega
  · obtain ⟨o, ho⟩ := w.al a h
    by_cases q : a = p
    · subst q; exact ⟨_, upd_same⟩
    · exact ⟨o, other a o ho q⟩
  · refine other a o h fun q => ?_
    subst q
    simp [hd_own] at z
  · by_cases q : a = p
    · subst q; exact ⟨_, upd_same⟩
    · exact ⟨o, other a o h q⟩
  · have h2 := hg a; have h3 := ec a; simp only [hd_own, cn_append, cn_cons, cn_nil] at h h2 ⊢
    left; omega
/-- storing what is at hand -/
theorem put_ok {i : Nat} (hi : i ∈ as) (w : Wd Z F B H σ env (xs ++ [t]) (vs ++ [v]) Se St) (nv : vwL xs = false) (p : PostS (KX Z as F B H σ (Se ++ St)) (putS i t env) (KN Z as D F B H σ xs vs (Se ++ St)) (KR Z as D F B H σ xs vs (Se ++ St))) : D.nx (σ.set i (some v)) H := by
  unfold putS at p
  split at p
  · exact p.elim
  rename_i hc
  simp only [Bool.or_eq_true, not_or, Bool.not_eq_true, Bool.not_eq_false', decide_eq_true_eq] at hc
  obtain ⟨Se', St', w', s'⟩ := w.store (by show vwL (xs ++ [t]) = false; rw [vwL_snoc, nv, hc.1]; rfl) hc.2
  exact p _ H F Se' St' w' s' (Off.set hi)
theorem setv_imp {i : Nat} {e : IE} (hi : i ∈ as) : ∀ D σ H, tS Z I as (.setv i e) D σ H → tAsg (tT Z I e) (gName i) D σ H := fun D σ H h => by
  obtain ⟨F, B, env, xs, vs, Se, St, w, nx, p⟩ := h
  have nv := nv0 nx
  rw [exS] at p
  refine ⟨F, B, env, xs, vs, Se, St, w, .inr nv, (PostS.thnX p).imp fun t e1 _ p1 v H1 F1 Se1 St1 w1 s1 => ?_⟩
  exact put_ok hi w1 nv (p1.after s1 Off.refl)
theorem setf_imp {i : Nat} {e : IE} (hi : i ∈ as) : ∀ D σ H, tS Z I as (.setf i e) D σ H → tAsg (tT Z I e) (gName i) D σ H := fun D σ H h => by
  obtain ⟨F, B, env, xs, vs, Se, St, w, nx, p⟩ := h
  have nv := nv0 nx
  rw [exS] at p
  refine ⟨F, B, env, xs, vs, Se, St, w, .inr nv, (PostS.thnX p).imp fun t e1 _ p1 v H1 F1 Se1 St1 w1 s1 => ?_⟩
  obtain ⟨F2, St2, w2, s2⟩ := w1.freeze
  exact put_ok hi w2 nv (p1.after (s1.trans s2) Off.refl)
theorem expr_imp {e : IE} : ∀ D σ H, tS Z I as (.expr e) D σ H → tDrop (tT Z I e) D σ H := fun D σ H h => by
  obtain ⟨F, B, env, xs, vs, Se, St, w, nx, p⟩ := h
  have nv := nv0 nx
  rw [exS] at p
  refine ⟨F, B, env, xs, vs, Se, St, w, .inr nv, (PostS.thnX p).imp fun t e1 _ p1 v H1 F1 Se1 St1 w1 s1 => ?_⟩
  obtain ⟨f0, f2, rfl, _, w0⟩ := w1.pop
  exact p1 σ H1 F1 Se1 f0 w0 (s1.trans (Step.le fun a => by simp)) Off.refl
theorem ret_imp {e : IE} : ∀ D σ H, tS Z I as (.ret e) D σ H → tRet (tT Z I e) D σ H := fun D σ H h => by
  obtain ⟨F, B, env, xs, vs, Se, St, w, nx, p⟩ := h
  have nv := nv0 nx
  rw [exS] at p
  refine ⟨F, B, env, xs, vs, Se, St, w, .inr nv, (PostS.thnX p).imp fun t e1 _ p1 v H1 F1 Se1 St1 w1 s1 => ?_⟩
  split at p1
  · exact p1.elim
  exact p1 v σ H1 F1 Se1 St1 w1 s1 Off.refl
theorem retN_imp : ∀ D σ H, tS Z I as .retN D σ H → tRetN D σ H := fun D σ H h => by
  obtain ⟨F, B, env, xs, vs, Se, St, w, nx, p⟩ := h
  have nv := nv0 nx
  rw [exS] at p
  exact p .non σ H F Se St (w.push ⟨rfl, rfl⟩) Step.refl Off.refl
theorem iteS_imp {c : IE} {a b : IB} : ∀ D σ H, tS Z I as (.ite c a b) D σ H → tIfS (tTest (tT Z I c)) (tB Z I as a) (tB Z I as b) D σ H := fun D σ H h => by
  obtain ⟨F, B, env, xs, vs, Se, St, w, nx, p⟩ := h
  have nv := nv0 nx
  rw [exS] at p
  refine ⟨F, B, env, xs, vs, Se, St, w, .inr nv, (PostS.thnX p).imp fun t e1 he p1 v H1 F1 Se1 St1 w1 s1 => ?_⟩
  obtain ⟨f0, f2, rfl, r, w0⟩ := w1.pop
  cases t <;> first | exact p1.elim | skip
  rename_i c0
  obtain rfl := r.1
  have s2 : Step F H (Se ++ St) F1 H1 (Se1 ++ f0) := s1.trans (Step.le fun a => by simp)
  cases c0 with
  | true => exact ⟨true, rfl, F1, B, e1, xs, vs, Se1, f0, w0, nx, PostS.after (m := exB I a e1) p1 s2 Off.refl⟩
  | false => exact ⟨false, rfl, F1, B, e1, xs, vs, Se1, f0, w0, nx, PostS.after (m := exB I b e1) p1 s2 Off.refl⟩
theorem cons_imp {s : IS} {r : IB} : ∀ D σ H, tB Z I as (.cons s r) D σ H → tSeq (tS Z I as s) (tB Z I as r) D σ H := fun D σ H h => by
  obtain ⟨F, B, env, xs, vs, Se, St, w, nx, p⟩ := h
  have nv := nv0 nx
  rw [exB] at p
  refine ⟨F, B, env, xs, vs, Se, St, w, nx, (PostS.bind p).imp (fun _ _ k => k) (fun e1 p1 σ' H1 F1 Se1 St1 w1 s1 o1 => ⟨F1, B, e1, xs, vs, Se1, St1, w1, nx, p1.after s1 o1⟩) fun t e k => k⟩
theorem nil_imp : ∀ D σ H, tB Z I as .nil D σ H → tNext D σ H := fun D σ H h => by
  obtain ⟨F, B, env, xs, vs, Se, St, w, nx, p⟩ := h
  have nv := nv0 nx
  rw [exB] at p
  exact p σ H F Se St w Step.refl Off.refl
/-- the inside of a for -/
def forIn (g : TG) (tb : TS) (J : It) (D : Ends) (σ : L2.St) (H1 : Hp) : Prop := ∃ W : Nat → Nat → L2.St → Hp → Prop, (∃ m, W 0 m σ H1) ∧ ∀ i m σ H, W i m σ H →
  (J.stop i H ∧ D.nx σ H) ∨ (J.go i H ∧ ∃ N : L2.St → Hp → Prop, (∀ σ' H', N σ' H' → ∃ m', m' < m ∧ W (i + 1) m' σ' H') ∧ ∀ x H', J.yld i H x H' → g x σ H' fun σ2 H2 => tb { D with nx := N, ct := N, bk := D.nx } σ2 H2)
theorem for_core {tg : List Nat} {body : IB} {items : List T} {J : It} {P : Hp → Prop} (htg : ∀ i ∈ tg, i ∈ as) (nx : xs = [])
    {Jx : Xn → Env → Prop} (hJ : ∀ x e, Jx x e → KX Z as F B H σ S x e) (p1 : PostS Jx (forLoop (fun e => exB I body e) tg items e1) (KN Z as D F B H σ xs vs S) (KR Z as D F B H σ xs vs S)) (hP : P H1) (ok : IterOk Z F1 B J P items) {Se1 St1 : List Addr} (w1 : Wd Z F1 B H1 σ e1 xs vs Se1 St1) (s1 : Step F H S F1 H1 (Se1 ++ St1)) :
    forIn (tgR Z tg) (tB Z I as body) J D σ H1 := by
  have nv := nv0 nx
  let Inv : Nat → L2.St → Hp → Prop := fun i σi H' => ∃ (Fi : Addr → Prop) (ei : Env) (Sei Sti : List Addr), Wd Z Fi B H' σi ei xs vs Sei Sti ∧ P H' ∧ (∀ a, F1 a → Fi a) ∧ Step F H S Fi H' (Sei ++ Sti) ∧ Off as σ σi ∧ i ≤ items.length ∧
    PostS Jx (forLoop (fun e => exB I body e) tg (items.drop i) ei) (KN Z as D F B H σ xs vs S) (KR Z as D F B H σ xs vs S)
  refine ⟨fun i m σi H' => m = items.length - i ∧ Inv i σi H', ⟨items.length, by simp, F1, e1, Se1, St1, w1, hP, fun _ h => h, s1, Off.refl, Nat.zero_le _, p1⟩, ?_⟩
  rintro i m σi H' ⟨rfl, Fi, ei, Sei, Sti, wi, hPi, hFi, si, oi, hi, pi⟩
  by_cases hlt : i < items.length
  · have hit : items[i]? = some items[i] := by simp [hlt]
    obtain ⟨hgo, hy⟩ := ok.go i H' _ hit hPi
    refine .inr ⟨hgo, Inv (i + 1), fun σ' H'' q => ⟨items.length - (i + 1), by omega, rfl, q⟩, fun x H2 yx => ?_⟩
    obtain ⟨hk, rx⟩ := hy x H2 yx
    rw [List.drop_eq_getElem_cons hlt, forLoop] at pi
    have wi2 := wi.grow hk
    have stp : Step Fi H' (Sei ++ Sti) Fi H2 (Sei ++ Sti) := ⟨fun _ h => h, fun a o h _ => hk a o h, fun a o h => ⟨o, hk a o h⟩, fun a h => .inl h, fun a h => .inl h⟩
    split at pi
    · exact pi.elim
    rename_i e2 hb
    refine bind_ok wi2 nv (Rep.mono (G := ⟨F1, B, fun _ => False⟩) (G' := ⟨Fi, B, fun _ => False⟩) hFi (fun _ h => h) (fun _ h => h) _ _ _ rx fun a o h _ => h) hb fun σ2 Se5 St5 w5 s5 o5 => ?_
    have s25 := (si.trans stp).trans s5
    have o25 : Off as σ σ2 := oi.trans (o5.mono htg)
    refine ⟨Fi, B, e2, xs, vs, Se5, St5, w5, nx, (PostS.bind pi).imp (fun x e k => (hJ x e k).after s25 o25) (fun e3 p3 σ3 H3 F3 Se6 St6 w6 s6 o6 => ?_) fun t e k => ?_⟩
    · refine ⟨F3, e3, Se6, St6, w6, ?_, fun a h => s6.fF a (hFi a h), s25.trans s6, o25.trans o6, hlt, p3⟩
      refine ok.keep _ _ (fun a o h l => (wi.keepL (stp.trans (s5.trans s6))) a o h ?_) hPi
      rcases l with l | l | l | l | l
      · exact .inl l
      · exact .inr (.inl l)
      · exact .inr (.inr (.inl (hFi a l)))
      · exact .inr (.inr (.inr (.inl l)))
      · exact l.elim
    · exact k.after s25 o25
  · have ei' : i = items.length := by omega
    subst ei'
    refine .inl ⟨ok.stop H' hPi, ?_⟩
    rw [List.drop_length, forLoop] at pi
    exact pi σi H' Fi Sei Sti wi si oi
theorem for_imp {tg : List Nat} {it : IT} {body : IB} (htg : ∀ i ∈ tg, i ∈ as) : ∀ D σ H, tS Z I as (.forr tg it body) D σ H → tFor (tI Z I it) (tgR Z tg) (tB Z I as body) D σ H := fun D σ H h => by
  obtain ⟨F, B, env, xs, vs, Se, St, w, nx, p⟩ := h
  have nv := nv0 nx
  rw [exS] at p
  exact ⟨F, B, env, xs, vs, Se, St, w, nv, (PostS.thnX p).imp fun items e1 _ p1 J P H1 F1 Se1 St1 hP ok w1 s1 => for_core htg nx (fun _ _ k => k) p1.noK hP ok w1 s1⟩
theorem whileL_ex {c : Env → Out T} {body : Env → SOut} {env : Env} (h : whileL c body env ≠ .stuck) : ∃ n, whileN c body n env = some (whileL c body env) := by
  unfold whileL at h ⊢
  split at h
  · rename_i hx
    rw [dif_pos hx]
    exact ⟨hx.choose, hx.choose_spec.choose_spec⟩
  · exact absurd rfl h
theorem while_imp {c : IE} {body : IB} : ∀ D σ H, tS Z I as (.whil c body) D σ H → tWhile (tTest (tT Z I c)) (tB Z I as body) D σ H := fun D σ H h => by
  obtain ⟨F, B, env, xs, vs, Se, St, w, nx, p⟩ := h
  have nv := nv0 nx
  rw [exS] at p
  obtain ⟨n0, hn0⟩ := whileL_ex (c := fun e => evE I c e) (body := fun e => exB I body e) (env := env) fun z => by rw [z] at p; exact p
  generalize whileL (fun e => evE I c e) (fun e => exB I body e) env = o at p hn0
  let Inv : Nat → L2.St → Hp → Prop := fun n σi H' => ∃ (Fi : Addr → Prop) (ei : Env) (Sei Sti : List Addr), Wd Z Fi B H' σi ei xs vs Sei Sti ∧ Step F H (Se ++ St) Fi H' (Sei ++ Sti) ∧ Off as σ σi ∧ whileN (fun e => evE I c e) (fun e => exB I body e) n ei = some o
  refine ⟨Inv, ⟨n0, F, env, Se, St, w, Step.refl, Off.refl, hn0⟩, ?_⟩
  rintro n σi H' ⟨Fi, ei, Sei, Sti, wi, si, oi, hn⟩
  cases n with
  | zero => cases hn
  | succ n =>
    rw [whileN] at hn
    have nst : o ≠ .stuck := fun z => by rw [z] at p; exact p
    refine ⟨Fi, B, ei, xs, vs, Sei, Sti, wi, .inr nv, ?_⟩
    split at hn
    · rename_i xc e1 hc
      rw [hc]
      intro v H1 F1 Se1 St1 w1 s1
      obtain ⟨f0, f2, rfl, r, w0⟩ := w1.pop
      have s2 : Step F H (Se ++ St) F1 H1 (Se1 ++ f0) := (si.trans s1).trans (Step.le fun a => by simp)
      cases xc <;> first | exact absurd (Option.some.inj hn).symm nst | skip
      rename_i c0
      obtain rfl := r.1
      rw [T.cond_bl] at hn
      cases c0 with
      | true =>
        rw [if_pos rfl] at hn
        refine ⟨true, rfl, ?_⟩
        show ∃ N : L2.St → Hp → Prop, (∀ σ' H', N σ' H' → ∃ m', m' < n + 1 ∧ Inv m' σ' H') ∧ tB Z I as body { D with nx := N, ct := N, bk := D.nx } σi H1
        refine ⟨Inv n, fun σ' H'' q => ⟨n, Nat.lt_succ_self n, q⟩, F1, B, e1, xs, vs, Se1, f0, w0, nx, ?_⟩
        cases hb : exB I body e1 with
        | stuck => rw [hb] at hn; exact absurd (Option.some.inj hn).symm nst
        | exc x e =>
          rw [hb] at hn
          obtain rfl := (Option.some.inj hn)
          have k : KX Z as F B H σ (Se ++ St) x e := p
          exact k.after s2 oi
        | ret t e =>
          rw [hb] at hn
          obtain rfl := (Option.some.inj hn)
          have k : KR Z as D F B H σ xs vs (Se ++ St) t e := p
          exact k.after s2 oi
        | next e2 =>
          rw [hb] at hn
          exact fun σ3 H3 F3 Se6 St6 w6 s6 o6 => ⟨F3, e2, Se6, St6, w6, s2.trans s6, oi.trans o6, hn⟩
      | false =>
        rw [if_neg (by decide)] at hn
        refine ⟨false, rfl, ?_⟩
        obtain rfl := (Option.some.inj hn)
        have k : KN Z as D F B H σ xs vs (Se ++ St) e1 := p
        show D.nx σi H1
        exact k σi H1 F1 Se1 f0 w0 s2 oi
    · rename_i xx ee hc
      rw [hc]
      obtain rfl := (Option.some.inj hn)
      have k : KX Z as F B H σ (Se ++ St) xx ee := p
      exact (k.after si oi).nx
    · exact absurd (Option.some.inj hn).symm nst
end
end VI

namespace VI
open PySem L2
section
variable {Z : Wo} {F B : Addr → Prop} {H H' : Hp} {σ : L2.St} {env e1 : Env} {xs ys : List T} {vs ws : List V} {Se St : List Addr} {t x y : T} {v u : V}
/-- what does not lean on q stays when q is written -/
theorem away {G : Sh} (hW : ∀ a, ¬ G.W a) {q : Addr} {o' : HO} (mq : Mut (H q)) (nF : ¬ G.F q) (nB : ¬ G.B q) {S0 : List Addr} (h0 : cn q S0 = 0) : ∀ a o, H a = some o → Leans G S0 a o → upd H q o' a = some o := fun a o h l => by
  have n : a ≠ q := fun z => by
    subst z
    rw [h] at mq
    rcases l with l | l | l | l | l
    · exact l mq
    · have := cn_pos.mpr l; omega
    · exact nF l
    · exact nB l
    · exact hW _ l
  rw [upd_ne n]; exact h
/-- a place's thing is written anew, when the heap has grown meanwhile -/
theorem Wd.atPl2 {F0 : Addr → Prop} {H0 : Hp} {xs0 : List T} {vs0 : List V} {St0 : List Addr} (w0 : Wd Z F0 B H0 σ env xs0 vs0 Se St0) {i : Nat} {p : List Pst} {c : T} (he : env[i]? = some (some t)) (hp : getP p t = some c) :
    ∃ v z f2, σ[i]? = some (some v) ∧ VC Z H0 p v z ∧ Rep Z ⟨F0, B, fun _ => False⟩ H0 c z f2 ∧ ∀ (F : Addr → Prop) (H : Hp) (xs ys : List T) (vs ws : List V) (St : List Addr), (∀ a o, H0 a = some o → H a = some o) → (∀ a, F0 a → F a) →
      Wd Z F B H σ env (xs ++ ys) (vs ++ ws) Se St → ys.length = ws.length → vwL (xs ++ ys) = false →
      ∃ g, Rep Z ⟨F, B, fun _ => False⟩ H c z f2 ∧ RepL Z ⟨F, B, fun _ => False⟩ H ys ws g ∧ (∀ a, cn a f2 + cn a g ≤ 1) ∧ (∀ a, F a ∨ B a → cn a f2 + cn a g = 0) ∧
      ∀ q o' c' g', z = .ref q → 0 < cn q f2 → (∀ a, cn a g' ≤ cn a f2 + cn a g) → Rep Z ⟨F, B, fun _ => False⟩ (upd H q o') c' z g' →
        ∃ Se' St', Wd Z F B (upd H q o') σ (env.set i (some (setP p t c'))) xs vs Se' St' ∧ Step F H (Se ++ St) F (upd H q o') (Se' ++ St') := by
  obtain ⟨v0, k1, k2, k3, hv, hSe, ra, d0⟩ := w0.er.get he
  obtain ⟨z, j1, j2, vc, zp0⟩ := zip_of ra hp
  refine ⟨v0, z, j2, hv, vc, zp0.rep, fun F H xs ys vs ws St hH hF w hl nv => ?_⟩
  subst hSe
  have zp := zp0.grow (G' := ⟨F, B, fun _ => False⟩) hF (fun _ h => h) (fun _ h => h) hH
  have d := EnvRep.mono (G := ⟨F0, B, fun _ => False⟩) (G' := ⟨F, B, fun _ => False⟩) hF (fun _ h => h) (fun _ h => h) d0 fun a o h _ => hH a o h
  obtain ⟨f1, f2, rfl, r, w'⟩ := w.split' hl
  have nvx : vwL xs = false ∧ vwL ys = false := by rw [vwL_append, Bool.or_eq_false_iff] at nv; exact nv
  have r' := RepL.noW (W' := fun _ => False) ys ws f2 nvx.2 r
  have rx := RepL.noW (W' := fun _ => False) xs vs f1 nvx.1 w'.tr
  have cnt := zp.cnt
  have nd := w.nd
  refine ⟨f2, zp.rep, r', fun a => by have := nd a; have := cnt a; simp at *; omega, fun a h => by have := w.dj a h; have := cnt a; simp at *; omega, ?_⟩
  intro q o' c' g' hz hq hg rc
  have cp : cn q k1 = 0 ∧ cn q k3 = 0 ∧ cn q f1 = 0 ∧ cn q j1 = 0 := by have := nd q; have := cnt q; simp at *; omega
  have nFB : ¬ (F q ∨ B q) := fun h => by have := w.dj q h; have := cnt q; simp at *; omega
  have mq : Mut (H q) := Rep.mut _ _ _ zp.rep q (cn_pos.mp hq)
  have aw : ∀ (S0 : List Addr), cn q S0 = 0 → ∀ a o, H a = some o → Leans ⟨F, B, fun _ => False⟩ S0 a o → upd H q o' a = some o := fun S0 h0 => away (fun _ h => h) mq (fun h => nFB (.inl h)) (fun h => nFB (.inr h)) h0
  have other : ∀ a o, H a = some o → a ≠ q → upd H q o' a = some o := fun a o h n => by rw [upd_ne n]; exact h
  have d1 := EnvRep.mono (fun _ h => h) (fun _ h => h) (fun _ h => h) d (aw (k1 ++ k3) (by simp; omega))
  obtain ⟨fp', rt, hc'⟩ := zp.re ⟨F, B, fun _ => False⟩ (upd H q o') c' g' (fun _ h => h) (fun _ h => h) (fun _ h => h) (aw j1 cp.2.2.2) rc
  have hi : i < env.length := (List.getElem?_eq_some_iff.mp he).1
  obtain ⟨m1, m3, ej, d2⟩ := d1.put (i := i) (by simp [hi]) rt
  rw [List.set_set, set_same hv] at d2
  have ec : ∀ a, cn a m1 + cn a m3 = cn a k1 + cn a k3 := fun a => by have := congrArg (cn a) ej; simp at this; omega
  refine ⟨_, f1, ⟨d2, RepL.noW (W' := fun a => 0 < cn a (m1 ++ fp' ++ m3)) xs vs f1 nvx.1 (RepL.mono (fun _ h => h) (fun _ h => h) (fun _ h => h) xs vs f1 rx (aw f1 cp.2.2.1)), fun a => ?_, fun a h => ?_, fun a h => ?_⟩, ⟨fun _ h => h, fun a o h z => ?_, fun a o h => ?_, fun a h => ?_, fun _ h => .inl h⟩⟩
  · have h1 := nd a; have h2 := hg a; have h3 := ec a; have h4 := hc' a; have h5 := cnt a; simp only [cn_append] at h1 ⊢; omega
  · have h1 := w.dj a h; have h2 := hg a; have h3 := ec a; have h4 := hc' a; have h5 := cnt a; simp only [cn_append] at h1 ⊢; omega
  · obtain ⟨o, ho⟩ := w.al a h
    by_cases q0 : a = q
    · subst q0; exact ⟨_, upd_same⟩
    · exact ⟨o, other a o ho q0⟩
  · refine other a o h fun q0 => ?_
    subst q0
    have h5 := cnt a
    simp at z
    omega
  · by_cases q0 : a = q
    · subst q0; exact ⟨_, upd_same⟩
    · exact ⟨o, other a o h q0⟩
  · have h2 := hg a; have h3 := ec a; have h4 := hc' a; have h5 := cnt a
    simp only [cn_append] at h ⊢
    left; omega
/-- the slots, lent -/
theorem EnvRep.lent {G G' : Sh} (k : FlOk Fl.bor G G') : ∀ {σ : L2.St} {env : Env} {S : List Addr}, EnvRep Z G H σ env S → (∀ a ∈ S, G'.B a) → EnvRep Z G' H σ (lend env) [] := fun {σ} => by
  induction σ with
  | nil => intro env S h hS; obtain ⟨rfl, rfl⟩ := h; exact ⟨rfl, rfl⟩
  | cons vo σ ih =>
    intro env S h hS
    obtain ⟨to, env', rfl, h⟩ := h
    cases to with
    | none => exact ⟨none, lend env', rfl, ih h hS⟩
    | some t =>
      obtain ⟨w, g1, S', rfl, rfl, q, h⟩ := h
      exact ⟨some (t.mapF Fl.bor), lend env', rfl, w, [], [], rfl, rfl, Rep.map k t w g1 q fun a ha => hS a (List.mem_append_left _ ha), ih h fun a ha => hS a (List.mem_append_right _ ha)⟩
theorem Wd.lend (w : Wd Z F B H σ env xs vs Se St) : Wd Z F (fun a => B a ∨ 0 < cn a (Se ++ St)) H σ (lend env) [] [] [] [] :=
  ⟨EnvRep.lent (bor_ok (fun _ h => h) (fun _ h => .inl h) (fun _ h => h.elim)) w.er fun a ha => .inr (by have := cn_pos.mpr ha; simp; omega), ⟨rfl, rfl⟩, fun a => by simp, fun a h => by simp, fun a h => by
    rcases h with h | h | h
    · exact w.al a (.inl h)
    · exact w.al a (.inr h)
    · have m : Mut (H a) := by
        simp at h
        by_cases q : 0 < cn a Se
        · exact w.mutE q
        · exact w.mutT (by omega)
      cases e : H a with
      | none => rw [e] at m; exact m.elim
      | some o => exact ⟨o, rfl⟩⟩
theorem Wd.some_of (w : Wd Z F B H σ env xs vs Se St) {a : Addr} (h : 0 < cn a Se + cn a St) : ∃ o, H a = some o := by
  have m : Mut (H a) := by
    by_cases q : 0 < cn a Se
    · exact w.mutE q
    · exact w.mutT (by omega)
  cases e : H a with
  | none => rw [e] at m; exact m.elim
  | some o => exact ⟨o, rfl⟩
theorem Wd.unlend {F2 B2 : Addr → Prop} {H2 : Hp} {e2 : Env} {ts : List T} {Se2 St2 : List Addr} (w : Wd Z F B H σ env xs vs Se St) (hB : ∀ a, B a → B2 a) (w2 : Wd Z F2 B2 H2 σ e2 ts ws Se2 St2) (s : Step F H [] F2 H2 (Se2 ++ St2)) (hc : clean ts = true) :
    Wd Z F2 B H2 σ env (xs ++ ts) (vs ++ ws) Se (St ++ St2) ∧ Step F H (Se ++ St) F2 H2 (Se ++ (St ++ St2)) := by
  unfold clean at hc
  simp only [Bool.and_eq_true, Bool.not_eq_true'] at hc
  have k : ∀ a o, H a = some o → H2 a = some o := fun a o h => s.kp a o h rfl
  have n2 : ∀ a, 0 < cn a (Se2 ++ St2) → cn a Se + cn a St = 0 := fun a h => by
    rcases s.nS a h with q | q
    · simp at q
    · have := w.fresh q; omega
  have nF : ∀ a, F2 a → cn a Se + cn a St = 0 := fun a h => by
    rcases s.nF a h with q | q | q
    · exact w.dj a (.inl q)
    · simp at q
    · have := w.fresh q; omega
  have rt : RepL Z ⟨F2, B, fun a => 0 < cn a Se⟩ H2 ts ws St2 := RepL.noW (G := ⟨F2, B, fun a => 0 < cn a Se2⟩) (W' := fun a => 0 < cn a Se) ts ws St2 hc.1 (RepL.noB (G := ⟨F2, B2, fun a => 0 < cn a Se2⟩) (B' := B) ts ws St2 hc.2 w2.tr)
  refine ⟨⟨EnvRep.mono (G := ⟨F, B, fun _ => False⟩) (G' := ⟨F2, B, fun _ => False⟩) s.fF (fun _ h => h) (fun _ h => h) w.er fun a o h _ => k a o h, (RepL.mono (G := ⟨F, B, fun a => 0 < cn a Se⟩) (G' := ⟨F2, B, fun a => 0 < cn a Se⟩) s.fF (fun _ h => h) (fun _ h => h) _ _ _ w.tr fun a o h _ => k a o h).append rt, fun a => ?_, fun a h => ?_, fun a h => ?_⟩, ⟨s.fF, fun a o h _ => k a o h, fun a o h => ⟨o, k a o h⟩, fun a h => ?_, fun a h => ?_⟩⟩
  · have h1 := w.nd a; have h2 := w2.nd a; have h3 := n2 a
    simp at h3 ⊢
    omega
  · rcases h with h | h
    · have h1 := nF a h; have h2 := w2.dj a (.inl h); simp; omega
    · have h1 := w.dj a (.inr h); have h2 := w2.dj a (.inr (hB a h)); simp; omega
  · rcases h with h | h
    · exact w2.al a (.inl h)
    · obtain ⟨o, e⟩ := w.al a (.inr h); exact ⟨o, k a o e⟩
  · by_cases q : 0 < cn a Se + cn a St
    · left; simp; omega
    · rcases s.nS a (by simp at h ⊢; omega) with z | z
      · simp at z
      · exact .inr z
  · rcases s.nF a h with q | q | q
    · exact .inl q
    · simp at q
    · exact .inr (.inr q)
end
section
variable {Z : Wo} {I : CI} {as : List Nat} {D : Ends} {F B F1 : Addr → Prop} {H H1 : Hp} {σ σ1 : L2.St} {env e1 : Env} {xs ys zs ts : List T} {vs ws : List V} {Se St S S1 : List Addr} {t x y : T} {v u : V}
theorem pass_imp : ∀ D σ H, tS Z I as .pass D σ H → tNext D σ H := fun D σ H h => by
  obtain ⟨F, B, env, xs, vs, Se, St, w, nx, p⟩ := h
  have nv := nv0 nx
  rw [exS] at p
  exact p σ H F Se St w Step.refl Off.refl
theorem bindTg_vw {tg : List Nat} {x : T} {e : Env} (h : bindTg tg x env = some e) : x.vw = false := by
  unfold bindTg at h
  split at h
  · split at h
    · rename_i hc; exact hc.2
    · cases h
  · split at h
    · rename_i hc; exact hc.2.1
    · cases h
  · cases h
theorem unp_imp {tg : List Nat} {e : IE} (htg : ∀ i ∈ tg, i ∈ as) : ∀ D σ H, tS Z I as (.unp tg e) D σ H → tAsg (tT Z I e) (tgR Z tg) D σ H := fun D σ H h => by
  obtain ⟨F, B, env, xs, vs, Se, St, w, nx, p⟩ := h
  have nv := nv0 nx
  rw [exS] at p
  refine ⟨F, B, env, xs, vs, Se, St, w, .inr nv, (PostS.thnX p).imp fun t e1 _ p1 v H1 F1 Se1 St1 w1 s1 => ?_⟩
  split at p1
  · rename_i e2 hb
    have nt : t.vw = false := by rw [← fre_vw]; exact bindTg_vw hb
    obtain ⟨F2, St2, w2, r2, s2⟩ := w1.frozen nt
    have k : KN Z as D F B H σ xs vs (Se ++ St) e2 := p1
    exact bind_ok w2 nv r2 hb fun σ2 Se5 St5 w5 s5 o5 => k σ2 H1 F2 Se5 St5 w5 ((s1.trans s2).trans s5) (o5.mono htg)
  · exact p1.elim
/-- a for over the keys of a dict -/
theorem fork_imp {tg : List Nat} {i : Nat} {ps : List PX} {body : IB} (htg : ∀ i ∈ tg, i ∈ as) : ∀ D σ H, tS Z I as (.forr tg (.keys i ps) body) D σ H →
    tFor (iKeys (tPl Z i ps)) (tgR Z tg) (tB Z I as body) D σ H ∨ tLock (tFor (iKeys (tPl Z i ps)) (tgR Z tg) (tB Z I as body)) D σ H := fun D σ H h => by
  obtain ⟨F, B, env, xs, vs, Se, St, w, nx, p⟩ := h
  have nv := nv0 nx
  rw [exS, evIT] at p
  obtain ⟨its, hi, p⟩ := Post.ofO (PostS.thn p)
  obtain ⟨ks, hk, rfl⟩ := map_some hi
  obtain ⟨v, d, us, hv, vp, hl, h0, hd⟩ := keysR_ok w hk
  rcases hd with hd | ⟨od, hd⟩
  · right
    refine ⟨d, _, hd, trivial, fun od => ⟨v, .ref d, hv, vp.lock (swp_lock hd) (lockD hd), d, od, rfl, .inl ⟨_, upd_same, ?_⟩⟩⟩
    have w2 := w.swap (swp_lock (od := od) hd) ⟨_, upd_same⟩ h0
    refine for_core (F := F) (H := upd H d (.frz od (.dK (ks.zip us)))) (S := Se ++ St) htg nx (Jx := fun _ _ => False) (fun _ _ z => z.elim) ((PostS.noKk p).imp (fun _ _ z => z) (fun e k σ' H' F' Se' St' w' s' o' => ?_) fun t e k v σ' H' F' Se' St' w' s' o' => ?_) upd_same (iter_keys hl) w2 Step.refl
    · obtain ⟨e1, s2⟩ := Step.locked hd (by simpa using h0) s'
      exact ⟨e1, k σ' _ F' Se' St' (w'.swap (swp_unlock e1) ⟨_, upd_same⟩ (w'.frz0 e1)) s2 o'⟩
    · obtain ⟨e1, s2⟩ := Step.locked hd (by simpa using h0) s'
      exact ⟨e1, k v σ' _ F' Se' St' (w'.swap (swp_unlock e1) ⟨_, upd_same⟩ (w'.frz0 e1)) s2 o'⟩
  · left
    exact ⟨v, .ref d, hv, vp, d, od, rfl, .inl ⟨_, hd, for_core htg nx (Jx := fun _ _ => False) (fun _ _ z => z.elim) (PostS.noKk p) hd (iter_keys hl) w Step.refl⟩⟩
/-- the same, counted -/
theorem fore_imp {tg : List Nat} {i : Nat} {ps : List PX} {body : IB} (htg : ∀ i ∈ tg, i ∈ as) : ∀ D σ H, tS Z I as (.forr tg (.enuK i ps) body) D σ H →
    tFor (iEnumK (tCons (tPl Z i ps) tNil)) (tgR Z tg) (tB Z I as body) D σ H ∨ tLock (tFor (iEnumK (tCons (tPl Z i ps) tNil)) (tgR Z tg) (tB Z I as body)) D σ H := fun D σ H h => by
  obtain ⟨F, B, env, xs, vs, Se, St, w, nx, p⟩ := h
  have nv := nv0 nx
  rw [exS, evIT] at p
  obtain ⟨its, hi, p⟩ := Post.ofO (PostS.thn p)
  obtain ⟨ks, hk, rfl⟩ := map_some hi
  obtain ⟨v, d, us, hv, vp, hl, h0, hd⟩ := keysR_ok w hk
  rcases hd with hd | ⟨od, hd⟩
  · right
    refine ⟨d, _, hd, trivial, fun od => ⟨v, .ref d, hv, vp.lock (swp_lock hd) (lockD hd), d, od, _, rfl, upd_same, ?_⟩⟩
    have w2 := w.swap (swp_lock (od := od) hd) ⟨_, upd_same⟩ h0
    refine for_core (F := F) (H := upd H d (.frz od (.dK (ks.zip us)))) (S := Se ++ St) htg nx (Jx := fun _ _ => False) (fun _ _ z => z.elim) ((PostS.noKe p).imp (fun _ _ z => z) (fun e k σ' H' F' Se' St' w' s' o' => ?_) fun t e k v σ' H' F' Se' St' w' s' o' => ?_) upd_same (iter_enumK hl) w2 Step.refl
    · obtain ⟨e1, s2⟩ := Step.locked hd (by simpa using h0) s'
      exact ⟨e1, k σ' _ F' Se' St' (w'.swap (swp_unlock e1) ⟨_, upd_same⟩ (w'.frz0 e1)) s2 o'⟩
    · obtain ⟨e1, s2⟩ := Step.locked hd (by simpa using h0) s'
      exact ⟨e1, k v σ' _ F' Se' St' (w'.swap (swp_unlock e1) ⟨_, upd_same⟩ (w'.frz0 e1)) s2 o'⟩
  · left
    exact ⟨v, .ref d, hv, vp, d, od, _, rfl, hd, for_core htg nx (Jx := fun _ _ => False) (fun _ _ z => z.elim) (PostS.noKe p) hd (iter_enumK hl) w Step.refl⟩
/-- an item is another -/
theorem RepL.putAt {G : Sh} {us : List T} {ps : List V} {g : List Addr} {n : Nat} (rg : RepL Z G H (us ++ [t]) (ps ++ [v]) g) (hl : us.length = ps.length) (hn : n < us.length) : ∃ g', (∀ a, cn a g' ≤ cn a g) ∧ RepL Z G H (us.set n t) (ps.set n v) g' := by
  obtain ⟨v1, v2, g1, g2, ev, rfl, r1, r2⟩ := rg.split
  obtain ⟨rfl, rfl⟩ := List.append_inj' ev (by simpa using r2.length)
  obtain ⟨w', _, h1, h2, e3, rfl, rt, _⟩ := r2
  cases e3
  have key : ∀ (us : List T) (ps : List V) (g1 : List Addr) (n : Nat), RepL Z G H us ps g1 → ∃ g', (∀ a, cn a g' ≤ cn a g1 + cn a h1) ∧ RepL Z G H (us.set n t) (ps.set n v) g' := by
    intro us
    induction us with
    | nil => intro ps g1 n r; obtain ⟨rfl, rfl⟩ := r; exact ⟨[], fun a => by simp, rfl, rfl⟩
    | cons x us ih =>
      intro ps g1 n r
      obtain ⟨v0, vs0, k1, k2, rfl, rfl, r3, r4⟩ := r
      cases n with
      | zero => exact ⟨h1 ++ k2, fun a => by simp; omega, v, vs0, h1, k2, rfl, rfl, rt, r4⟩
      | succ n =>
        obtain ⟨g', l, r5⟩ := ih vs0 k2 n r4
        exact ⟨k1 ++ g', fun a => by have := l a; simp; omega, v0, vs0.set n v, k1, g', rfl, rfl, r3, r5⟩
  obtain ⟨g', l, r5⟩ := key us ps g1 n r1
  exact ⟨g', fun a => by have := l a; simp; omega, r5⟩
theorem putF_set : ∀ {fl : List Str} {us : List V} {k : Nat} {f : Str}, fl.Nodup → fl[k]? = some f → k < us.length → putF f v (fl.zip us) = fl.zip (us.set k v)
  | [], _, _, _, _, h, _ => by simp at h
  | _ :: _, [], _, _, _, _, h => by simp at h
  | g :: fl, w :: us, 0, f, _, h1, _ => by
    obtain rfl : g = f := by simpa using h1
    rw [List.zip_cons_cons, putF, if_pos rfl]; rfl
  | g :: fl, w :: us, k + 1, f, nd, h1, h2 => by
    obtain ⟨n1, n2⟩ := List.nodup_cons.mp nd
    have h1' : fl[k]? = some f := by simpa using h1
    have : g ≠ f := fun z => n1 (z ▸ List.mem_of_getElem? h1')
    rw [List.zip_cons_cons, putF, if_neg this, putF_set n2 h1' (by simpa using h2)]; rfl
theorem putF_new : ∀ {fl : List Str} {us : List V} {f : Str}, fl.Nodup → fl[us.length]? = some f → putF f v (fl.zip us) = fl.zip (us ++ [v])
  | [], _, _, _, h => by simp at h
  | g :: fl, [], f, _, h => by
    obtain rfl : g = f := by simpa using h
    simp [putF]
  | g :: fl, w :: us, f, nd, h => by
    obtain ⟨n1, n2⟩ := List.nodup_cons.mp nd
    have h1' : fl[us.length]? = some f := by simpa using h
    have : g ≠ f := fun z => n1 (z ▸ List.mem_of_getElem? h1')
    rw [List.zip_cons_cons, putF, if_neg this, putF_new n2 h1']; rfl
theorem atPl_of {J : Xn → Env → Prop} {i : Nat} {ps : List PX} {g : T → Option T} {KN : Env → Prop} {KR : T → Env → Prop} (h : PostS J (atPl i ps env g) KN KR) : ∃ t p c c', env[i]? = some (some t) ∧ resP env ps = some p ∧ getP p t = some c ∧ g c = some c' ∧ KN (env.set i (some (setP p t c'))) := by
  unfold atPl at h
  split at h
  case h_2 => exact h.elim
  rename_i t p e1 e2
  split at h
  case h_2 => exact h.elim
  rename_i c e3
  split at h
  case h_2 => exact h.elim
  rename_i c' e4
  exact ⟨t, p, c, c', e1, e2, e3, e4, h⟩
theorem seta_imp {K : PySem.W.Frag} {i c k : Nat} {ps : List PX} {e : IE} {f : Str} (hf : (Z.fl c)[k]? = some f) (nd : (Z.fl c).Nodup) (few : (Z.fl c).length ≤ 900) (k1 : Cls K (Z.cls c)) (k2 : NoAttr K (Z.cls c) f) :
    ∀ D σ H, tS Z I as (.seta i ps c k e) D σ H → sFld K (tPl Z i ps) (tT Z I e) f D σ H := fun D σ H h => by
  obtain ⟨F, B, env, xs, vs, Se, St, w, nx, p⟩ := h
  have nv := nv0 nx
  rw [exS] at p
  refine ⟨F, B, env, xs, vs, Se, St, w, .inr nv, (PostS.thnX p).imp fun t e1 _ p1 v H1 F1 Se1 St1 w1 s1 => ?_⟩
  split at p1
  · exact p1.elim
  rename_i nvt
  have nvt : t.vw = false := by simpa using nvt
  have nv1 : vwL (xs ++ [t]) = false := by rw [vwL_snoc, nv, nvt]; rfl
  obtain ⟨t0, pp, cc, c', he, hr, hp, hset, kn⟩ := atPl_of p1
  obtain ⟨v0, z, f2, hv, vc, rc, mk0⟩ := w1.atPl2 he hp
  refine ⟨v0, z, hv, resP_ok w1.er hr vc, ?_⟩
  unfold setF at hset
  split at hset
  case h_2 => cases hset
  rename_i c0 us
  split at hset
  case isFalse => cases hset
  rename_i ec
  subst ec
  obtain ⟨g, _, rg, nd1, dj, mk⟩ := mk0 F1 H1 xs [t] vs [v] St1 (fun _ _ h => h) (fun _ h => h) w1 rfl nv1
  obtain ⟨q, dx, us', fp', rfl, _, l, hq, rfl, _, rl⟩ := rc
  have hlen := rl.length
  have hnd := nd1 q
  have nFB : ¬ F1 q ∧ ¬ B q := ⟨fun z => by have := dj q (.inl z); simp [hd_own] at this, fun z => by have := dj q (.inr z); simp [hd_own] at this⟩
  have rr := rl.append rg
  refine ⟨q, _, dx, _, rfl, hq, k1, k2, by rw [List.length_zip]; omega, ?_⟩
  have fin : ∀ us1 ps1 g', us1.length ≤ (Z.fl c0).length → putF f v ((Z.fl c0).zip us') = (Z.fl c0).zip ps1 → (∀ a, cn a g' ≤ cn a (fp' ++ g)) → RepL Z ⟨F1, B, fun _ => False⟩ H1 us1 ps1 g' → c' = .ins .own c0 us1 → D.nx σ (upd H1 q (.ins (Z.cls c0) dx (putF f v ((Z.fl c0).zip us')))) := fun us1 ps1 g' hu e3 l' r' ec => by
    subst ec
    have q0 : cn q g' = 0 := by have := l' q; simp [hd_own] at this hnd; omega
    obtain ⟨Se', St', w', s'⟩ := mk q (.ins (Z.cls c0) dx (putF f v ((Z.fl c0).zip us'))) (.ins .own c0 us1) (q :: g') rfl (by simp [hd_own]; omega) (fun a => by have := l' a; simp [hd_own] at this ⊢; omega)
      ⟨q, dx, ps1, g', rfl, trivial, hu, by rw [e3]; exact upd_same, rfl, fun z => absurd rfl z, RepL.mono (fun _ h => h) (fun _ h => h) (fun _ h => h) us1 ps1 g' r' (away (fun _ h => h) (by rw [hq]; trivial) nFB.1 nFB.2 q0)⟩
    exact kn σ _ F1 Se' St' w' (s1.trans s') Off.refl
  split at hset
  · rename_i hk
    cases hset
    obtain ⟨g', l', r'⟩ := RepL.putAt rr hlen hk
    exact fin _ _ g' (by simpa using l) (putF_set nd hf (by omega)) l' r' rfl
  · split at hset
    case isFalse => cases hset
    rename_i ek
    cases hset
    subst ek
    have := (List.getElem?_eq_some_iff.mp hf).1
    exact fin _ _ _ (by simp; omega) (putF_new nd (by rw [← hlen]; exact hf)) (fun a => Nat.le_refl _) rr rfl
def AnySet (X : Cx) : TSet := fun o i v H Q => ∃ r, PSet X r ∧ r o i v H Q
theorem anySet (X : Cx) : PSet X (AnySet X) := fun pins s σ H o i v ov iv u Q I ro ri rv h => let ⟨_, k, q⟩ := h; k pins s σ H o i v ov iv u Q I ro ri rv q
theorem putK_some {ks : List Key} {us : List V} {k : Key} {j : Nat} (hl : ks.length = us.length) (nd : ks.Nodup) (h : kix ks k = some j) : putK (ks.zip us) k v = ks.zip (us.set j v) := by
  unfold putK
  rw [any_kix hl, h]
  exact putK_set hl nd h
theorem putK_none {ks : List Key} {us : List V} {k : Key} (hl : ks.length = us.length) (h : kix ks k = none) : putK (ks.zip us) k v = (ks ++ [k]).zip (us ++ [v]) := by
  unfold putK
  rw [any_kix hl, h, List.zip_append hl]
  rfl
theorem setp_imp {X : Cx} (hu : X.A.units + 1 < cLine) {i : Nat} {ps : List PX} {k e : IE} :
    ∀ D σ H, tS Z I as (.setp i ps k e) D σ H → tAsg (tT Z I e) (gSub (tPl Z i ps) (tT Z I k) (AnySet X)) D σ H := fun D σ H h => by
  obtain ⟨F, B, env, xs, vs, Se, St, w, nx, p⟩ := h
  have nv := nv0 nx
  rw [exS] at p
  refine ⟨F, B, env, xs, vs, Se, St, w, .inr nv, (PostS.thnX p).imp fun t e1 _ p1 v H1 F1 Se1 St1 w1 s1 => ?_⟩
  split at p1
  · exact p1.elim
  rename_i nvt
  have nvt : t.vw = false := by simpa using nvt
  have nv1 : vwL (xs ++ [t]) = false := by rw [vwL_snoc, nv, nvt]; rfl
  split at p1
  case h_2 => exact p1.elim
  rename_i kk e' hk
  obtain ⟨t0, pp, cc, c', he, hr, hp, hset, kn⟩ := atPl_of p1
  obtain ⟨v0, z, f2, hv, vc, rc, mk0⟩ := w1.atPl2 he hp
  refine ⟨v0, z, hv, resP_ok w1.er hr vc, F1, _, lend e1, [], [], [], [], w1.lend, .inr rfl, ?_⟩
  rw [hk]
  intro kv H2 F2 Se2 St2 w2 s2
  obtain ⟨_, fk, _, rk, _⟩ := w2.pop
  have grow : ∀ a o, H1 a = some o → H2 a = some o := fun a o h => s2.kp a o h rfl
  have sg : Step F1 H1 (Se1 ++ St1) F1 H2 (Se1 ++ St1) := ⟨fun _ h => h, fun a o h _ => grow a o h, fun a o h => ⟨o, grow a o h⟩, fun a h => .inl h, fun a h => .inl h⟩
  obtain ⟨g, rc2, rg, nd1, dj, mk⟩ := mk0 F1 H2 xs [t] vs [v] St1 grow (fun _ h => h) (w1.grow grow) rfl nv1
  have dic : ∀ (ks : List Key) (ts : List T) (key : Key), cc = .dic .own ks ts → kv = kV key → ks.length < LIM → c' = .dic .own (dput ks ts key t).1 (dput ks ts key t).2 → AnySet X z kv v H2 fun H3 => D.nx σ H3 := fun ks ts key ecc ekv hlim ec => by
    subst ecc ekv ec
    obtain ⟨q, us, fp', rfl, _, ⟨hl, hnd⟩, hq, rfl, _, rl⟩ := rc2
    have hq := hq.own
    have nFB : ¬ F1 q ∧ ¬ B q := ⟨fun z => by have := dj q (.inl z); simp [hd_own] at this, fun z => by have := dj q (.inr z); simp [hd_own] at this⟩
    have rr := rl.append rg
    have hlen := rl.length
    refine ⟨_, set_dict hu, q, _, rfl, DPut.k hq (by rw [List.length_zip, sizeLine_eq, ← hl, Nat.min_self]; exact hlim), ?_⟩
    have fin : ∀ ks1 us1 ps1 g', ks1.length = ps1.length ∧ ks1.Nodup → putK (ks.zip us) key v = ks1.zip ps1 → (∀ a, cn a g' ≤ cn a (fp' ++ g)) → RepL Z ⟨F1, B, fun _ => False⟩ H2 us1 ps1 g' → dput ks ts key t = (ks1, us1) → D.nx σ (upd H2 q (.dK (putK (ks.zip us) key v))) := fun ks1 us1 ps1 g' hu e3 l' r' ec => by
      have q0 : cn q g' = 0 := by have := l' q; have hnd := nd1 q; simp [hd_own] at this hnd; omega
      obtain ⟨Se', St', w', s'⟩ := mk q (.dK (putK (ks.zip us) key v)) (.dic .own (dput ks ts key t).1 (dput ks ts key t).2) (q :: g') rfl (by simp [hd_own]; omega) (fun a => by have := l' a; simp [hd_own] at this ⊢; omega) (by
        rw [ec]
        exact ⟨q, ps1, g', rfl, trivial, hu, .inl (by rw [e3]; exact upd_same), rfl, fun z => absurd rfl z, RepL.mono (fun _ h => h) (fun _ h => h) (fun _ h => h) us1 ps1 g' r' (away (fun _ h => h) (by rw [hq]; trivial) nFB.1 nFB.2 q0)⟩)
      exact kn σ _ F1 Se' St' w' ((s1.trans sg).trans s') Off.refl
    cases ej : kix ks key with
    | some j =>
      obtain ⟨g', l', r'⟩ := RepL.putAt rr hlen (n := j) (by have := kix_lt ej; omega)
      exact fin ks _ _ g' ⟨by simpa using hl, hnd⟩ (putK_some hl hnd ej) l' r' (by unfold dput; rw [ej])
    | none =>
      refine fin (ks ++ [key]) _ _ _ ⟨by simp [hl], ?_⟩ (putK_none hl ej) (fun a => Nat.le_refl _) rr (by unfold dput; rw [ej])
      rw [List.nodup_append]
      exact ⟨hnd, by simp, fun a ha b hb => by rw [List.mem_singleton] at hb; subst hb; exact kix_none ej a ha⟩
  unfold setK at hset
  split at hset
  · rename_i us j
    cases ej : ixN us.length j with
    | none => rw [ej] at hset; cases hset
    | some n =>
      rw [ej] at hset; cases hset
      obtain rfl := rk.1
      obtain ⟨q, ps', fp', rfl, _, hq, rfl, _, rl⟩ := rc2
      have nFB : ¬ F1 q ∧ ¬ B q := ⟨fun z => by have := dj q (.inl z); simp [hd_own] at this, fun z => by have := dj q (.inr z); simp [hd_own] at this⟩
      have rr := rl.append rg
      have hlen := rl.length
      obtain ⟨g', l', r'⟩ := RepL.putAt rr hlen (L2.ixN_seq ej).2.1
      have q0 : cn q g' = 0 := by have := l' q; have hnd := nd1 q; simp [hd_own] at this hnd; omega
      obtain ⟨Se', St', w', s'⟩ := mk q (.lst (ps'.set n v)) (.lst .own (us.set n t)) (q :: g') rfl (by simp [hd_own]; omega) (fun a => by have := l' a; simp [hd_own] at this ⊢; omega)
        ⟨q, _, g', rfl, trivial, upd_same, rfl, fun z => absurd rfl z, RepL.mono (fun _ h => h) (fun _ h => h) (fun _ h => h) _ _ g' r' (away (fun _ h => h) (by rw [hq]; trivial) nFB.1 nFB.2 q0)⟩
      exact ⟨_, set_list, q, ps', j, n, rfl, rfl, hq, by rw [← hlen]; exact ej, kn σ _ F1 Se' St' w' ((s1.trans sg).trans s') Off.refl⟩
  · rename_i ks ts s
    split at hset
    case isFalse => cases hset
    rename_i hlim
    cases hset
    obtain rfl := rk.1
    exact dic ks ts (.inr s) rfl rfl hlim rfl
  · rename_i ks ts s
    split at hset
    case isFalse => cases hset
    rename_i hlim
    cases hset
    obtain rfl := rk.1
    exact dic ks ts (.inl s) rfl rfl hlim rfl
  · cases hset
end
end VI

namespace VI
open PySem L2
def AnyMt (X : Cx) (id : String) : V → List V → Hp → VK → Prop := fun x vs H Q => ∃ r, MtR X id r ∧ r x vs H Q
theorem anyMt (X : Cx) (id : String) : MtR X id (AnyMt X id) := fun pins s σ H x xs v us Q I rx r h => let ⟨_, h, q⟩ := h; h pins s σ H x xs v us Q I rx r q
def mutNames : List Str := ["append", "clear", "reverse", "pop", "insert"]
def mutId (m : Str) : String := if m = "append" then "list.append" else if m = "clear" then "list.clear" else if m = "reverse" then "list.reverse" else if m = "pop" then "list.pop" else "list.insert"
theorem mut_facts {m : Str} (h : mutNames.contains m = true) : Slot "list" m (mutId m) ∧ typeOf (.builtin (mutId m)) = pure (.type "method_descriptor") := by
  have h := List.contains_iff_mem.mp h
  simp only [mutNames, List.mem_cons, List.not_mem_nil, or_false] at h
  rcases h with h | h | h | h | h <;> subst h
  · exact ⟨PySem.F.slot_list_append, PySem.F.type_list_append⟩
  · exact ⟨PySem.F.slot_list_clear, PySem.F.type_list_clear⟩
  · exact ⟨PySem.F.slot_list_reverse, PySem.F.type_list_reverse⟩
  · exact ⟨PySem.F.slot_list_pop, PySem.F.type_list_pop⟩
  · exact ⟨PySem.F.slot_list_insert, PySem.F.type_list_insert⟩
section
variable {Z : Wo} {I : CI} {as : List Nat} {D : Ends} {F B F1 : Addr → Prop} {H H1 : Hp} {σ σ1 : L2.St} {env e1 : Env} {xs ys zs ts : List T} {vs ws : List V} {Se St S S1 : List Addr} {t x y : T} {v u : V}
theorem RepL.rev {G : Sh} : ∀ {xs : List T} {vs : List V} {fp : List Addr}, RepL Z G H xs vs fp → ∃ g, (∀ a, cn a g ≤ cn a fp) ∧ RepL Z G H xs.reverse vs.reverse g := fun {xs} => by
  induction xs with
  | nil => intro vs fp r; obtain ⟨rfl, rfl⟩ := r; exact ⟨[], fun a => Nat.le_refl _, rfl, rfl⟩
  | cons x xs ih =>
    intro vs fp r
    obtain ⟨v, vs', f1, f2, rfl, rfl, r1, r2⟩ := r
    obtain ⟨g, l, r3⟩ := ih r2
    refine ⟨g ++ f1, fun a => by have := l a; simp; omega, ?_⟩
    rw [List.reverse_cons, List.reverse_cons]
    exact r3.append (RepL.one.mpr r1)
theorem mut_vw {m : Str} (hm : mutT m ys ts = some zs) : vwL ts = false := by
  unfold mutT at hm
  split at hm
  · split at hm
    · split at hm
      · rename_i hc; show (T.has _ _ || false) = false; rw [Bool.or_false]; exact hc.2
      · cases hm
    · cases hm
  split at hm
  · split at hm
    · rfl
    · cases hm
  split at hm
  · split at hm
    · rfl
    · cases hm
  split at hm
  · split at hm
    · rfl
    · cases hm
  split at hm
  · split at hm
    · split at hm
      · rename_i hc; show (false || (T.has _ _ || false)) = false; rw [Bool.or_false, Bool.false_or]; exact hc.2.1
      · cases hm
    · cases hm
  cases hm
/-- a list's own method, by trees -/
theorem mut_any {X : Cx} {m : Str} {p : Addr} {ps : List V} {g : List Addr} {G : Sh} (hp : H p = some (.lst ps)) (rg : RepL Z G H (ys ++ ts) (ps ++ ws) g) (hl : ts.length = ws.length) (hm : mutT m ys ts = some zs)
    (fin : ∀ us g', (∀ a, cn a g' ≤ cn a g) → RepL Z G H zs us g' → D.nx σ (upd H p (.lst us))) : AnyMt X (mutId m) (.ref p) ws H (fun _ H1 => D.nx σ H1) := by
  have hlen : ys.length = ps.length := by have := rg.length; simp at this; omega
  unfold mutT at hm
  split at hm
  · rename_i e; subst e
    split at hm
    · split at hm
      · rename_i y hc
        cases hm
        obtain ⟨w1, rfl⟩ : ∃ w1, ws = [w1] := List.length_eq_one_iff.mp hl.symm
        exact ⟨_, mt_append, p, ps, w1, rfl, rfl, hp, by rw [sizeLine_eq, ← hlen]; exact hc.1, fin _ g (fun a => Nat.le_refl _) rg⟩
      · cases hm
    · cases hm
  rename_i n1
  split at hm
  · rename_i e; subst e
    split at hm
    · cases hm
      obtain rfl : ws = [] := List.length_eq_zero_iff.mp hl.symm
      exact ⟨_, mt_clear, p, ps, rfl, rfl, hp, fin [] [] (fun a => by simp) ⟨rfl, rfl⟩⟩
    · cases hm
  rename_i n2
  split at hm
  · rename_i e; subst e
    split at hm
    · cases hm
      obtain rfl : ws = [] := List.length_eq_zero_iff.mp hl.symm
      simp only [List.append_nil] at rg
      obtain ⟨g', l, r⟩ := rg.rev
      exact ⟨_, mt_reverse, p, ps, rfl, rfl, hp, fin _ g' l r⟩
    · cases hm
  rename_i n3
  split at hm
  · rename_i e; subst e
    split at hm
    · split at hm
      · cases hm
      · rename_i hne
        cases hm
        obtain rfl : ws = [] := List.length_eq_zero_iff.mp hl.symm
        simp only [List.append_nil] at rg
        have hlen := rg.length
        have hy : ys.length ≠ 0 := fun z => hne (List.length_eq_zero_iff.mp z)
        obtain ⟨f, l, r⟩ := rg.take (ys.length - 1)
        have e1 : ps[ps.length - 1]? = some (ps[ps.length - 1]'(by omega)) := by simp
        refine ⟨_, mt_pop, p, ps, _, rfl, rfl, hp, e1, ?_⟩
        rw [List.dropLast_eq_take]
        refine fin _ f l ?_
        rw [← hlen, List.dropLast_eq_take]
        exact r
    · cases hm
  rename_i n4
  split at hm
  · rename_i e; subst e
    split at hm
    · split at hm
      · rename_i i y hc
        cases hm
        obtain ⟨v1, v2, g1, g2, ev, rfl, r1, r2⟩ := rg.split
        obtain ⟨rfl, rfl⟩ := List.append_inj ev (by rw [← r1.length]; exact hlen.symm)
        obtain ⟨wi, ws', h1, h2, rfl, rfl, ri, r3⟩ := r2
        obtain ⟨wy, ws'', h3, h4, rfl, rfl, ry, r4⟩ := r3
        obtain ⟨rfl, rfl⟩ := r4
        obtain ⟨rfl, rfl⟩ := ri
        rw [← List.take_append_drop i.toNat ys] at r1
        obtain ⟨p1, p2, k1, k2, ep, rfl, ra, rb⟩ := r1.split
        have l1 : p1.length = (ps.take i.toNat).length := by rw [← ra.length, List.length_take, List.length_take, hlen]
        rw [← List.take_append_drop i.toNat ps] at ep
        obtain ⟨e1, e2⟩ := List.append_inj ep.symm l1
        subst e1 e2
        refine ⟨_, mt_insert, p, ps, i, wy, rfl, rfl, hp, by rw [sizeLine_eq, ← hlen]; exact hc.1, hc.2.2.1, by have := hc.2.2.2; omega, fin _ (k1 ++ (h3 ++ k2)) (fun a => by simp; omega) ?_⟩
        have r5 : RepL Z G H ((ys.take i.toNat) ++ (y :: ys.drop i.toNat)) (ps.take i.toNat ++ (wy :: ps.drop i.toNat)) (k1 ++ (h3 ++ k2)) := ra.append ⟨wy, _, h3, k2, rfl, rfl, ry, rb⟩
        rw [List.append_assoc]
        exact r5
      · cases hm
    · cases hm
  cases hm
theorem mut_ok {X : Cx} {m : Str} {i : Nat} (w : Wd Z F B H σ env (xs ++ ts) (vs ++ ws) Se St) (hl : ts.length = ws.length) (nv : vwL xs = false) (he : env[i]? = some (some (.lst .own ys))) (hm : mutT m ys ts = some zs) (hv : σ[i]? = some (some v))
    (k : KN Z as D F B H σ xs vs (Se ++ St) (env.set i (some (.lst .own zs)))) : AnyMt X (mutId m) v ws H (fun _ H1 => D.nx σ H1) := by
  have nvt := mut_vw hm
  obtain ⟨p, ps, g, hv', hp, rg, mk⟩ := w.updSlot hl (by rw [vwL_append, nv, nvt]; rfl) he
  rw [hv] at hv'
  cases hv'
  exact mut_any hp rg hl hm fun us g' l r => by
    obtain ⟨Se', St', w', s'⟩ := mk zs us g' l r
    exact k σ _ F Se' St' w' s' Off.refl
theorem mutp_imp {X : Cx} {m : Str} {i : Nat} {ps : List PX} {il : IL} : ∀ D σ H, tS Z I as (.mutp m i ps il) D σ H → tDrop (tBM X.K "list" (AnyMt X (mutId m)) (tPl Z i ps) (tL Z I il)) D σ H := fun D σ H h => by
  obtain ⟨F, B, env, xs, vs, Se, St, w, nx, p⟩ := h
  have nv := nv0 nx
  rw [exS] at p
  split at p
  case h_2 => exact p.elim
  rename_i ts e' hL
  split at p
  case isFalse => exact p.elim
  rename_i hc
  obtain ⟨t0, pp, cc, c', he, hr, hp, hset, kn⟩ := atPl_of p
  obtain ⟨v0, z, f2, hv, vc, rc, mk0⟩ := w.atPl2 he hp
  split at hset
  case h_2 => cases hset
  rename_i ys0
  obtain ⟨zs, hm, rfl⟩ := Option.map_eq_some_iff.mp hset
  obtain ⟨q, ps', fp', rfl, _, hq, rfl, e3, rl⟩ := rc
  refine ⟨v0, .ref q, hv, resP_ok w.er hr vc, .inl ⟨rfl, ps', SqL.of hq⟩, F, _, lend env, [], [], [], [], w.lend, .inr rfl, ?_⟩
  rw [hL]
  intro ws H2 F2 Se2 St2 hl w2 s2
  obtain ⟨w3, s3⟩ := w.unlend (fun _ h => .inl h) w2 s2 hc
  have grow : ∀ a o, H a = some o → H2 a = some o := fun a o h => s2.kp a o h rfl
  obtain ⟨g, rc2, rg, nd1, dj, mk⟩ := mk0 F2 H2 xs ts vs ws (St ++ St2) grow s2.fF w3 hl (by rw [vwL_append, nv, mut_vw hm]; rfl)
  obtain ⟨q', ps2, fp2, eq, _, hq2, e4, _, rl2⟩ := rc2
  cases eq
  have := grow _ _ hq
  rw [hq2] at this
  cases this
  obtain rfl : fp' = fp2 := List.append_cancel_left e4
  have nFB : ¬ F2 q ∧ ¬ B q := ⟨fun z => by have := dj q (.inl z); simp [hd_own] at this, fun z => by have := dj q (.inr z); simp [hd_own] at this⟩
  refine mut_any hq2 (rl2.append rg) hl hm fun us g' l r => ?_
  have q0 : cn q g' = 0 := by have := l q; have hnd := nd1 q; simp [hd_own] at this hnd; omega
  obtain ⟨Se', St', w', s'⟩ := mk q (.lst us) (.lst .own zs) (q :: g') rfl (by simp [hd_own]; omega) (fun a => by have := l a; simp [hd_own] at this ⊢; omega)
    ⟨q, _, g', rfl, trivial, upd_same, rfl, fun z => absurd rfl z, RepL.mono (fun _ h => h) (fun _ h => h) (fun _ h => h) _ _ g' r (away (fun _ h => h) (by rw [hq2]; trivial) nFB.1 nFB.2 q0)⟩
  exact kn σ _ F2 Se' St' w' (s3.trans s') Off.refl
theorem mutp0_imp {X : Cx} {m : Str} {i : Nat} {ps : List PX} : ∀ D σ H, tS Z I as (.mutp m i ps .nil) D σ H → tDrop (tBM0 X.K "list" (AnyMt X (mutId m)) (tPl Z i ps)) D σ H := fun D σ H h => by
  obtain ⟨v, w, hv, hp, ty, q⟩ := mutp_imp (X := X) D σ H h
  exact ⟨v, w, hv, hp, ty, tL_nil σ H _ q⟩
theorem mut_imp {X : Cx} (hK : X.K = Z.K) {m : Str} {i : Nat} {il : IL} : ∀ D σ H, tS Z I as (.mut m i il) D σ H → tDrop (tBM X.K "list" (AnyMt X (mutId m)) (tVar i) (tL Z I il)) D σ H := fun D σ H h => by
  obtain ⟨F, B, env, xs, vs, Se, St, w, nx, p⟩ := h
  have nv := nv0 nx
  rw [exS] at p
  split at p
  · rename_i a0 he
    obtain ⟨v, f1, f2, f3, hv, _, ⟨q, qs, fp', rfl, _, hq, _⟩, _⟩ := w.er.get he
    refine ⟨_, hv, .inl ⟨rfl, qs, SqL.of hq⟩, F, B, env, xs, vs, Se, St, w, .inr nv, (PostS.thnX p).imp fun ts e1 _ p1 ws H1 F1 Se1 St1 hl w1 s1 => ?_⟩
    split at p1
    · rename_i ys he1
      split at p1
      · rename_i zs hm
        have k : KN Z as D F B H σ xs vs (Se ++ St) (e1.set i (some (.lst .own zs))) := p1
        exact mut_ok w1 hl nv he1 hm hv (k.after s1 Off.refl)
      · exact p1.elim
    · exact p1.elim
  · exact p.elim
theorem mut0_imp {X : Cx} (hK : X.K = Z.K) {m : Str} {i : Nat} : ∀ D σ H, tS Z I as (.mut m i .nil) D σ H → tDrop (tBM0 X.K "list" (AnyMt X (mutId m)) (tVar i)) D σ H := fun D σ H h => by
  obtain ⟨v, hv, ty, q⟩ := mut_imp hK D σ H h
  exact ⟨v, hv, ty, tL_nil σ H _ q⟩
theorem seti_imp {i : Nat} {k e : IE} : ∀ D σ H, tS Z I as (.seti i k e) D σ H → tAsg (tT Z I e) (gSub (tVar i) (tT Z I k) rSetL) D σ H := fun D σ H h => by
  obtain ⟨F, B, env, xs, vs, Se, St, w, nx, p⟩ := h
  have nv := nv0 nx
  rw [exS] at p
  refine ⟨F, B, env, xs, vs, Se, St, w, .inr nv, (PostS.thnX p).imp fun t e1 _ p1 v H1 F1 Se1 St1 w1 s1 => ?_⟩
  split at p1
  · exact p1.elim
  rename_i nvt
  have nvt : t.vw = false := by simpa using nvt
  split at p1
  · rename_i u0 he
    obtain ⟨vo, _, _, _, hv, _⟩ := w1.er.get he
    have nv1 : vwL (xs ++ [t]) = false := by rw [vwL_snoc, nv, nvt]; rfl
    refine ⟨vo, hv, F1, B, e1, xs ++ [t], vs ++ [v], Se1, St1, w1, .inr nv1, (PostS.thnX (p1.after s1 Off.refl)).imp fun kk e2 hek p2 kv H2 F2 Se2 St2 w2 s2 => ?_⟩
    split at p2
    · exact p2.elim
    rename_i nvk
    have nvk : kk.vw = false := by simpa using nvk
    split at p2
    · rename_i u he2
      split at p2
      · rename_i u' hset
        unfold setT at hset
        split at hset
        · rename_i us j hq
          cases ej : ixN us.length j with
          | none => rw [ej] at hset; cases hset
          | some n =>
            rw [ej] at hset; cases hset
            have w2' : Wd Z F2 B H2 σ e2 (xs ++ [t, .int j]) (vs ++ [v, kv]) Se2 St2 := by simpa [List.append_assoc] using w2
            obtain ⟨f0, f2, _, rk, _⟩ := w2.pop
            obtain rfl := rk.1
            obtain ⟨p, ps, g, hv', hp, rg, mk⟩ := w2'.updSlot rfl (by rw [vwL_append, nv, show vwL [t, .int j] = (t.vw || (false || false)) from rfl, nvt]; rfl) he2
            rw [hv] at hv'
            cases hv'
            have hlen : us.length = ps.length := by have := rg.length; simp at this; exact this
            refine ⟨p, ps, j, n, rfl, rfl, hp, by rw [← hlen]; exact ej, ?_⟩
            -- the items, one of them another
            have rs : ∃ g', (∀ a, cn a g' ≤ cn a g) ∧ RepL Z ⟨F2, B, fun _ => False⟩ H2 (us.set n t) (ps.set n v) g' := by
              obtain ⟨v1, v2, g1, g2, ev, rfl, r1, r2⟩ := rg.split
              have hn : n < us.length := by
                have := (L2.ixN_seq ej).2.1; exact this
              obtain ⟨rfl, rfl⟩ := List.append_inj' ev (by simpa using r2.length)
              obtain ⟨w', _, h1, h2, e3, rfl, rt, _⟩ := r2
              cases e3
              have key : ∀ (us : List T) (ps : List V) (g1 : List Addr) (n : Nat), RepL Z ⟨F2, B, fun _ => False⟩ H2 us ps g1 → ∃ g', (∀ a, cn a g' ≤ cn a g1 + cn a h1) ∧ RepL Z ⟨F2, B, fun _ => False⟩ H2 (us.set n t) (ps.set n v) g' := by
                intro us
                induction us with
                | nil => intro ps g1 n r; obtain ⟨rfl, rfl⟩ := r; exact ⟨[], fun a => by simp, rfl, rfl⟩
                | cons x us ih =>
                  intro ps g1 n r
                  obtain ⟨v0, vs0, k1, k2, rfl, rfl, r3, r4⟩ := r
                  cases n with
                  | zero => exact ⟨h1 ++ k2, fun a => by simp; omega, v, vs0, h1, k2, rfl, rfl, rt, r4⟩
                  | succ n =>
                    obtain ⟨g', l, r5⟩ := ih vs0 k2 n r4
                    exact ⟨k1 ++ g', fun a => by have := l a; simp; omega, v0, vs0.set n v, k1, g', rfl, rfl, r3, r5⟩
              obtain ⟨g', l, r5⟩ := key us ps g1 n r1
              exact ⟨g', fun a => by have := l a; simp; omega, r5⟩
            obtain ⟨g', l, r5⟩ := rs
            obtain ⟨Se', St', w', s'⟩ := mk _ _ g' l r5
            have k : KN Z as D F1 B H1 σ xs vs (Se1 ++ St1) (e2.set i (some (.lst .own (us.set n t)))) := p2
            exact k σ _ F2 Se' St' w' (s2.trans s') Off.refl
        · cases hset
      · exact p2.elim
    · exact p2.elim
  · exact p1.elim
end
end VI

namespace VI
open PySem L2
/-! raise, try: by trees -/
def Wo.xas (Z : Wo) (r : Hp → Addr → Nat → List T → Prop) (m : ∀ (H H' : Hp) (a : Addr) (c : Nat) (vs : List T), (∀ b o, H b = some o → XO o → H' b = some o) → r H a c vs → r H' a c vs) (W : Value → Option Addr → L2.St → Hp → Prop) : Wo := { Z with xr := r, xm := m, ws := W }
section
variable {Z : Wo} {G : Sh} {H : Hp} {r : Hp → Addr → Nat → List T → Prop} {m : ∀ (H H' : Hp) (a : Addr) (c : Nat) (vs : List T), (∀ b o, H b = some o → XO o → H' b = some o) → r H a c vs → r H' a c vs} {W : Value → Option Addr → L2.St → Hp → Prop}
mutual
theorem Rep.xas : ∀ (t : T) (v : V) (fp : List Addr), (t.hasX = false ∨ ∀ H a c vs, ¬ Z.xr H a c vs) → Rep Z G H t v fp → Rep (Z.xas r m W) G H t v fp := fun t v fp n h => by
  cases t with
  | non => exact h
  | bl _ => exact h
  | int _ => exact h
  | str _ => exact h
  | ptr _ => exact h
  | exn c vs =>
    obtain ⟨⟨a, _, h⟩, _⟩ := h
    rcases n with n | n
    · rw [T.hasX] at n; cases n
    · exact absurd h (n _ _ _ _)
  | scr _ => exact h
  | tup xs => obtain ⟨p, vs, e, q, r⟩ := h; exact ⟨p, vs, e, q, RepL.xas xs vs fp (n.imp (fun z => by rw [T.hasX] at z; exact z) id) r⟩
  | lst f xs => obtain ⟨p, vs, fp', e, g, hp, e2, e3, r⟩ := h; exact ⟨p, vs, fp', e, g, hp, e2, e3, RepL.xas xs vs fp' (n.imp (fun z => by rw [T.hasX] at z; exact z) id) r⟩
  | dic f ks xs => obtain ⟨p, vs, fp', e, g, l, hp, e2, e3, r⟩ := h; exact ⟨p, vs, fp', e, g, l, hp, e2, e3, RepL.xas xs vs fp' (n.imp (fun z => by rw [T.hasX] at z; exact z) id) r⟩
  | ins f c xs => obtain ⟨p, dx, vs, fp', e, g, l, hp, e2, e3, r⟩ := h; exact ⟨p, dx, vs, fp', e, g, l, hp, e2, e3, RepL.xas xs vs fp' (n.imp (fun z => by rw [T.hasX] at z; exact z) id) r⟩
theorem RepL.xas : ∀ (xs : List T) (vs : List V) (fp : List Addr), (T.hasXL xs = false ∨ ∀ H a c vs, ¬ Z.xr H a c vs) → RepL Z G H xs vs fp → RepL (Z.xas r m W) G H xs vs fp := fun xs vs fp n h => by
  cases xs with
  | nil => exact h
  | cons x xs =>
    obtain ⟨v, vs', f1, f2, e, e2, r1, r2⟩ := h
    have n1 : x.hasX = false ∨ ∀ H a c vs, ¬ Z.xr H a c vs := n.imp (fun z => by rw [T.hasXL, Bool.or_eq_false_iff] at z; exact z.1) id
    have n2 : T.hasXL xs = false ∨ ∀ H a c vs, ¬ Z.xr H a c vs := n.imp (fun z => by rw [T.hasXL, Bool.or_eq_false_iff] at z; exact z.2) id
    exact ⟨v, vs', f1, f2, e, e2, Rep.xas x v f1 n1 r1, RepL.xas xs vs' f2 n2 r2⟩
end
theorem EnvRep.xas : ∀ {σ : L2.St} {env : Env} {S : List Addr}, (xfree env = true ∨ ∀ H a c vs, ¬ Z.xr H a c vs) → EnvRep Z G H σ env S → EnvRep (Z.xas r m W) G H σ env S := fun {σ} => by
  induction σ with
  | nil => intro env S n h; exact h
  | cons vo σ ih =>
    intro env S n h
    obtain ⟨to, env', e, h⟩ := h
    subst e
    have n2 : xfree env' = true ∨ ∀ H a c vs, ¬ Z.xr H a c vs := n.imp (fun z => by unfold xfree at z; rw [List.all_cons, Bool.and_eq_true] at z; exact z.2) id
    refine ⟨to, env', rfl, ?_⟩
    cases to with
    | none => exact ih n2 h
    | some t =>
      obtain ⟨v, f1, S', e1, e2, r1, h⟩ := h
      exact ⟨v, f1, S', e1, e2, Rep.xas _ _ _ (n.imp (fun z => by unfold xfree at z; rw [List.all_cons, Bool.and_eq_true] at z; simpa using z.1) id) r1, ih n2 h⟩
variable {F B : Addr → Prop} {σ : L2.St} {env : Env} {xs : List T} {vs : List V} {Se St : List Addr} {t : T} {v : V}
theorem Wd.xas (w : Wd Z F B H σ env xs vs Se St) (n1 : xfree env = true ∨ ∀ H a c vs, ¬ Z.xr H a c vs) (n2 : T.hasXL xs = false ∨ ∀ H a c vs, ¬ Z.xr H a c vs) : Wd (Z.xas r m W) F B H σ env xs vs Se St := ⟨w.er.xas n1, RepL.xas _ _ _ n2 w.tr, w.nd, w.dj, w.al⟩
/-- a slot is emptied on both sides -/
theorem EnvRep.gone : ∀ {σ : L2.St} {env : Env} {S : List Addr} (i : Nat) (x : Option V), EnvRep Z G H σ env S → ∃ S', (∀ a, cn a S' ≤ cn a S) ∧ EnvRep Z G H (σ.set i x) (env.set i none) S' := fun {σ} => by
  induction σ with
  | nil => intro env S i x h; obtain ⟨rfl, rfl⟩ := h; exact ⟨[], fun a => Nat.le_refl _, rfl, rfl⟩
  | cons vo σ ih =>
    intro env S i x h
    obtain ⟨to, env', rfl, h⟩ := h
    cases i with
    | zero =>
      cases to with
      | none => exact ⟨S, fun a => Nat.le_refl _, none, env', rfl, h⟩
      | some t => obtain ⟨v, f1, S', e1, rfl, r1, h⟩ := h; exact ⟨S', fun a => by simp, none, env', rfl, h⟩
    | succ i =>
      cases to with
      | none => obtain ⟨S', l, h'⟩ := ih i x h; exact ⟨S', l, none, env'.set i none, rfl, h'⟩
      | some t =>
        obtain ⟨v, f1, S', e1, rfl, r1, h⟩ := h
        obtain ⟨S2, l, h'⟩ := ih i x h
        exact ⟨f1 ++ S2, fun a => by have := l a; simp; omega, some t, env'.set i none, rfl, v, f1, S2, e1, rfl, r1, h'⟩
theorem Wd.gone (w : Wd Z F B H σ env xs vs Se St) (nv : vwL xs = false) (i : Nat) (x : Option V) : ∃ Se', Wd Z F B H (σ.set i x) (env.set i none) xs vs Se' St ∧ Step F H (Se ++ St) F H (Se' ++ St) := by
  obtain ⟨S', l, e⟩ := w.er.gone i x
  exact ⟨S', ⟨e, RepL.noW (W' := fun a => 0 < cn a S') xs vs St nv w.tr, fun a => by have := w.nd a; have := l a; omega, fun a h => by have := w.dj a h; have := l a; omega, w.al⟩, Step.le fun a => by have := l a; simp; omega⟩
end
theorem xis_keep {Z : Wo} {H H' : Hp} {x : Xn} {cls : Value} {d : Option Addr} (k : ∀ b o, H b = some o → XO o → H' b = some o) (h : XIs Z H x cls d) : XIs Z H' x cls d :=
  ⟨h.1, h.2.1, h.2.2.1, h.2.2.2.imp id fun ⟨dd, fs, a, b, c⟩ => ⟨dd, fs, a, k _ _ b trivial, c⟩⟩
/-- the world of an except suite: the exception at a -/
def Wo.sui (Z : Wo) (I : CI) (a : Addr) (cls : Value) (d : Option Addr) : Wo := Z.xas (fun H b c vs => b = a ∧ I.xo c = true ∧ XIs Z H ⟨c, vs⟩ cls d) (fun H H' b c vs k h => ⟨h.1, h.2.1, xis_keep k h.2.2⟩) (fun _ _ _ _ => False)
theorem xfs_not : ∀ {fl : List Str} {ws : List V} {acc : List (Str × V)} {n : Str}, n ∉ fl → (xfs fl ws acc).lookup n = acc.lookup n
  | [], _, _, _, _ => rfl
  | _ :: _, [], _, _, _ => rfl
  | f :: fl, w :: ws, acc, n, h => by
    simp only [List.mem_cons, not_or] at h
    rw [xfs, xfs_not h.2, List.lookup_cons, beq_eq_false_iff_ne.mpr h.1]
theorem xfs_get : ∀ {fl : List Str} {ws : List V} {acc : List (Str × V)} {k : Nat} {n : Str} {w : V}, fl.Nodup → fl[k]? = some n → ws[k]? = some w → (xfs fl ws acc).lookup n = some w
  | [], _, _, _, _, _, _, h, _ => by simp at h
  | _ :: _, [], _, _, _, _, _, _, h => by simp at h
  | f :: fl, v :: ws, acc, 0, n, w, nd, h1, h2 => by
    simp at h1 h2
    subst h1 h2
    rw [xfs, xfs_not (List.nodup_cons.mp nd).1, List.lookup_cons]; simp
  | f :: fl, v :: ws, acc, k + 1, n, w, nd, h1, h2 => by
    rw [xfs]
    exact xfs_get (List.nodup_cons.mp nd).2 (by simpa using h1) (by simpa using h2)
theorem imm_of {Z : Wo} {G : Sh} {H : Hp} {t : T} {v : V} {fp : List Addr} (i : t.imm = true) (r : Rep Z G H t v fp) : ImmIs t v := by
  cases t <;> first | (cases i; done) | skip
  · obtain rfl := r.1; exact imm_non
  · obtain rfl := r.1; exact imm_bl _
  · obtain rfl := r.1; exact imm_int _
  · obtain rfl := r.1; exact imm_str _
theorem repL_get {Z : Wo} {G : Sh} {H : Hp} : ∀ {ts : List T} {ws : List V} {fp : List Addr} {k : Nat} {t : T}, RepL Z G H ts ws fp → ts[k]? = some t → ∃ w f, ws[k]? = some w ∧ Rep Z G H t w f
  | [], _, _, _, _, _, h => by simp at h
  | x :: ts, ws, fp, 0, t, r, h => by
    obtain ⟨v, vs', f1, f2, rfl, _, r1, _⟩ := r
    simp at h; subst h
    exact ⟨v, f1, rfl, r1⟩
  | x :: ts, ws, fp, k + 1, t, r, h => by
    obtain ⟨v, vs', f1, f2, rfl, _, _, r2⟩ := r
    obtain ⟨w, f, a, b⟩ := repL_get r2 (by simpa using h)
    exact ⟨w, f, by simpa using a, b⟩
section
variable {X : Cx} {Z : Wo} {I : CI} {as : List Nat} {D : Ends} {F B F1 : Addr → Prop} {H H1 : Hp} {σ σ1 : L2.St} {env e1 : Env} {xs ys zs ts : List T} {vs ws : List V} {Se St S S1 : List Addr} {t x y : T} {v u : V}
theorem rais_imp {c : Nat} {il : IL} {C : Addr} (hI : I.xf = Z.xf) (hc : Z.xc c = .ref C) (T0 : OexC X.K C) (nd : (Z.xf c).Nodup) (few : (Z.xf c).length ≤ 900) (na : ∀ f ∈ Z.xf c, PySem.W.findIn X.K (.ref C) f = some none) :
    ∀ D σ H, tS Z I as (.rais c true il) D σ H → tMkO C (spX X.K (Z.xf c)) [] (tL Z I il) σ H fun cls d H' => Z.ws cls d σ H' := fun D σ H h => by
  obtain ⟨F, B, env, xs, vs, Se, St, w, nx, p⟩ := h
  have nv := nv0 nx
  rw [exS] at p
  refine ⟨F, B, env, xs, vs, Se, St, w, .inr nv, (PostS.thnX p).imp fun ts e1 _ p1 ws H1 F1 Se1 St1 hl w1 s1 => ?_⟩
  have p1 : PostS (KX Z as F B H σ (Se ++ St)) (if (ts.all T.imm && decide (ts.length = (I.xf c).length)) = true then SOut.exc ⟨c, ts⟩ e1 else .stuck) (KN Z as D F B H σ xs vs (Se ++ St)) (KR Z as D F B H σ xs vs (Se ++ St)) := p1
  split at p1
  case isFalse => exact p1.elim
  rename_i hh
  rw [hI, Bool.and_eq_true] at hh
  obtain ⟨hi, hlen⟩ := hh
  have hlen := of_decide_eq_true hlen
  have k : KX Z as F B H σ (Se ++ St) ⟨c, ts⟩ e1 := p1
  refine ⟨by omega, fun a ha => ⟨by simp; omega, a, C, ws, by simp, T0, na, upd_same, fun d hd hda => ?_⟩⟩
  have hd1 : H1 d = none := by rw [upd_ne hda] at hd; exact hd
  refine ⟨rfl, d, xfs (Z.xf c) ws [], upd_same, by rw [upd_ne hda, upd_same], hd1, ?_⟩
  have e : upd (del (upd (upd (upd H1 a (exo a C none)) d (exd d (xfs (Z.xf c) ws []))) a (exo a C (some d))) a) d (.xd (xfs (Z.xf c) ws [])) = upd H1 d (.xd (xfs (Z.xf c) ws [])) := by
    funext b
    by_cases h1 : b = d
    · rw [h1, upd_same, upd_same]
    · rw [upd_ne h1, upd_ne h1]
      by_cases h2 : b = a
      · rw [h2, del_same, ha]
      · rw [del_ne h2, upd_ne h2, upd_ne h1, upd_ne h2]
  rw [e]
  obtain ⟨f1, f2, rfl, r, w2⟩ := w1.split' hl
  refine k σ (.ref C) (some d) _ F1 Se1 ⟨hc.symm, hi, hlen, .inr ⟨d, _, rfl, upd_same, fun j n t h1 h2 => ?_⟩⟩ ((w1.grow (upd_keep hd1)).bare) (s1.trans (Step.alloc hd1 fun b => by simp; omega)) Off.refl
  obtain ⟨u, g, e1, e2⟩ := repL_get r h2
  exact ⟨u, xfs_get nd h1 e1, imm_of (List.all_eq_true.mp hi t (List.mem_of_getElem? h2)) e2⟩
theorem rais0_imp {c : Nat} {s : Str} {C : Addr} (hc : Z.xc c = .ref C) (hf : Z.xf c = []) :
    ∀ D σ H, tS Z I as (.rais c false (.cons (.str s) .nil)) D σ H → Z.ws (.ref C) none σ H := fun D σ H h => by
  obtain ⟨F, B, env, xs, vs, Se, St, w, nx, p⟩ := h
  have nv := nv0 nx
  have ev : evL I (.cons (.str s) .nil) env = .ok [.str s] env := by simp [evL, evE, pL, T.vw, gd]
  rw [exS, ev] at p
  have k : KX Z as F B H σ (Se ++ St) ⟨c, []⟩ env := p
  exact k σ (.ref C) none H F Se ⟨hc.symm, rfl, (by show 0 = _; rw [hf]; rfl), .inl ⟨hf, rfl⟩⟩ w.bare (Step.le fun a => by simp) Off.refl
/-- what the suite is to do with an exception -/
def tSui (Z : Wo) (I : CI) (as : List Nat) (hd : IB) (a : Addr) (cls : Value) (d : Option Addr) : TS := tB (Z.sui I a cls d) I as hd
theorem try_imp {body hd : IB} {k : XC} {i : Nat} {cv : Value} (hi : i ∈ as) (hx : ∀ H a c vs, ¬ Z.xr H a c vs) (hk : ∀ c, I.xo c = true → PySem.W.exmOne X.K (Z.xc c) cv = some (xcB c k)) :
    ∀ D σ H, tS Z I as (.tryx body k (some i) hd) D σ H → tB (Z.as (wAs X.K cv i (tSui Z I as hd) Z.ws D)) I as body D σ H := fun D σ H h => by
  obtain ⟨F, B, env, xs, vs, Se, St, w, nx, p⟩ := h
  subst nx
  obtain ⟨rfl, rfl⟩ := w.tr
  rw [exS] at p
  refine ⟨F, B, env, [], [], Se, [], w.ws, rfl, ?_⟩
  have KNt : ∀ e, KN Z as D F B H σ [] [] (Se ++ []) e → KN (Z.as (wAs X.K cv i (tSui Z I as hd) Z.ws D)) as D F B H σ [] [] (Se ++ []) e := fun e k σ' H' F' Se' St' w' s' o' => k σ' H' F' Se' St' w'.ws' s' o'
  have KRt : ∀ t e, KR Z as D F B H σ [] [] (Se ++ []) t e → KR (Z.as (wAs X.K cv i (tSui Z I as hd) Z.ws D)) as D F B H σ [] [] (Se ++ []) t e := fun t e k v σ' H' F' Se' St' w' s' o' => k v σ' H' F' Se' St' w'.ws' s' o'
  cases hb : exB I body env with
  | stuck => rw [hb] at p; exact p
  | next e => rw [hb] at p; exact KNt e p
  | ret t e => rw [hb] at p; exact KRt t e p
  | exc x e =>
    rw [hb] at p
    dsimp only at p
    intro σ' cls d H' F' Se' hx' w' s' o'
    split at p
    case isFalse => exact p.elim
    rename_i ho
    have hcls : cls = Z.xc x.c := hx'.1
    refine ⟨xcB x.c k, by rw [hcls]; exact hk _ ho, fun hy a ha => ?_, fun hn => ?_⟩
    · rw [if_pos hy] at p
      split at p
      case isFalse => exact p.elim
      rename_i hie
      have wz : Wd Z F' B H' σ' e [] [] Se' [] := w'.ws'
      have w2 : Wd (Z.sui I a cls d) F' B H' σ' e [] [] Se' [] := wz.xas (.inr hx) (.inl rfl)
      have rx : Rep (Z.sui I a cls d) ⟨F', B, fun _ => False⟩ H' (.exn x.c x.vs) (.ref a) [] := ⟨⟨a, rfl, rfl, ho, hx'⟩, rfl⟩
      obtain ⟨Se2, St2, w3, s3⟩ := w2.bind1 (i := i) rfl rx rfl hie
      obtain ⟨_, rfl⟩ := w3.tr
      refine ⟨F', B, _, [], [], Se2, [], w3, rfl, ?_⟩
      have sA : Step F H (Se ++ []) F' H' (Se2 ++ []) := (show Step F H (Se ++ []) F' H' (Se' ++ []) by simpa using s').trans s3
      have oA : Off as σ (σ'.set i (some (.ref a))) := o'.trans (Off.set hi)
      have back : ∀ {σ3 : L2.St} {H3 : Hp} {F3 : Addr → Prop} {Se3 St3 : List Addr} {e2 : Env} {us : List T} {zs : List V}, Wd (Z.sui I a cls d) F3 B H3 σ3 e2 us zs Se3 St3 → xfree (e2.set i none) = true → T.hasXL us = false → vwL us = false →
          ∃ Se4, Wd Z F3 B H3 (σ3.set i none) (e2.set i none) us zs Se4 St3 ∧ Step F3 H3 (Se3 ++ St3) F3 H3 (Se4 ++ St3) := fun w4 h1 h2 h3 => by
        obtain ⟨Se4, w5, s5⟩ := w4.gone h3 i none
        exact ⟨Se4, Wd.xas (Z := Z.sui I a cls d) (r := Z.xr) (m := Z.xm) (W := Z.ws) w5 (.inl h1) (.inl h2), s5⟩
      cases hh : exB I hd (e.set i (some (.exn x.c x.vs))) with
      | stuck => rw [hh] at p; exact p.elim
      | exc _ _ => rw [hh] at p; exact p.elim
      | next e2 =>
        rw [hh] at p
        dsimp only at p
        split at p
        case isFalse => exact p.elim
        rename_i hf
        have p : KN Z as D F B H σ [] [] (Se ++ []) (e2.set i none) := p
        intro σ3 H3 F3 Se3 St3 w4 s4 o4
        obtain ⟨Se4, w5, s5⟩ := back w4 hf rfl rfl
        exact p _ H3 F3 Se4 St3 w5 ((sA.trans s4).trans s5) ((oA.trans o4).trans (Off.set hi))
      | ret t e2 =>
        rw [hh] at p
        dsimp only at p
        split at p
        case isFalse => exact p.elim
        rename_i hf
        simp only [Bool.and_eq_true, Bool.not_eq_true'] at hf
        have p : KR Z as D F B H σ [] [] (Se ++ []) t (e2.set i none) := p
        intro v σ3 H3 F3 Se3 St3 w4 s4 o4
        obtain ⟨Se4, w5, s5⟩ := back w4 hf.1 (by show (T.hasX t || false) = false; rw [hf.2.1]; rfl) (by show (T.has _ t || false) = false; rw [show T.has _ t = false from hf.2.2]; rfl)
        exact p v _ H3 F3 Se4 St3 w5 ((sA.trans s4).trans s5) ((oA.trans o4).trans (Off.set hi))
    · rw [if_neg (by rw [hn]; decide)] at p
      have p : KX Z as F B H σ (Se ++ []) x e := p
      exact p σ' cls d H' F' Se' hx' w'.ws' s' o'
/-- .. without a name -/
theorem try0_imp {body hd : IB} {k : XC} {cv : Value} (hx : ∀ H a c vs, ¬ Z.xr H a c vs) (hk : ∀ c, I.xo c = true → PySem.W.exmOne X.K (Z.xc c) cv = some (xcB c k)) :
    ∀ D σ H, tS Z I as (.tryx body k none hd) D σ H → tB (Z.as (wOnly X.K cv (tSui Z I as hd) Z.ws D)) I as body D σ H := fun D σ H h => by
  obtain ⟨F, B, env, xs, vs, Se, St, w, nx, p⟩ := h
  subst nx
  obtain ⟨rfl, rfl⟩ := w.tr
  rw [exS] at p
  refine ⟨F, B, env, [], [], Se, [], w.ws, rfl, ?_⟩
  have KNt : ∀ e, KN Z as D F B H σ [] [] (Se ++ []) e → KN (Z.as (wOnly X.K cv (tSui Z I as hd) Z.ws D)) as D F B H σ [] [] (Se ++ []) e := fun e k σ' H' F' Se' St' w' s' o' => k σ' H' F' Se' St' w'.ws' s' o'
  have KRt : ∀ t e, KR Z as D F B H σ [] [] (Se ++ []) t e → KR (Z.as (wOnly X.K cv (tSui Z I as hd) Z.ws D)) as D F B H σ [] [] (Se ++ []) t e := fun t e k v σ' H' F' Se' St' w' s' o' => k v σ' H' F' Se' St' w'.ws' s' o'
  cases hb : exB I body env with
  | stuck => rw [hb] at p; exact p
  | next e => rw [hb] at p; exact KNt e p
  | ret t e => rw [hb] at p; exact KRt t e p
  | exc x e =>
    rw [hb] at p
    dsimp only at p
    intro σ' cls d H' F' Se' hx' w' s' o'
    split at p
    case isFalse => exact p.elim
    rename_i ho
    have hcls : cls = Z.xc x.c := hx'.1
    refine ⟨xcB x.c k, by rw [hcls]; exact hk _ ho, fun hy a ha => ?_, fun hn => ?_⟩
    · rw [if_pos hy] at p
      have wz : Wd Z F' B H' σ' e [] [] Se' [] := w'.ws'
      have w2 : Wd (Z.sui I a cls d) F' B H' σ' e [] [] Se' [] := wz.xas (.inr hx) (.inl rfl)
      refine ⟨F', B, _, [], [], Se', [], w2, rfl, ?_⟩
      have sA : Step F H (Se ++ []) F' H' (Se' ++ []) := by simpa using s'
      have back : ∀ {σ3 : L2.St} {H3 : Hp} {F3 : Addr → Prop} {Se3 St3 : List Addr} {e2 : Env} {us : List T} {zs : List V}, Wd (Z.sui I a cls d) F3 B H3 σ3 e2 us zs Se3 St3 → xfree e2 = true → T.hasXL us = false → Wd Z F3 B H3 σ3 e2 us zs Se3 St3 := fun w4 h1 h2 =>
        Wd.xas (Z := Z.sui I a cls d) (r := Z.xr) (m := Z.xm) (W := Z.ws) w4 (.inl h1) (.inl h2)
      cases hh : exB I hd e with
      | stuck => rw [hh] at p; exact p.elim
      | exc _ _ => rw [hh] at p; exact p.elim
      | next e2 =>
        rw [hh] at p
        dsimp only at p
        split at p
        case isFalse => exact p.elim
        rename_i hf
        have p : KN Z as D F B H σ [] [] (Se ++ []) e2 := p
        intro σ3 H3 F3 Se3 St3 w4 s4 o4
        exact p _ H3 F3 Se3 St3 (back w4 hf rfl) (sA.trans s4) (o'.trans o4)
      | ret t e2 =>
        rw [hh] at p
        dsimp only at p
        split at p
        case isFalse => exact p.elim
        rename_i hf
        simp only [Bool.and_eq_true, Bool.not_eq_true'] at hf
        have p : KR Z as D F B H σ [] [] (Se ++ []) t e2 := p
        intro v σ3 H3 F3 Se3 St3 w4 s4 o4
        exact p v _ H3 F3 Se3 St3 (back w4 hf.1 (by show (T.hasX t || false) = false; rw [hf.2.1]; rfl)) (sA.trans s4) (o'.trans o4)
    · rw [if_neg (by rw [hn]; decide)] at p
      have p : KX Z as F B H σ (Se ++ []) x e := p
      exact p σ' cls d H' F' Se' hx' w'.ws' s' o'
end
end VI

namespace VI
open PySem L2
/-! the statements' syntax -/
def noComp : Expr → Bool | .ListComp .. => false | .SetComp .. => false | .DictComp .. => false | _ => true
/-- x = v: how the store is done -/
def swOk (sc : Scope) (x : Str) (px : Pos) (v : Expr) : Bool := match v with
  | .ListComp _ _ scope lpos => (sc.names.lookup x == some .cell) || (sc.names.lookup x == some .local && (px.line == lpos.line && !(scope.names.any fun (n, k) => n == x && (k == .local || k == .cell))))
  | .SetComp .. => false | .DictComp .. => false | _ => true
def noTup : Expr → Bool | .Tuple .. => false | .ListComp .. => false | .SetComp .. => false | .DictComp .. => false | _ => true
mutual
def ckS (nm : Tb) (N : List Str) (sc : Scope) : IS → Stmt → Bool
  | .setv i e, .Assign [.Name x px] v _ => N[i]? == some x && (locB true sc x && (swOk sc x px v && ckE nm N sc e v))
  | .setf i e, .Assign [.Name x px] v _ => N[i]? == some x && (locB true sc x && (swOk sc x px v && ckE nm N sc e v))
  | .seti i k e, .Assign [.Subscript (.Name x _) kx _] v _ => noSlice kx && (ckN N sc i x && (ckE nm N sc k kx && ckE nm N sc e v))
  | .expr e, .Expr v _ => noComp v && ckE nm N sc e v
  | .mut m i xs, .Expr (.Call (.Attribute (.Name x _) m' ap) es [] cp) _ => m == m' && (mutNames.contains m && (ckN N sc i x && (ap.endLine == cp.line && (decide (es.length < 20) && ckL nm N sc xs es))))
  | .ite c a b, .If t x y _ => !(isIte c) && (ckE nm N sc c t && (ckB nm N sc a x && ckB nm N sc b y))
  | .forr tg it body, .For t i x [] _ => (!nm.hot && ckTg true N sc tg t) && (ckIT nm N sc it t i && ckB nm N sc body x)
  | .whil c body, .While t x [] _ => (!nm.hot && !(isIte c)) && (ckE nm N sc c t && ckB nm N sc body x)
  | .ret e, .Return (some v) _ => ckE nm N sc e v
  | .retN, .Return none _ => true
  | .setp i ps k e, .Assign [.Subscript o kx _] v _ => noSlice kx && (ckPl nm N sc i ps.reverse o && (ckE nm N sc k kx && ckE nm N sc e v))
  | .seta i ps c k e, .Assign [.Attribute o f _] v _ => (nm.fl c)[k]? == some f && (ckPl nm N sc i ps.reverse o && (noComp v && ckE nm N sc e v))
  | .mutp m i ps xs, .Expr (.Call (.Attribute o m' ap) es [] cp) _ => m == m' && (mutNames.contains m && (ckPl nm N sc i ps.reverse o && (noCallA o && (ap.endLine == cp.line && (decide (es.length < 20) && ckL nm N sc xs es)))))
  | .unp tg e, .Assign [.Tuple ts tk tp] v _ => (!nm.hot && ckTg true N sc tg (.Tuple ts tk tp)) && (noTup v && ckE nm N sc e v)
  | .pass, .Pass _ => true
  | .bad, _ => true
  | .rais c true xs, .Raise (some (.Call (.Name x _) (e :: es) [] _)) none _ => (!nm.hot && nm.xn c == some (x, true)) && ((gl sc x && !(x == ("__debug__" : Str))) && ckL nm N sc xs (e :: es))
  | .rais c false (.cons (.str s) .nil), .Raise (some (.Call (.Name x _) [.Constant (.str r) _ _] [] _)) none _ => (!nm.hot && nm.xn c == some (x, false)) && ((gl sc x && !(x == ("__debug__" : Str))) && s == r)
  | .tryx b k (some i) hd, .Try body [.ExceptHandler (some (.Name x _)) (some n) (h0 :: hs) _] [] [] _ =>
    (!nm.hot && nm.xk k == some x) && ((gl sc x && !(x == ("__debug__" : Str))) && ((N[i]? == some n && sc.names.lookup n == some .local) && (ckB nm N sc b body && ckB (nmH nm) N sc hd (h0 :: hs))))
  | .tryx b k none hd, .Try body [.ExceptHandler (some (.Name x _)) none (h0 :: hs) _] [] [] _ =>
    (!nm.hot && nm.xk k == some x) && ((gl sc x && !(x == ("__debug__" : Str))) && (ckB nm N sc b body && ckB (nmH nm) N sc hd (h0 :: hs)))
  | _, _ => false
def ckB (nm : Tb) (N : List Str) (sc : Scope) : IB → List Stmt → Bool
  | .nil, [] => true
  | .cons s r, x :: xs => ckS nm N sc s x && ckB nm N sc r xs
  | _, _ => false
end
mutual
/-- the slots that a block stores to -/
def asgS : IS → List Nat
  | .setv i _ => [i] | .setf i _ => [i]
  | .seti _ _ _ => [] | .expr _ => [] | .mut _ _ _ => []
  | .ite _ a b => asgB a ++ asgB b
  | .forr tg _ b => tg ++ asgB b
  | .whil _ b => asgB b
  | .ret _ => [] | .retN => []
  | .setp _ _ _ _ => [] | .seta _ _ _ _ _ => [] | .mutp _ _ _ _ => []
  | .unp tg _ => tg | .pass => [] | .bad => []
  | .rais _ _ _ => []
  | .tryx b _ none hd => asgB b ++ asgB hd
  | .tryx b _ (some i) hd => i :: (asgB b ++ asgB hd)
def asgB : IB → List Nat
  | .nil => [] | .cons s r => asgS s ++ asgB r
end
structure XOkS (X : Cx) (Z : Wo) (I : CI) (nm : Tb) (N : List Str) (sc : Scope) : Prop where
  ok : XOk X Z I nm N sc
  fn : ∀ x, X.fn x = true
  kd : X.env.scope.kind = .function
  po : nm.hot = false → PassesOwn (model X.prog X.w) X.A X.env X.xe
  stk : X.stack = X.env :: X.outer
  frm : X.env.frame = some X.env.locals
/-- the context of a try's body -/
theorem XOkS.tr {X : Cx} {Z : Wo} {I : CI} {nm : Tb} {N : List Str} {sc : Scope} (S : XOkS X Z I nm N sc) {W : WX} {pn : List (Addr × Obj)} {xe : Value → Shared → Prop} (tk : Takes (X.tr pn xe) W) (po : PassesOwn (model X.prog X.w) X.A X.env xe) (hot : nm.hot = false) : XOkS (X.tr pn xe) (Z.as W) I nm N sc where
  ok := {
    calm := S.ok.calm
    hN := S.ok.hN
    nd := S.ok.nd
    hsc := S.ok.hsc
    hK := S.ok.hK
    blt := S.ok.blt
    hu := S.ok.hu
    gls := S.ok.gls
    fns := fun f x h => (S.ok.fns f x h).ws
    hfl := S.ok.hfl
    fld := S.ok.fld
    few := S.ok.few
    mts := fun c f m h => let ⟨a, b, fa, c, d⟩ := S.ok.mts c f m h; ⟨a, b, fa, c, d.ws⟩
    cns := fun c x f h => let ⟨a, fa, b, d⟩ := S.ok.cns c x f h; ⟨a, fa, b, d.ws⟩
    tk := tk
    hxf := S.ok.hxf
    xnr := S.ok.xnr
    xns := fun c x kp h => S.ok.xns c x kp h
    xks := S.ok.xks
    xcs := S.ok.xcs
    sui := fun h => by rw [hot] at h; cases h }
  fn := S.fn
  kd := S.kd
  po := fun _ => po
  stk := S.stk
  frm := S.frm
/-- the context of an except suite -/
theorem XOkS.suite {X : Cx} {Z : Wo} {I : CI} {nm : Tb} {N : List Str} {sc : Scope} (S : XOkS X Z I nm N sc) {a : Addr} {oe : Obj} {cls : Value} {d : Option Addr} {pn : List (Addr × Obj)} (hz : Zc cls d oe) (hf : ∃ vs, oe.data = .fields vs) : XOkS (X.suite a ((a, oe) :: pn)) (Z.sui I a cls d) I (nmH nm) N sc where
  ok := {
    calm := fun h => by cases h
    hN := S.ok.hN
    nd := S.ok.nd
    hsc := S.ok.hsc
    hK := S.ok.hK
    blt := S.ok.blt
    hu := S.ok.hu
    gls := S.ok.gls
    fns := fun f x h => by cases h
    hfl := S.ok.hfl
    fld := S.ok.fld
    few := S.ok.few
    mts := fun c f m h => by cases h
    cns := fun c x f h => by cases h
    tk := takesF
    hxf := S.ok.hxf
    xnr := fun h => by cases h
    xns := fun c x kp h => by cases h
    xks := S.ok.xks
    xcs := S.ok.xcs
    sui := fun _ => ⟨X, a, oe, cls, d, pn, rfl, hz, hf, fun H b c vs h => h⟩ }
  fn := S.fn
  kd := S.kd
  po := fun h => by cases h
  stk := S.stk
  frm := S.frm
section
variable {Z : Wo} {I : CI} {nm : Tb} {N : List Str} {as : List Nat} {X : Cx} {sc : Scope}
theorem sw_plain {v : Expr} {tgt : Option Expr} {l : Nat} {env : PySem.Env} (h : noComp v = true) : swapsWith v tgt l env = pure false := by
  cases v <;> first | rfl | cases h
theorem sw_cell {elt : Expr} {gs : List Comprehension} {scope : Scope} {pos py : Pos} {y : Str} {l : Nat} {env : PySem.Env} (hy : env.scope.names.lookup y = some .cell) : swapsWith (.ListComp elt gs scope pos) (some (.Name y py)) l env = pure false := by
  have ky : env.kindOf y = some .cell := hy
  unfold swapsWith
  simp only [ky]
  show (pure (_ && decide (some NameKind.cell == some NameKind.local) && _ && _) : Sem Bool) = _
  simp
theorem _root_.L2.PS.or {e : Stmt} {t t' : TS} (h : PS X e t) (h' : PS X e t') : PS X e (fun D σ H => t D σ H ∨ t' D σ H) := ⟨fun pins s σ H D I q => q.elim (h.run pins s σ H D I) (h'.run pins s σ H D I)⟩
theorem compx_imp {tg : List Nat} {it : IT} {c : IO} {elt : IE} : ∀ σ H Q, tT Z I (.comp tg it c elt) σ H Q →
    tLc (tIx Z I it) (tgR Z tg) (tC Z.nox I c) (tT Z.nox I elt) tg σ H Q ∨ tLockE (tLc (tIx Z I it) (tgR Z tg) (tC Z.nox I c) (tT Z.nox I elt) tg) σ H Q := fun σ H Q h => by
  cases it with
  | keys i ps => exact compk_imp σ H Q h
  | enuK i ps => exact compe_imp σ H Q h
  | _ => exact .inl (comp_ok σ H Q h)
theorem forx_imp {tg : List Nat} {it : IT} {body : IB} (htg : ∀ i ∈ tg, i ∈ as) : ∀ D σ H, tS Z I as (.forr tg it body) D σ H →
    tFor (tIx Z I it) (tgR Z tg) (tB Z I as body) D σ H ∨ tLock (tFor (tIx Z I it) (tgR Z tg) (tB Z I as body)) D σ H := fun D σ H h => by
  cases it with
  | keys i ps => exact fork_imp htg D σ H h
  | enuK i ps => exact fore_imp htg D σ H h
  | _ => exact .inl (for_imp htg D σ H h)
/-- name = value -/
theorem set_ok (S : XOkS X Z I nm N sc) {i : Nat} {x : Str} {px pos : Pos} {v : Expr} {e : IE} (h1 : N[i]? = some x) (h2 : locB true sc x = true) (h3 : swOk sc x px v = true) (h4 : ckE nm N sc e v = true) : PS X (.Assign [.Name x px] v pos) (tAsg (tT Z I e) (gName i)) := by
  have hN : X.N.Nodup := by rw [S.ok.hN]; exact S.ok.nd
  have hi : X.N[i]? = some x := by rw [S.ok.hN]; exact h1
  obtain ⟨hl, hf⟩ := loc_of S.ok (fun _ => S.fn) h2
  have plain : swapsWith v (some (.Name x px)) pos.line X.env = pure false → PS X (.Assign [.Name x px] v pos) (tAsg (tT Z I e) (gName i)) := fun hs => ps_set hN hi hl (sE e X sc v S.ok h4).pe hs (.inl (S.fn x))
  cases v with
  | ListComp elt gens scope lpos =>
    have h3 : ((sc.names.lookup x == some .cell) || (sc.names.lookup x == some .local && (px.line == lpos.line && !(scope.names.any fun (n, k) => n == x && (k == .local || k == .cell))))) = true := h3
    rw [Bool.or_eq_true] at h3
    rcases h3 with h3 | h3
    · exact plain (sw_cell (by rw [S.ok.hsc]; exact beq_iff_eq.mp h3))
    · obtain ⟨a1, a2, a3⟩ := and3 h3
      have hloc : X.env.scope.names.lookup x = some .local := by rw [S.ok.hsc]; exact beq_iff_eq.mp a1
      have hsw : swapsWith (.ListComp elt gens scope lpos) (some (.Name x px)) pos.line X.env = pure true := sw_true S.kd hloc a2 (not_b a3)
      unfold ckE at h4; split at h4 <;> first | (cases h4; done) | skip
      all_goals (rename_i heq; cases heq)
      obtain ⟨h5, h6, h7⟩ := and3 h4
      rw [Bool.and_eq_true] at h5
      obtain ⟨h0, h5⟩ := h5
      have hot := not_b h0
      obtain ⟨h8, h9, h10⟩ := and3 h7
      rw [Bool.and_eq_true] at h10
      rename_i _ tg it c elt' _ _ _
      have ps := ps_setLc (spos := pos) (wi := tIx Z I it) (g := tgR Z tg) (tt := tC Z.nox I c) (te := tT Z.nox I elt') (S.ok.calm hot) hN hi hloc hsw (sIT it X sc _ _ S.ok h9).1 (by rw [S.ok.hN, S.ok.hsc]; exact blkOk_by h5)
        (fun s H C cl fp => pg_of (S.ok.blk hot s H _ C cl fp) hot (fun z => by cases z) h8) (fun s H C cl fp => sC c _ _ _ (S.ok.blk hot s H _ C cl fp) h10.1) (fun s H C cl fp => (sE elt' _ _ _ (S.ok.blk hot s H _ C cl fp) h10.2).pe) ((sIT it X sc _ _ S.ok h9).2 X.env)
      rw [tgNames_map (of_decide_eq_true h6)] at ps
      exact (ps.or (ps_lock ps)).imp fun D σ H q => compx_imp σ H _ q
  | SetComp => cases h3
  | DictComp => cases h3
  | _ => exact plain (sw_plain rfl)
mutual
theorem sS : ∀ (st : IS) {Z : Wo} {X : Cx} {nm : Tb} (x : Stmt), XOkS X Z I nm N sc → (∀ i ∈ asgS st, i ∈ as) → ckS nm N sc st x = true → PS X x (tS Z I as st) := fun st {Z X nm} x S ha h => by
  cases st with
  | setv i e =>
    unfold ckS at h; split at h <;> first | (cases h; done) | skip
    all_goals (rename_i heq; cases heq)
    obtain ⟨h1, h2, h3⟩ := and3 h
    rw [Bool.and_eq_true] at h3
    exact (set_ok S (beq_iff_eq.mp h1) h2 h3.1 h3.2).imp (setv_imp (ha i (by simp [asgS])))
  | setf i e =>
    unfold ckS at h; split at h <;> first | (cases h; done) | skip
    all_goals (rename_i heq; cases heq)
    obtain ⟨h1, h2, h3⟩ := and3 h
    rw [Bool.and_eq_true] at h3
    exact (set_ok S (beq_iff_eq.mp h1) h2 h3.1 h3.2).imp (setf_imp (ha i (by simp [asgS])))
  | seti i k e =>
    unfold ckS at h; split at h <;> first | (cases h; done) | skip
    all_goals (rename_i heq; cases heq)
    obtain ⟨h1, h2, h3⟩ := and3 h
    rw [Bool.and_eq_true] at h3
    rename_i _ _ kx _ v _
    have s1 := sE k X sc kx S.ok h3.1
    have s2 := sE e X sc v S.ok h3.2
    refine (ps_asg s2.pe (pg_sub (var_ok S.ok h2) s1.pe set_list (by intro _; cases kx <;> first | rfl | cases h1)) ?_ ?_ ?_).imp seti_imp
    · cases v <;> rfl
    · rfl
    · rfl
  | expr e =>
    unfold ckS at h; split at h <;> first | (cases h; done) | skip
    all_goals (rename_i heq; cases heq)
    rw [Bool.and_eq_true] at h
    exact (ps_expr (sE e X sc _ S.ok h.2).pe (sw_plain h.1)).imp expr_imp
  | «mut» m i xs =>
    unfold ckS at h; split at h <;> first | (cases h; done) | skip
    all_goals (rename_i heq; cases heq)
    obtain ⟨h1, h2, h3⟩ := and3 h
    obtain ⟨h4, h5, h6⟩ := and3 h3
    rw [Bool.and_eq_true] at h6
    obtain rfl := beq_iff_eq.mp h1
    obtain ⟨f1, f2⟩ := mut_facts h2
    rename_i y _ _ ap es cp _
    obtain ⟨a1, _, a3⟩ := sL xs X sc es S.ok h6.2
    cases es with
    | nil =>
      cases xs with
      | cons _ _ => cases h6.2
      | nil => exact (ps_expr (pe_bm0 PySem.F.plainAttrs_list f1 f2 (anyMt X _) (var_ok S.ok h4) (by rfl) h5) (by rfl)).imp (mut0_imp S.ok.hK)
    | cons e es =>
      exact (ps_expr (pe_bm PySem.F.plainAttrs_list f1 f2 (anyMt X _) (var_ok S.ok h4) a1 (by rfl) (fewL a3 (of_decide_eq_true h6.1)) h5 (a3 e List.mem_cons_self X.env es) (starL (fun e' h' => a3 e' (List.mem_cons_of_mem _ h')) X.env _)) (by rfl)).imp (mut_imp S.ok.hK)
  | ite c a b =>
    unfold ckS at h; split at h <;> first | (cases h; done) | skip
    all_goals (rename_i heq; cases heq)
    obtain ⟨h1, h2, h3⟩ := and3 h
    rw [Bool.and_eq_true] at h3
    exact (ps_if ((sE c X sc _ S.ok h2).pt (not_b h1)) (sB a _ S (fun i z => ha i (by simp [asgS, z])) h3.1) (sB b _ S (fun i z => ha i (by simp [asgS, z])) h3.2)).imp iteS_imp
  | forr tg it body =>
    unfold ckS at h; split at h <;> first | (cases h; done) | skip
    all_goals (rename_i heq; cases heq)
    obtain ⟨h1, h2, h3⟩ := and3 h
    rw [Bool.and_eq_true] at h1
    obtain ⟨h0, h1⟩ := h1
    have hot := not_b h0
    rename_i t0 i0 x0 pos0
    have ps := ps_for (X := X) (pos := pos0) (S.po hot) (S.ok.calm hot) (sIT it X sc _ _ S.ok h2).1 (pg_of S.ok hot (fun _ => S.fn) h1) (sB body _ S (fun i z => ha i (by simp [asgS, z])) h3) ((sIT it X sc _ _ S.ok h2).2 X.env)
    exact (ps.or (ps_lock ps)).imp (forx_imp fun i z => ha i (by simp [asgS, z]))
  | whil c body =>
    unfold ckS at h; split at h <;> first | (cases h; done) | skip
    all_goals (rename_i heq; cases heq)
    obtain ⟨h1, h2, h3⟩ := and3 h
    rw [Bool.and_eq_true] at h1
    obtain ⟨h0, h1⟩ := h1
    have hot := not_b h0
    exact (ps_while (S.po hot) ((sE c X sc _ S.ok h2).pt (not_b h1)) (sB body _ S (fun i z => ha i (by simp [asgS, z])) h3)).imp while_imp
  | ret e =>
    unfold ckS at h; split at h <;> first | (cases h; done) | skip
    all_goals (rename_i heq; cases heq)
    exact (ps_ret (sE e X sc _ S.ok h).pe).imp ret_imp
  | retN =>
    unfold ckS at h; split at h <;> first | (cases h; done) | skip
    all_goals (rename_i heq; cases heq)
    exact ps_retN.imp retN_imp
  | setp i ps k e =>
    unfold ckS at h; split at h <;> first | (cases h; done) | skip
    all_goals (rename_i heq; cases heq)
    obtain ⟨h1, h2, h3⟩ := and3 h
    rw [Bool.and_eq_true] at h3
    rename_i o kx _ v _
    have s1 := sE k X sc kx S.ok h3.1
    have s2 := sE e X sc v S.ok h3.2
    have pl := pl_ok S.ok i ps.reverse o h2
    rw [List.reverse_reverse] at pl
    refine (ps_asg s2.pe (pg_sub pl s1.pe (anySet X) (by intro _; cases kx <;> first | rfl | cases h1)) ?_ ?_ ?_).imp (setp_imp (by have := S.ok.hu; omega))
    · cases v <;> rfl
    · rfl
    · rfl
  | seta i ps c k e =>
    unfold ckS at h; split at h <;> first | (cases h; done) | skip
    all_goals (rename_i heq; cases heq)
    obtain ⟨h1, h2, h3⟩ := and3 h
    rw [Bool.and_eq_true] at h3
    have s2 := sE e X sc _ S.ok h3.2
    have pl := pl_ok S.ok i ps.reverse _ h2
    rw [List.reverse_reverse] at pl
    have hf := beq_iff_eq.mp h1
    obtain ⟨k1, k2⟩ := S.ok.fld _ _ _ hf
    obtain ⟨w1, w2⟩ := S.ok.few c
    exact (ps_fld pl s2.pe (sw_plain h3.1)).imp (seta_imp (by rw [S.ok.hfl]; exact hf) (by rw [S.ok.hfl]; exact w2) (by rw [S.ok.hfl]; exact w1) k1 k2)
  | mutp m i ps xs =>
    unfold ckS at h; split at h <;> first | (cases h; done) | skip
    all_goals (rename_i heq; cases heq)
    obtain ⟨h1, h2, h3⟩ := and3 h
    obtain ⟨h4, h5, h6⟩ := and3 h3
    obtain ⟨h7, h8, h9⟩ := and3 h6
    obtain rfl := beq_iff_eq.mp h1
    obtain ⟨f1, f2⟩ := mut_facts h2
    rename_i o _ ap es cp _
    have pl := pl_ok S.ok i ps.reverse _ h4
    rw [List.reverse_reverse] at pl
    obtain ⟨a1, _, a3⟩ := sL xs X sc es S.ok h9
    cases es with
    | nil =>
      cases xs with
      | cons _ _ => cases h9
      | nil => exact (ps_expr (pe_bm0 PySem.F.plainAttrs_list f1 f2 (anyMt X _) pl (noCallA_b h5 _ _ _) h7) (by rfl)).imp mutp0_imp
    | cons e es =>
      exact (ps_expr (pe_bm PySem.F.plainAttrs_list f1 f2 (anyMt X _) pl a1 (noCallA_b h5 _ _ _) (fewL a3 (of_decide_eq_true h8)) h7 (a3 e List.mem_cons_self X.env es) (starL (fun e' h' => a3 e' (List.mem_cons_of_mem _ h')) X.env _)) (by rfl)).imp mutp_imp
  | unp tg e =>
    unfold ckS at h; split at h <;> first | (cases h; done) | skip
    all_goals (rename_i heq; cases heq)
    obtain ⟨h1, h2, h3⟩ := and3 h
    rw [Bool.and_eq_true] at h1
    obtain ⟨h0, h1⟩ := h1
    have hot := not_b h0
    rename_i ts tk tp v ppos
    refine (ps_asg (sE e X sc v S.ok h3).pe (pg_of S.ok hot (fun _ => S.fn) h1) ?_ ?_ ?_).imp (unp_imp fun i z => ha i (by simpa [asgS] using z))
    · cases v <;> first | rfl | cases h2
    · cases v <;> first | rfl | cases h2
    · rfl
  | pass =>
    unfold ckS at h; split at h <;> first | (cases h; done) | skip
    all_goals (rename_i heq; cases heq)
    exact ps_pass.imp pass_imp
  | rais c kp xs =>
    unfold ckS at h; split at h <;> first | (cases h; done) | skip
    all_goals (rename_i heq; cases heq)
    · rename_i xs0 x np e es cp rp
      obtain ⟨h1, h2, h3⟩ := and3 h
      rw [Bool.and_eq_true] at h1 h2
      have hot := not_b h1.1
      obtain ⟨C, hC, mg, _, f⟩ := S.ok.xns _ _ _ (beq_iff_eq.mp h1.2)
      rw [if_pos rfl] at f
      obtain ⟨T0, nd, few, na, fI, fd, ps, k, iC, tI, bd, room, hl, F⟩ := f
      obtain ⟨a1, _, a3⟩ := sL _ X sc (e :: es) S.ok h3
      exact (ps_raise (S.ok.calm hot) S.ok.tk (pmk_oex T0 iC tI F room bd .nil (passes_call takesF fun _ _ _ _ h => h) (gl_of S.ok h2.1) mg a1 (not_b h2.2) (a3 e List.mem_cons_self X.env es) (starL (fun e' h' => a3 e' (List.mem_cons_of_mem _ h')) X.env _))).imp (rais_imp S.ok.hxf hC T0 nd few na)
    · rename_i s0 x np r j p2 cp rp
      obtain ⟨h1, h2, h3⟩ := and3 h
      rw [Bool.and_eq_true] at h1 h2
      have hot := not_b h1.1
      obtain rfl := beq_iff_eq.mp h3
      obtain ⟨C, hC, mg, _, f⟩ := S.ok.xns _ _ _ (beq_iff_eq.mp h1.2)
      rw [if_neg (by decide)] at f
      obtain ⟨hf, kC, exC, tyC, B, newId, initId, bmB, FB, q⟩ := f
      exact (ps_raise (S.ok.calm hot) S.ok.tk (pmk_own FB q mg kC (raises_own exC tyC) (gl_of S.ok h2.1) (not_b h2.2))).imp (rais0_imp hC hf)
  | tryx b k i hd =>
    unfold ckS at h; split at h <;> first | (cases h; done) | skip
    all_goals (rename_i heq; cases heq)
    · rename_i i0 body x np n h0 hs hp tp
      obtain ⟨h1, h2, h3⟩ := and3 h
      rw [Bool.and_eq_true] at h1 h2
      obtain ⟨h4, h5, h6⟩ := and3 h3
      rw [Bool.and_eq_true] at h4
      have hot := not_b h1.1
      obtain ⟨v, cv, ⟨r1, r2, hm⟩, q⟩ := S.ok.xks k x (beq_iff_eq.mp h1.2)
      exact (ps_try_as (tb := fun W => tB (Z.as W) I as b) (ts := tSui Z I as hd) S.stk S.frm (by rw [S.ok.hN]; exact S.ok.nd) (by rw [S.ok.hN]; exact beq_iff_eq.mp h4.1) (by show X.env.scope.names.lookup n = _; rw [S.ok.hsc]; exact beq_iff_eq.mp h4.2) ⟨gl_of S.ok h2.1, not_b h2.2, hm⟩ S.ok.tk
        (fun W pn xe tk po => sB b body (S.tr tk po hot) (fun i z => ha i (by simp [asgS, z])) h5) (fun a oe cls d pn hz hf => sB hd (h0 :: hs) (S.suite hz hf) (fun i z => ha i (by simp [asgS, z])) h6)).imp
        (try_imp (ha i0 (by simp [asgS])) (S.ok.xnr hot) fun c hc => (q c hc).1)
    · rename_i body x np h0 hs hp tp
      obtain ⟨h1, h2, h3⟩ := and3 h
      rw [Bool.and_eq_true] at h1 h2 h3
      have hot := not_b h1.1
      obtain ⟨v, cv, ⟨r1, r2, hm⟩, q⟩ := S.ok.xks k x (beq_iff_eq.mp h1.2)
      exact (ps_try_only (tb := fun W => tB (Z.as W) I as b) (ts := tSui Z I as hd) S.stk S.frm ⟨gl_of S.ok h2.1, not_b h2.2, hm⟩ S.ok.tk
        (fun W pn xe tk po => sB b body (S.tr tk po hot) (fun i z => ha i (by simp [asgS, z])) h3.1) (fun a oe cls d pn hz hf => sB hd (h0 :: hs) (S.suite hz hf) (fun i z => ha i (by simp [asgS, z])) h3.2)).imp
        (try0_imp (S.ok.xnr hot) fun c hc => (q c hc).1)
  | bad =>
    refine ⟨fun pins s σ H D I q => ?_⟩
    obtain ⟨F, B, env, xs, vs, Se, St, w, nv, p⟩ := q
    rw [exS] at p
    exact p.elim
theorem sB : ∀ (b : IB) {Z : Wo} {X : Cx} {nm : Tb} (xs : List Stmt), XOkS X Z I nm N sc → (∀ i ∈ asgB b, i ∈ as) → ckB nm N sc b xs = true → PSs X xs (tB Z I as b) := fun b {Z X nm} xs S ha h => by
  cases b with
  | nil =>
    cases xs with
    | nil => exact pss_nil.imp nil_imp
    | cons _ _ => cases h
  | cons s r =>
    cases xs with
    | nil => cases h
    | cons x xs =>
      have h : (ckS nm N sc s x && ckB nm N sc r xs) = true := h
      rw [Bool.and_eq_true] at h
      exact (pss_cons (sS s x S (fun i z => ha i (by simp [asgB, z])) h.1) (sB r xs S (fun i z => ha i (by simp [asgB, z])) h.2)).imp cons_imp
end
end
end VI

namespace VI
open PySem L2
/-! defs and programs -/
structure FD where
  name : Str
  qual : Str
  /-- the class it stands in -/
  own : Option Nat
  ps : List Str
  N : List Str
  md : List Md
  body : IB
/-- a class: its name, its __init__, its fields -/
structure CD where
  name : Str
  init : Nat
  fl : List Str
/-- an exception's class: its name, its fields, whether it has its own __init__ -/
structure XD where
  name : Str
  fl : List Str
  kp : Bool
/-- a program: its defs, its constants, its classes, its exceptions, their base -/
structure Pg where
  fs : List FD
  gs : List (Str × T)
  cs : List CD
  xs : List XD := []
  xb : Option Str := none
def nmOf (PL : Pg) : Tb where
  fn := fun i => match PL.fs[i]? with | some d => if d.own = none then some d.name else none | none => none
  fl := fun c => match PL.cs[c]? with | some k => if k.fl.length ≤ 900 ∧ k.fl.Nodup then k.fl else [] | none => []
  mt := fun c f => match PL.fs[f]?, PL.cs[c]? with | some d, some k => if d.own = some c ∧ d.name ∉ k.fl then some d.name else none | _, _ => none
  cn := fun c => match PL.cs[c]? with | some k => (match PL.fs[k.init]? with | some d => if d.own = some c ∧ d.name = "__init__" then some (k.name, k.init) else none | none => none) | none => none
  xn := fun c => match PL.xs[c]? with | some d => some (d.name, d.kp) | none => none
  xk := fun k => match k with
    | .own c => (match PL.xs[c]? with | some d => some d.name | none => none)
    | .base => PL.xb
    | .val => if PL.xs.isEmpty then none else some "ValueError"
  hot := false
def xfOf (P : Pg) (c : Nat) : List Str := match P.xs[c]? with | some d => d.fl | none => []
def xoOf (P : Pg) (c : Nat) : Bool := decide (c < P.xs.length)
def mdOf (P : Pg) (f : Nat) : List Md := match P.fs[f]? with | some d => d.md | none => []
def iosOf : List Md → Env → Option (List T)
  | [], _ => some []
  | .io :: ms, some t :: e => if t.hasBrw then none else (iosOf ms e).map (t :: ·)
  | .io :: _, _ => none
  | _ :: ms, _ :: e => iosOf ms e
  | _ :: _, [] => none
noncomputable def runFn (I : CI) (d : FD) (ts : List T) : COut :=
  if ts.length = d.ps.length then
    match exB I d.body (ts.map some ++ List.replicate (d.N.length - ts.length) none) with
    | .ret t e => if t.vw || t.hasBrw then .stuck else match iosOf d.md e with | some ios => .ok t ios | none => .stuck
    | .next e => match iosOf d.md e with | some ios => .ok .non ios | none => .stuck
    | .exc x e => match iosOf d.md e with | some ios => .exc x ios | none => .stuck
    | .stuck => .stuck
  else .stuck
/-- the calls, n deep -/
noncomputable def Iof (P : Pg) : Nat → CI
  | 0 => ⟨mdOf P, fun _ _ => .stuck, fun x => P.gs.lookup x, xfOf P, xoOf P⟩
  | n + 1 => ⟨mdOf P, fun f ts => match P.fs[f]? with | some d => runFn (Iof P n) d ts | none => .stuck, fun x => P.gs.lookup x, xfOf P, xoOf P⟩
theorem Iof_gl (P : Pg) (n : Nat) : (Iof P n).gl = fun x => P.gs.lookup x := by cases n <;> rfl
theorem Iof_xf (P : Pg) (n : Nat) : (Iof P n).xf = xfOf P := by cases n <;> rfl
theorem Iof_xo (P : Pg) (n : Nat) : (Iof P n).xo = xoOf P := by cases n <;> rfl
theorem Iof_md (P : Pg) (n : Nat) : (Iof P n).md = mdOf P := by cases n <;> rfl
/-- places that a def changes are not stored to -/
def ioFix (d : FD) : Bool := go d.md 0
where go : List Md → Nat → Bool
  | [], _ => true
  | m :: ms, j => (m != .io || !(asgB d.body).contains j) && go ms (j + 1)
theorem ioFix_go {d : FD} : ∀ {ms : List Md} {j : Nat}, ioFix.go d ms j = true → ∀ i : Nat, ms[i]? = some Md.io → (j + i) ∉ asgB d.body := fun {ms} => by
  induction ms with
  | nil => intro j _ i h; simp at h
  | cons m ms ih =>
    intro j h i hi
    rw [ioFix.go, Bool.and_eq_true] at h
    cases i with
    | zero =>
      simp at hi; subst hi
      have := h.1
      simp at this
      simpa using this
    | succ i =>
      have := ih h.2 i (by simpa using hi)
      have e : j + 1 + i = j + (i + 1) := by omega
      rwa [e] at this
section
variable {Z : Wo} {G : Sh} {H : Hp}
theorem env_start : ∀ {ts : List T} {vs : List V} {S : List Addr} (k : Nat), RepL Z G H ts vs S → EnvRep Z G H (vs.map some ++ List.replicate k none) (ts.map some ++ List.replicate k none) S := fun {ts} => by
  induction ts with
  | nil =>
    intro vs S k r
    obtain ⟨rfl, rfl⟩ := r
    induction k with
    | zero => exact ⟨rfl, rfl⟩
    | succ k ih => exact ⟨none, List.replicate k none, rfl, by simpa using ih⟩
  | cons t ts ih =>
    intro vs S k r
    obtain ⟨v, vs', f1, f2, rfl, rfl, r1, r2⟩ := r
    exact ⟨some t, _, rfl, v, f1, f2, rfl, rfl, r1, ih k r2⟩
theorem ios_rep : ∀ (ms : List Md) (env : Env) (σ : L2.St) (vs : List V) (Se : List Addr) (ios : List T), EnvRep Z G H σ env Se → ms.length = vs.length → (∀ i : Nat, ms[i]? = some Md.io → σ[i]? = (vs[i]?).map some) → iosOf ms env = some ios →
    ∃ fps, RepL Z G H ios (ioV ms vs) fps ∧ (∀ a, cn a fps ≤ cn a Se) := fun ms => by
  induction ms with
  | nil =>
    intro env σ vs Se ios er hl hs h
    cases vs with
    | cons _ _ => cases hl
    | nil =>
      cases h
      exact ⟨[], ⟨rfl, rfl⟩, fun a => by simp⟩
  | cons m ms ih =>
    intro env σ vs Se ios er hl hs h
    cases vs with
    | nil => cases hl
    | cons v vs =>
      have hl' : ms.length = vs.length := by simpa using hl
      cases σ with
      | nil =>
        obtain ⟨rfl, rfl⟩ := er
        cases m <;> cases h
      | cons vo σ =>
        obtain ⟨to, env', rfl, er⟩ := er
        have hs' : ∀ i : Nat, ms[i]? = some Md.io → σ[i]? = (vs[i]?).map some := fun i hi => by simpa using hs (i + 1) (by simpa using hi)
        have rest : ∃ Sr, EnvRep Z G H σ env' Sr ∧ ∀ a, cn a Sr ≤ cn a Se := by
          cases to with
          | none => exact ⟨Se, er, fun a => Nat.le_refl _⟩
          | some t =>
            obtain ⟨_, f1, S', _, rfl, _, er⟩ := er
            exact ⟨S', er, fun a => by simp⟩
        obtain ⟨Sr, er', l⟩ := rest
        cases m with
        | bor =>
          obtain ⟨fps, r, l2⟩ := ih env' σ vs Sr ios er' hl' hs' h
          exact ⟨fps, r, fun a => Nat.le_trans (l2 a) (l a)⟩
        | frz =>
          obtain ⟨fps, r, l2⟩ := ih env' σ vs Sr ios er' hl' hs' h
          exact ⟨fps, r, fun a => Nat.le_trans (l2 a) (l a)⟩
        | io =>
          cases to with
          | none => cases h
          | some t =>
            rw [iosOf] at h
            split at h
            · cases h
            cases e : iosOf ms env' with
            | none => rw [e] at h; cases h
            | some ios' =>
              rw [e] at h; cases h
              obtain ⟨w, f1, S', rfl, rfl, rt, er⟩ := er
              have : some w = some v := by simpa using hs 0 rfl
              cases this
              obtain ⟨fps, r, l2⟩ := ih env' σ vs S' ios' er hl' hs' e
              exact ⟨f1 ++ fps, ⟨v, ioV ms vs, f1, fps, rfl, rfl, rt, r⟩, fun a => by have := l2 a; simp; omega⟩
end
/-- what a caller knows of a def -/
def FGood (P : Program) (w : World) (K : PySem.W.Frag) (mg : Str → Option Value) (base : Heap) (Z : Wo) (PL : Pg) (n g : Nat) (fa : Addr) : Prop :=
  ∃ (fd : FuncData) (ps : List Str), Binds K fd ps [] ∧ (mdOf PL g).length = ps.length ∧ FnOk P w K mg base (L2.CX P w) (2 * n + 2) fa fd ps (spOf Z (Iof PL n) g ps.length)
/-- what raise knows of an exception's class -/
def XGood (P : Program) (w : World) (K : PySem.W.Frag) (mg : Str → Option Value) (base : Heap) (Z : Wo) (c : Nat) (x : Str) (kp : Bool) : Prop := ∃ C, Z.xc c = .ref C ∧ mg x = some (.ref C) ∧
  if kp then OexC K C ∧ (Z.xf c).Nodup ∧ (Z.xf c).length ≤ 900 ∧ (∀ f ∈ Z.xf c, PySem.W.findIn K (.ref C) f = some none) ∧ ∃ fI fd ps, PySem.W.findIn K (.ref C) "__init__" = some (some (.ref fI)) ∧ PySem.W.typeIn K (.ref fI) = some (.type "function") ∧
    Binds K fd ps [] ∧ ps.length = (Z.xf c).length + 1 ∧ ∀ k, FnOk P w K mg base (L2.CX P w) (k + 1) fI fd ps (spX K (Z.xf c))
  else Z.xf c = [] ∧ PySem.W.keepIn K (.ref C) = true ∧ PySem.W.subIn K (.ref C) (.type "BaseException") = some true ∧ PySem.W.typeIn K (.ref C) = some (.type "type") ∧
    ∃ B newId initId bmB, ExcBaseFacts B newId initId bmB ∧ PySem.W.excIn K C bmB newId = true
structure Good (P : Program) (w : World) (K : PySem.W.Frag) (mg : Str → Option Value) (base : Heap) (Z : Wo) (PL : Pg) (n : Nat) : Prop where
  fn : ∀ g y, (nmOf PL).fn g = some y → ∃ fa : Addr, mg y = some (.ref fa) ∧ PySem.W.keepIn K (.ref fa) = true ∧ FGood P w K mg base Z PL n g fa
  mt : ∀ c g m, (nmOf PL).mt c g = some m → m ∉ (nmOf PL).fl c ∧ Cls K (Z.cls c) ∧ ∃ fa, Meth K (Z.cls c) m fa ∧ FGood P w K mg base Z PL n g fa
  cn : ∀ c x g, (nmOf PL).cn c = some (x, g) → mg x = some (.ref (Z.cls c)) ∧ ∃ fa, Mk K (Z.cls c) fa ∧ FGood P w K mg base Z PL n g fa
/-- the classes as they stand -/
structure CGood (K : PySem.W.Frag) (Z : Wo) (PL : Pg) : Prop where
  hfl : Z.fl = (nmOf PL).fl
  fld : ∀ (c k : Nat) (x : Str), ((nmOf PL).fl c)[k]? = some x → Cls K (Z.cls c) ∧ NoAttr K (Z.cls c) x
  hxf : Z.xf = xfOf PL
  hxr : ∀ H a c vs, ¬ Z.xr H a c vs
  xcs : ∀ c, xoOf PL c = true → ∃ C, Z.xc c = .ref C ∧ ExcC K C ∧ XfC K C ∧ ∀ f ∈ Z.xf c, PySem.W.findIn K (.ref C) f = some none
/-- .. and their names -/
def KGood (K : PySem.W.Frag) (mg : Str → Option Value) (Z : Wo) (PL : Pg) : Prop := ∀ k x, (nmOf PL).xk k = some x → ∃ v cv, (RelV v cv ∧ (∀ u, RelV v u → u = cv) ∧ (mg x = some cv ∨ (mg x = none ∧ bootBuiltins x = some cv ∧ x ≠ "__name__"))) ∧
  ∀ c, xoOf PL c = true → PySem.W.exmOne K (Z.xc c) cv = some (xcB c k) ∧ PySem.W.kitOne K (Z.xc c) cv = some (xcB c k)
theorem few_of (PL : Pg) (c : Nat) : ((nmOf PL).fl c).length ≤ 900 ∧ ((nmOf PL).fl c).Nodup := by
  show (match PL.cs[c]? with | some k => if k.fl.length ≤ 900 ∧ k.fl.Nodup then k.fl else [] | none => []).length ≤ 900 ∧ _
  unfold nmOf
  dsimp only
  split
  · split
    · assumption
    · exact ⟨by simp, List.nodup_nil⟩
  · exact ⟨by simp, List.nodup_nil⟩
theorem fn_sound {P : Program} {w : World} {K : PySem.W.Frag} {mg : Str → Option Value} {base : Heap} {Z : Wo} {PL : Pg} {n fid : Nat} {d : FD} {x qual : Str} {st : Stmt} {f : Addr} {fd : FuncData}
    (hZ : K = Z.K) (hd : PL.fs[fid]? = some d) (Fu : Fun K x qual st f fd) (S : FnScope d.N d.ps (defScope st)) (hck : ckB (nmOf PL) d.N (defScope st) d.body (defBody st) = true) (hio : ioFix d = true) (hl : d.md.length = d.ps.length)
    (ih : Good P w K mg base Z PL n) (cg : CGood K Z PL) (kg : KGood K mg Z PL) (xg : ∀ c x kp, (nmOf PL).xn c = some (x, kp) → XGood P w K mg base Z c x kp) (blt : ∀ x ∈ bNames, mg x = none) (gls : ∀ x t, PL.gs.lookup x = some t → ∃ (u : Value) (v : V), mg x = some u ∧ RelV v u ∧ ImmIs t v) : FnOk P w K mg base (L2.CX P w) (2 * (n + 1) + 2) f fd d.ps (spOf Z (Iof PL (n + 1)) fid d.ps.length) := by
  show FnOk P w K mg base (L2.CX P w) (2 * n + 3 + 1) f fd d.ps _
  refine Fu.okX S (fun vs H Q E h => h.1) fun cdv A outer s H vs Q E hr hsp => ?_
  obtain ⟨hlen, F0, B0, ts, S0, reps, nd, dj, al, hrun⟩ := hsp
  have hr0 : Room (2 * n + 2) _ := hr.mono (Nat.le_succ _)
  let Z' := Z.as fun cls d _ H => E cls d H
  have fat : ∀ g fa, FGood P w K mg base Z PL n g fa → FAt (cxOf (L2.CX P w) P w K mg base d.N qual (defScope st) f cdv A outer s H E) Z' (Iof PL n) g fa := fun g fa ⟨fd', ps, a1, a2, a3⟩ => FAt.ws (Z := Z) ⟨fd', ps, 2 * n + 2, a1, hr, by rw [Iof_md]; exact a2, a3⟩
  have XS : XOkS (cxOf (L2.CX P w) P w K mg base d.N qual (defScope st) f cdv A outer s H E) Z' (Iof PL n) (nmOf PL) d.N (defScope st) := by
    refine ⟨⟨fun _ => rfl, rfl, S.nd, rfl, hZ, blt, hr.units, fun x t h => gls x t (by rw [Iof_gl] at h; exact h), fun g y hg => ?_, cg.hfl, cg.fld, few_of PL, fun c g m hg => ?_, takes_of rfl rfl rfl (E := E) rfl, by rw [Iof_xf]; exact cg.hxf.symm, fun _ => cg.hxr,
      fun c x kp h => ?_, fun k x h => ?_, fun c h => cg.xcs c (by rw [Iof_xo] at h; exact h), (fun h => by cases h), fun c x g hg => ?_⟩, fun _ => rfl, S.kind, fun _ => passes_of rfl, rfl, rfl⟩
    · obtain ⟨fa, a1, a2, fd', ps, a3, a4, a5⟩ := ih.fn g y hg
      exact FOk.ws (Z := Z) ⟨fa, fd', ps, 2 * n + 2, a1, a2, a3, hr0, by rw [Iof_md]; exact a4, a5⟩
    · obtain ⟨a1, a2, fa, a3, a4⟩ := ih.mt c g m hg
      exact ⟨a1, a2, fa, a3, fat g fa a4⟩
    · have ho : (Iof PL n).xo c = true := by
        rw [Iof_xo]
        unfold xoOf
        cases e : PL.xs[c]? with
        | none =>
          have h : (match PL.xs[c]? with | some d => some (d.name, d.kp) | none => none) = some (x, kp) := h
          rw [e] at h; cases h
        | some dd => exact decide_eq_true (List.getElem?_eq_some_iff.mp e).1
      obtain ⟨C, hC, mx, f⟩ := xg c x kp h
      refine ⟨C, hC, mx, ho, ?_⟩
      cases kp with
      | true =>
        rw [if_pos rfl] at f ⊢
        obtain ⟨b1, b2, b3, b4, fI, fd', ps, b5, b6, b7, b8, b9⟩ := f
        exact ⟨b1, b2, b3, b4, fI, fd', ps, 2 * n + 2, b5, b6, b7, hr, b8, b9 (2 * n + 1)⟩
      | false =>
        rw [if_neg (by decide)] at f ⊢
        exact f
    · obtain ⟨v, cv, b1, b2⟩ := kg k x h
      exact ⟨v, cv, b1, fun c hc => b2 c (by rw [Iof_xo] at hc; exact hc)⟩
    · obtain ⟨a1, fa, a2, a3⟩ := ih.cn c x g hg
      exact ⟨a1, fa, a2, fat g fa a3⟩
  refine ⟨_, sB (as := asgB d.body) d.body (defBody st) XS (fun _ h => h) hck, F0, B0, ts.map some ++ List.replicate (d.N.length - ts.length) none, [], [], S0, [], ⟨?_, ⟨rfl, rfl⟩, fun a => by have := nd a; simpa using this, fun a h => by have := dj a h; simpa using this, al⟩, rfl, ?_⟩
  · have e := reps.length
    show EnvRep Z' _ H (L2.start d.N vs) _ S0
    unfold L2.start
    rw [← e]
    exact env_start _ (RepL.ws _ _ _ reps)
  -- what the run has given
  have hrun' : match runFn (Iof PL n) d ts with
    | .stuck => False
    | .exc x ios => ∀ cls dd H' F' fps, XIs Z H' x cls dd → RepL Z ⟨F', B0, fun _ => False⟩ H' ios (ioV d.md vs) fps → (∀ a, cn a fps ≤ 1) → (∀ a, F' a ∨ B0 a → cn a fps = 0) →
      (∀ a, F' a → ∃ o, H' a = some o) → Step F0 H S0 F' H' fps → E cls dd H'
    | .ok t ios => ∀ v H' F' fp fps, Rep Z ⟨F', B0, fun _ => False⟩ H' t v fp → RepL Z ⟨F', B0, fun _ => False⟩ H' ios (ioV d.md vs) fps → (∀ a, cn a fps + cn a fp ≤ 1) → (∀ a, F' a ∨ B0 a → cn a fps + cn a fp = 0) →
      (∀ a, F' a → ∃ o, H' a = some o) → Step F0 H S0 F' H' (fps ++ fp) → Q v H' := by
    have e1 : (Iof PL (n + 1)).run fid ts = runFn (Iof PL n) d ts := by
      show (match PL.fs[fid]? with | some d => runFn (Iof PL n) d ts | none => COut.stuck) = _
      rw [hd]
    have e2 : (Iof PL (n + 1)).md fid = d.md := by
      rw [Iof_md]
      show (match PL.fs[fid]? with | some d => d.md | none => []) = _
      rw [hd]
    rw [e1, e2] at hrun
    exact hrun
  unfold runFn at hrun'
  by_cases hlt : ts.length = d.ps.length
  case neg => rw [if_neg hlt] at hrun'; exact hrun'.elim
  rw [if_pos hlt] at hrun'
  have fin : ∀ (σ' : L2.St) (H' : Hp) (F' : Addr → Prop) (e : Env) (ios : List T) (Se' : List Addr), Wd Z F' B0 H' σ' e [] [] Se' [] ∨ True → EnvRep Z ⟨F', B0, fun _ => False⟩ H' σ' e Se' → Off (asgB d.body) (L2.start d.N vs) σ' → iosOf d.md e = some ios →
      ∃ fps, RepL Z ⟨F', B0, fun _ => False⟩ H' ios (ioV d.md vs) fps ∧ ∀ a, cn a fps ≤ cn a Se' := fun σ' H' F' e ios Se' _ er off hi => by
    refine ios_rep d.md e σ' vs Se' ios er (by rw [hl, ← hlen]) (fun i hm => ?_) hi
    have ni := ioFix_go (j := 0) hio i hm
    rw [Nat.zero_add] at ni
    rw [off.2 i ni]
    unfold L2.start
    have hi' : i < vs.length := by
      rw [hlen, ← hl]; exact (List.getElem?_eq_some_iff.mp hm).1
    rw [List.getElem?_append_left (by simpa using hi'), List.getElem?_map]
  cases he : exB (Iof PL n) d.body (ts.map some ++ List.replicate (d.N.length - ts.length) none) with
  | stuck => rw [he] at hrun'; exact hrun'.elim
  | exc x e =>
    rw [he] at hrun'
    dsimp only at hrun'
    cases hi : iosOf d.md e with
    | none => rw [hi] at hrun'; exact hrun'.elim
    | some ios =>
      rw [hi] at hrun'
      intro σ' cls dd H' F' Se' hx w' s' off
      have w' := w'.ws'
      obtain ⟨fps, r, l⟩ := fin σ' H' F' e ios Se' (.inr trivial) w'.er off hi
      refine hrun' cls dd H' F' fps hx r (fun a => ?_) (fun a h => ?_) (fun a h => w'.al a (.inl h)) ((show Step F0 H S0 F' H' (Se' ++ []) by simpa using s').trans (Step.le fun a => by have := l a; simp; omega))
      · have := w'.nd a; have := l a; omega
      · have := w'.dj a h; have := l a; omega
  | next e =>
    rw [he] at hrun'
    dsimp only at hrun'
    cases hi : iosOf d.md e with
    | none => rw [hi] at hrun'; exact hrun'.elim
    | some ios0 =>
    rw [hi] at hrun'
    intro σ' H' F' Se' St' w' s' off
    have w' := w'.ws'
    obtain ⟨fps, r, l⟩ := fin σ' H' F' e ios0 Se' (.inr trivial) w'.er off hi
    refine hrun' .non H' F' [] fps ⟨rfl, rfl⟩ r (fun a => ?_) (fun a h => ?_) (fun a h => w'.al a (.inl h)) ((show Step F0 H S0 F' H' (Se' ++ St') by simpa using s').trans (Step.le fun a => by have := l a; simp; omega))
    · have := w'.nd a; have := l a; simp; omega
    · have := w'.dj a h; have := l a; simp; omega
  | ret t e =>
    rw [he] at hrun'
    dsimp only at hrun'
    split at hrun'
    case h_1 => exact hrun'.elim
    case h_2 => rename_i heq; split at heq; cases heq; split at heq <;> cases heq
    rename_i t0 ios0 heq
    split at heq
    · cases heq
    rename_i nb
    split at heq
    case h_2 => cases heq
    rename_i ios hi
    cases heq
    simp only [Bool.or_eq_true, not_or, Bool.not_eq_true] at nb
    intro v σ' H' F' Se' St' w' s' off
    have w' := w'.ws'
    obtain ⟨fps, r, l⟩ := fin σ' H' F' e ios0 Se' (.inr trivial) w'.er off hi
    have rt := RepL.one.mp w'.tr
    refine hrun' v H' F' St' fps (Rep.noW (W' := fun _ => False) _ _ _ nb.1 rt) r (fun a => ?_) (fun a h => ?_) (fun a h => w'.al a (.inl h)) ((show Step F0 H S0 F' H' (Se' ++ St') by simpa using s').trans (Step.le fun a => by have := l a; simp; omega))
    · have := w'.nd a; have := l a; omega
    · have := w'.dj a h; have := l a; omega
end VI

namespace VI
open PySem L2
/-! an exception's __init__ -/
def ckIniS (N : List Str) (sc : Scope) : List Str → Nat → List Stmt → Bool
  | [], _, [] => true
  | f :: fl, j, .Assign [.Attribute (.Name x _) g _] (.Name y _) _ :: r => (ckN N sc 0 x && g == f) && (ckN N sc j y && ckIniS N sc fl (j + 1) r)
  | _, _, _ => false
def ckIni (bn : Str) (N : List Str) (sc : Scope) (fl : List Str) : List Stmt → Bool
  | .Expr (.Call (.Attribute (.Name b _) m ap) [.Name x _, .Constant (.str _) _ _] [] cp) _ :: r => ((b == bn && m == ("__init__" : Str)) && (gl sc b && !(b == ("__debug__" : Str)))) && ((ckN N sc 0 x && ap.endLine == cp.line) && ckIniS N sc fl 1 r)
  | _ => false
/-- the base's __init__ is ValueError's -/
structure BIni (K : PySem.W.Frag) (CB : Addr) : Prop where
  sp : PySem.W.specialIn K (.ref CB) "__getattribute__" = some (some (.builtin "type.__getattribute__"))
  rd : PySem.W.readsIn K CB (.type "type") = true
  fc : PySem.W.findCls K (.ref CB) (.type "type") "__init__" = some (.val (.builtin "ValueError.__init__"))
section
variable {X : Cx} {N : List Str} {sc : Scope}
theorem pe_binit {pl : Sem Bool} {bn : Str} {CB : Addr} {p1 p2 pos : Pos} {e : Expr} {es : List Expr} {ta : TA} (hg : Gl X bn) (hm : X.mg bn = some (.ref CB)) (nd : (bn == ("__debug__" : Str)) = false) (b : BIni X.K CB) (ha : PA X (e :: es) ta)
    (hc : eval (.Call (.Attribute (.Name bn p1) "__init__" p2) (e :: es) [] pos) X.env = (do
      let ov ← eval (.Name bn p1) X.env
      standAt p2.atName
      let (f, first) ← holding [ov] (getMethod ov "__init__" pl)
      callWith pos f first (backTo pos (starEach (e :: es) X.env)) (backToKw pos (keywordEach [] X.env))))
    (he : starEach (e :: es) X.env = (false, eval e X.env) :: starEach es X.env) (hpl : (backTo pos (starEach es X.env)).any (·.1) = false) :
    PE X (.Call (.Attribute (.Name bn p1) "__init__" p2) (e :: es) [] pos) (tVeI X.K ta) := by
  refine ⟨fun pins s σ H Q I h => ?_⟩
  refine PySem.W.methodCall_KW (ld_glob I hg hm ?_ nd) hc
  refine PySem.W.method_cls I.kIn b.sp (PySem.W.cls_value I.kIn b.rd b.fc (by decide +kernel) ?_)
  show wpAny _ _ (callWith pos (Value.builtin "ValueError.__init__") [] (backTo pos (starEach (e :: es) X.env)) []) _ _ _
  refine PyProof.Rows.callWith_method1 (thn (ha.run pos pins _ σ H _ (I.tok _) h) fun us s1 ⟨vs, H1, I1, r1, a, C, ws, ev, hl, T, ea, q⟩ => ?_) he hpl
  subst ev
  cases r1 with
  | @cons _ u0 _ ur ra rw' =>
    obtain rfl : u0 = Value.ref a := ra
    have hlen : ur.length ≤ sizeLine := by
      rw [← Paired.length rw', sizeLine_eq]
      omega
    exact oinit_ok T I1 ea hlen fun s' J => ⟨.non, H1, J, rfl, q⟩
theorem upd_upd {H : Hp} {a : Addr} {x y : HO} : upd (upd H a x) a y = upd H a y := by
  funext b
  by_cases h : b = a
  · rw [h, upd_same, upd_same]
  · rw [upd_ne h, upd_ne h, upd_ne h]
theorem upd_id {H : Hp} {a : Addr} {x : HO} (h : H a = some x) : upd H a x = H := by
  funext b
  by_cases e : b = a
  · rw [e, upd_same, h]
  · rw [upd_ne e]
theorem upd_3 {H : Hp} {a d : Addr} {x y z : HO} (h : d ≠ a) : upd (upd (upd H d x) a y) d z = upd (upd H d z) a y := by
  funext b
  by_cases e : b = d
  · rw [e, upd_same, upd_ne h, upd_same]
  · by_cases e2 : b = a
    · rw [e2, upd_ne (Ne.symm h), upd_same, upd_same]
    · rw [upd_ne e, upd_ne e2, upd_ne e, upd_ne e2, upd_ne e]
/-- the stores, one by one -/
def tIni (K : PySem.W.Frag) : List Str → Nat → TS
  | [], _ => tNext
  | f :: fl, j => tSeq (tOst K f (tVar 0) (tVar j)) (tIni K fl (j + 1))
theorem ini_pss {X : Cx} {N : List Str} {sc : Scope} (var : ∀ {i : Nat} {x : Str} {pos : Pos}, ckN N sc i x = true → PE X (.Name x pos) (tVar i)) : ∀ (fl : List Str) (j : Nat) (body : List Stmt), ckIniS N sc fl j body = true → PSs X body (tIni X.K fl j)
  | [], j, body, h => by
    cases body with
    | nil => exact pss_nil
    | cons _ _ => cases h
  | f :: fl, j, body, h => by
    unfold ckIniS at h
    split at h
    case h_1 => rename_i heq; cases heq
    case h_3 => cases h
    rename_i heq
    cases heq
    rw [Bool.and_eq_true, Bool.and_eq_true, Bool.and_eq_true] at h
    obtain ⟨⟨h1, h2⟩, h3, h4⟩ := h
    obtain rfl := beq_iff_eq.mp h2
    exact pss_cons (ps_ost (var h1) (var h3)) (ini_pss var fl _ _ h4)
theorem ini_run {K : PySem.W.Frag} {C a d : Addr} {D : Ends} {σ : L2.St} (T : OexC K C) (hda : d ≠ a) (h0 : σ[0]? = some (some (.ref a))) : ∀ (fl : List Str) (ws : List V) (j : Nat) (fs : List (Str × V)) (H : Hp), fl.length = ws.length → fs.length + fl.length ≤ 900 →
    (∀ (i : Nat) (w : V), ws[i]? = some w → σ[j + i]? = some (some w)) → (∀ f ∈ fl, PySem.W.findIn K (.ref C) f = some none) → H a = some (exo a C (some d)) → H d = some (exd d fs) → D.nx σ (upd H d (exd d (xfs fl ws fs))) → tIni K fl j D σ H
  | [], ws, j, fs, H, hl, hz, hs, na, ha, hd, q => by
    have : xfs [] ws fs = fs := by cases ws <;> rfl
    rw [this, upd_id hd] at q
    exact q
  | f :: fl, [], j, fs, H, hl, hz, hs, na, ha, hd, q => by cases hl
  | f :: fl, w :: ws, j, fs, H, hl, hz, hs, na, ha, hd, q => by
    have hl' : fl.length = ws.length := by simpa using hl
    have hz' : fs.length + (fl.length + 1) ≤ 900 := by simpa using hz
    refine ⟨w, by simpa using hs 0 w rfl, .ref a, h0, a, C, rfl, T, na f List.mem_cons_self, .inr ⟨d, fs, ha, hd, by omega, ?_⟩⟩
    show tIni K fl (j + 1) D σ (upd H d (exd d ((f, w) :: fs)))
    refine ini_run T hda h0 fl ws (j + 1) ((f, w) :: fs) _ hl' (by simp; omega) (fun i w' h => by have := hs (i + 1) w' (by simpa using h); rw [← this]; congr 1; omega) (fun g hg => na g (List.mem_cons_of_mem _ hg)) (by rw [upd_ne (Ne.symm hda)]; exact ha) upd_same ?_
    rw [upd_upd]
    exact q
/-- it keeps what raise wants of it -/
theorem init_ok {P : Program} {w : World} {K : PySem.W.Frag} {mg : Str → Option Value} {base : Heap} {qual bn : Str} {st : Stmt} {fa CB : Addr} {fd : FuncData} {fl : List Str} {N : List Str} (Fu : Fun K "__init__" qual st fa fd) (S : FnScope N N (defScope st)) (hN : N.length = fl.length + 1)
    (hck : ckIni bn N (defScope st) fl (defBody st) = true) (hf : fl ≠ []) (hz : fl.length ≤ 900) (hb : mg bn = some (.ref CB)) (b : BIni K CB) (k : Nat) : FnOk P w K mg base (L2.CX P w) (k + 1) fa fd N (spX K fl) := by
  refine Fu.okX S (fun vs H Q E h => by rw [h.1, hN]) fun cdv A outer s H vs Q E hr hsp => ?_
  obtain ⟨hlen, a, C, ws, rfl, T, na, ha, q⟩ := hsp
  have hlw : ws.length = fl.length := by simpa using hlen
  have var : ∀ {i : Nat} {x : Str} {pos : Pos}, ckN N (defScope st) i x = true → PE (cxOf (L2.CX P w) P w K mg base N qual (defScope st) fa cdv A outer s H E) (.Name x pos) (tVar i) := fun {i x pos} h => by
    unfold ckN at h
    rw [Bool.and_eq_true] at h
    obtain ⟨h1, h2⟩ := h
    obtain ⟨h2, h3, h4⟩ := and3 h2
    refine pe_var (beq_iff_eq.mp h1) ?_ (not_b h3) (not_b h4)
    show Vis (defScope st) x
    unfold visB at h2
    unfold Vis
    split at h2
    · exact .inl (by assumption)
    · exact .inr (.inl (by assumption))
    · exact .inr (.inr (by assumption))
    · cases h2
  unfold ckIni at hck
  split at hck
  case h_2 => cases hck
  rename_i b' bp m ap x xp t tj tp cp ep r hbody
  rw [Bool.and_eq_true, Bool.and_eq_true, Bool.and_eq_true, Bool.and_eq_true, Bool.and_eq_true, Bool.and_eq_true] at hck
  obtain ⟨⟨⟨h1, h2⟩, h3, h4⟩, ⟨h5, h6⟩, h7⟩ := hck
  obtain rfl := beq_iff_eq.mp h1
  obtain rfl := beq_iff_eq.mp h2
  rw [hbody]
  have ns : AllNs [Expr.Name x xp, Expr.Constant (.str t) tj tp] := fun e he env rest => by
    simp only [List.mem_cons, List.not_mem_nil, or_false] at he
    rcases he with rfl | rfl <;> rfl
  have pa : PA (cxOf (L2.CX P w) P w K mg base N qual (defScope st) fa cdv A outer s H E) [Expr.Name x xp, Expr.Constant (.str t) tj tp] (tCons (tVar 0) (tCons (L2.tC (.str t)) tNil)) := pa_cons (var h5) (pa_cons pe_str pa_nil (by rfl)) (by rfl)
  have gl : Gl (cxOf (L2.CX P w) P w K mg base N qual (defScope st) fa cdv A outer s H E) b' := by
    show (defScope st).names.lookup b' = _
    exact beq_iff_eq.mp h3
  refine ⟨_, pss_cons (ps_expr (pe_binit gl hb (not_b h4) b pa (call_form (.Name b' bp) "__init__" ap cp _ _ rfl h6 (few_ok ns (by simp))) (by rfl) (by rfl)) (by rfl)) (ini_pss var fl 1 r h7), ?_⟩
  have hst : L2.start N (V.ref a :: ws) = (V.ref a :: ws).map some := by
    unfold L2.start
    have : N.length - (V.ref a :: ws).length = 0 := by simp; omega
    rw [this]; simp
  rw [hst]
  have h0 : ((V.ref a :: ws).map some)[0]? = some (some (.ref a)) := rfl
  refine ⟨.ref a, h0, a, C, [.str t], rfl, by simp, T, ha, ?_⟩
  show tIni K fl 1 _ _ H
  cases fl with
  | nil => exact absurd rfl hf
  | cons f fl =>
    cases ws with
    | nil => simp at hlw
    | cons w0 ws =>
      refine ⟨w0, rfl, .ref a, h0, a, C, rfl, T, na f List.mem_cons_self, .inl ⟨ha, fun d hd hda => ?_⟩⟩
      show tIni K fl 2 _ _ _
      refine ini_run T hda h0 fl ws 2 [(f, w0)] _ (by simpa using hlw.symm) (by simp at hz ⊢; omega) (fun i w' h => ?_) (fun g hg => na g (List.mem_cons_of_mem _ hg)) upd_same (by rw [upd_ne hda, upd_same]) ?_
      · rw [List.getElem?_map, show 2 + i = i + 1 + 1 by omega, List.getElem?_cons_succ, List.getElem?_cons_succ, h]; rfl
      · rw [upd_3 hda]
        exact q d hd hda
end
end VI

namespace VI
open PySem L2
/-- a def of the text stands at an address -/
def FnAt (K : PySem.W.Frag) (d : FD) (st : Stmt) (f : Addr) : Prop :=
  ∃ (oc : Value) (od an : Option Addr) (sl : Array (Option Value)) (kV doc pm cd ct : Value),
    K.lookup f = some ⟨oc, od, .func (PySem.W.fnOf d.name d.qual (defArgs st) (defBody st) (defScope st) .none kV doc pm an cd ct), sl⟩ ∧ PySem.W.codeIn K cd d.qual = true ∧ PySem.W.keepIn K (.ref f) = true
/-- .. behind its name -/
def Stands (K : PySem.W.Frag) (Z : Wo) (d : FD) (f : Addr) : Prop := match d.own with
  | none => PySem.W.nsIn K mainGlobals d.name = some (some (.ref f))
  | some c => PySem.W.findIn K (.ref (Z.cls c)) d.name = some (some (.ref f)) ∧ PySem.W.isFn K (.ref f) = true
/-- the IR is the text's -/
structure DOk (nm : Tb) (st : Stmt) (d : FD) : Prop where
  sc : FnScope d.N d.ps (defScope st)
  ck : ckB nm d.N (defScope st) d.body (defBody st) = true
  io : ioFix d = true
  ml : d.md.length = d.ps.length
  bd : ∀ (kV doc pm : Value) (an : Option Addr) (cdv ct : Value) (us : List Value), us.length = d.ps.length → bindArgs (PySem.W.fnOf d.name d.qual (defArgs st) (defBody st) (defScope st) .none kV doc pm an cdv ct) ⟨us, []⟩ = pure (d.ps.zip us)
/-- a class stands behind its name -/
structure CAt (K : PySem.W.Frag) (C : Addr) (k : CD) : Prop where
  ns : PySem.W.nsIn K mainGlobals k.name = some (some (.ref C))
  cl : Cls K C
  mks : PySem.W.makesIn K C = true
  kp : PySem.W.keepIn K (.ref C) = true
  na : ∀ x ∈ k.fl, NoAttr K C x
/-- the world as it stands outside of a def -/
def mkWo (K : PySem.W.Frag) (cls xcl : Nat → Addr) (PL : Pg) : Wo := ⟨K, cls, (nmOf PL).fl, fun c => .ref (xcl c), xfOf PL, fun _ _ _ _ => False, fun _ _ _ _ _ _ h => h, fun _ _ _ _ => False⟩
/-- its __init__ stands there -/
structure IniAt (K : PySem.W.Frag) (C : Addr) (fl : List Str) (qual bn : Str) (N : List Str) (st : Stmt) (fI CB : Addr) : Prop where
  fi : PySem.W.findIn K (.ref C) "__init__" = some (some (.ref fI))
  ty : PySem.W.typeIn K (.ref fI) = some (.type "function")
  at_ : FnAt K ⟨"__init__", qual, none, N, N, [], .nil⟩ st fI
  sc : FnScope N N (defScope st)
  hN : N.length = fl.length + 1
  ck : ckIni bn N (defScope st) fl (defBody st) = true
  bd : ∀ (kV doc pm : Value) (an : Option Addr) (cdv ct : Value) (us : List Value), us.length = N.length → bindArgs (PySem.W.fnOf "__init__" qual (defArgs st) (defBody st) (defScope st) .none kV doc pm an cdv ct) ⟨us, []⟩ = pure (N.zip us)
  bs : PySem.W.nsIn K mainGlobals bn = some (some (.ref CB))
  bi : BIni K CB
/-- an exception's class stands behind its name -/
structure XAtK (K : PySem.W.Frag) (C : Addr) (d : XD) : Prop where
  ns : PySem.W.nsIn K mainGlobals d.name = some (some (.ref C))
  ec : ExcC K C
  xf : XfC K C
  na : ∀ f ∈ d.fl, PySem.W.findIn K (.ref C) f = some none
  ini : if d.kp then OexC K C ∧ d.fl.Nodup ∧ d.fl ≠ [] ∧ d.fl.length ≤ 900 ∧ ∃ qual bn N st fI CB, IniAt K C d.fl qual bn N st fI CB
    else d.fl = [] ∧ PySem.W.keepIn K (.ref C) = true ∧ PySem.W.subIn K (.ref C) (.type "BaseException") = some true ∧ PySem.W.typeIn K (.ref C) = some (.type "type") ∧
      ∃ B newId initId bmB, ExcBaseFacts B newId initId bmB ∧ PySem.W.excIn K C bmB newId = true
/-- the exceptions of a program -/
structure XLaw (K : PySem.W.Frag) (PL : Pg) (xcl : Nat → Addr) : Prop where
  at_ : ∀ c d, PL.xs[c]? = some d → XAtK K (xcl c) d
  kn : ∀ k x, (nmOf PL).xk k = some x → ∃ v cv, RelV v cv ∧ (∀ u, RelV v u → u = cv) ∧ (PySem.W.nsIn K mainGlobals x = some (some cv) ∨ (PySem.W.nsIn K mainGlobals x = some none ∧ bootBuiltins x = some cv ∧ x ≠ "__name__")) ∧
    ∀ c, xoOf PL c = true → PySem.W.exmOne K (.ref (xcl c)) cv = some (xcB c k) ∧ PySem.W.kitOne K (.ref (xcl c)) cv = some (xcB c k)
theorem xlaw_nil {K : PySem.W.Frag} {PL : Pg} {xcl : Nat → Addr} (h : PL.xs = []) (hb : PL.xb = none) : XLaw K PL xcl where
  at_ := fun c d e => by rw [h] at e; simp at e
  kn := fun k x e => by
    unfold nmOf at e
    dsimp only at e
    cases k with
    | own c => dsimp only at e; rw [h] at e; simp at e
    | base => dsimp only at e; rw [hb] at e; cases e
    | val => dsimp only at e; rw [h] at e; cases e
/-- a constant of the top -/
def GvAt (K : PySem.W.Frag) (x : Str) (t : T) : Prop := ∃ (u : Value) (v : V), PySem.W.nsIn K mainGlobals x = some (some u) ∧ RelV v u ∧ ImmIs t v
theorem nm_fl {PL : Pg} {c k : Nat} {x : Str} (h : ((nmOf PL).fl c)[k]? = some x) : ∃ cd, PL.cs[c]? = some cd ∧ x ∈ cd.fl := by
  unfold nmOf at h
  dsimp only at h
  split at h
  · rename_i cd e
    split at h
    · exact ⟨cd, e, List.mem_of_getElem? h⟩
    · simp at h
  · simp at h
theorem good_all {P : Program} {w : World} {K : PySem.W.Frag} {mg : Str → Option Value} {base h : Heap} {cls xcl : Nat → Addr} {PL : Pg} (KX : K.In h) (G : h.Ns mainGlobals mg) (blt : ∀ x ∈ bNames, PySem.W.nsIn K mainGlobals x = some none)
    (hG : ∀ x t, PL.gs.lookup x = some t → GvAt K x t) (hC : ∀ c k, PL.cs[c]? = some k → CAt K (cls c) k)
    (hD : ∀ (i : Nat) (d : FD), PL.fs[i]? = some d → ∃ st fa, DOk (nmOf PL) st d ∧ FnAt K d st fa ∧ Stands K (mkWo K cls xcl PL) d fa) (hX : XLaw K PL xcl) : CGood K (mkWo K cls xcl PL) PL ∧ KGood K mg (mkWo K cls xcl PL) PL ∧ (∀ c x kp, (nmOf PL).xn c = some (x, kp) → XGood P w K mg base (mkWo K cls xcl PL) c x kp) ∧ ∀ n,
      Good P w K mg base (mkWo K cls xcl PL) PL n ∧ ∀ (i : Nat) (d : FD), PL.fs[i]? = some d → ∀ fa st, DOk (nmOf PL) st d → FnAt K d st fa → FGood P w K mg base (mkWo K cls xcl PL) PL n i fa := by
  have hb : ∀ x ∈ bNames, mg x = none := fun x hx => PySem.W.mg_none_of KX G (blt x hx)
  have hgl : ∀ x t, PL.gs.lookup x = some t → ∃ (u : Value) (v : V), mg x = some u ∧ RelV v u ∧ ImmIs t v := fun x t h => by
    obtain ⟨u, v, a, b, c⟩ := hG x t h
    exact ⟨u, v, PySem.W.mg_of KX G a, b, c⟩
  have xat : ∀ c, xoOf PL c = true → ∃ d, PL.xs[c]? = some d ∧ XAtK K (xcl c) d := fun c h => by
    have h := of_decide_eq_true h
    exact ⟨_, List.getElem?_eq_some_iff.mpr ⟨h, rfl⟩, hX.at_ c _ (List.getElem?_eq_some_iff.mpr ⟨h, rfl⟩)⟩
  have xfe : ∀ c d, PL.xs[c]? = some d → (mkWo K cls xcl PL).xf c = d.fl := fun c d h => by
    show xfOf PL c = _
    unfold xfOf
    rw [h]
  have cg : CGood K (mkWo K cls xcl PL) PL := ⟨rfl, fun c k x h => by
    obtain ⟨cd, e, hx⟩ := nm_fl h
    have := hC c cd e
    exact ⟨this.cl, this.na x hx⟩, rfl, fun _ _ _ _ h => h, fun c h => by
    obtain ⟨d, e, x⟩ := xat c h
    exact ⟨xcl c, rfl, x.ec, x.xf, by rw [xfe c d e]; exact x.na⟩⟩
  have kg : KGood K mg (mkWo K cls xcl PL) PL := fun k x h => by
    obtain ⟨v, cv, r, r2, hm, q⟩ := hX.kn k x h
    refine ⟨v, cv, ⟨r, r2, hm.imp (fun a => PySem.W.mg_of KX G a) fun ⟨a, b, c⟩ => ⟨PySem.W.mg_none_of KX G a, b, c⟩⟩, q⟩
  have xg : ∀ c x kp, (nmOf PL).xn c = some (x, kp) → XGood P w K mg base (mkWo K cls xcl PL) c x kp := fun c x kp h => by
    have h : (match PL.xs[c]? with | some d => some (d.name, d.kp) | none => none) = some (x, kp) := h
    cases e : PL.xs[c]? with
    | none => rw [e] at h; cases h
    | some d =>
      rw [e] at h
      cases h
      have x := hX.at_ c d e
      refine ⟨xcl c, rfl, PySem.W.mg_of KX G x.ns, ?_⟩
      rw [xfe c d e]
      have ini := x.ini
      cases hk : d.kp with
      | false =>
        rw [hk, if_neg (by decide)] at ini
        rw [if_neg (by decide)]
        exact ini
      | true =>
        rw [hk, if_pos rfl] at ini
        rw [if_pos rfl]
        obtain ⟨b1, b2, b3, b4, qual, bn, N, st, fI, CB, at_⟩ := ini
        obtain ⟨oc, od, an, sl, kV, doc, pm, cd, ct, a2, a3, a4⟩ := id at_.at_
        have Fu := fun_mk (st := st) a2 a3 a4
        exact ⟨b1, b2, b4, x.na, fI, _, N, at_.fi, at_.ty, Fu.binds fun kV doc pm an cdv ct us hl => at_.bd kV doc pm an cdv ct us hl, at_.hN, fun k => init_ok Fu at_.sc at_.hN at_.ck b3 b4 (PySem.W.mg_of KX G at_.bs) at_.bi k⟩
  refine ⟨cg, kg, xg, fun n => ?_⟩
  have mdl : ∀ (g : Nat) (d : FD) st, PL.fs[g]? = some d → DOk (nmOf PL) st d → (mdOf PL g).length = d.ps.length := fun g d st hd ok => by
    show (match PL.fs[g]? with | some d => d.md | none => []).length = _
    rw [hd]; exact ok.ml
  -- from the defs to what a caller asks
  have ask : ∀ n, (∀ (i : Nat) (d : FD), PL.fs[i]? = some d → ∀ fa st, DOk (nmOf PL) st d → FnAt K d st fa → FGood P w K mg base (mkWo K cls xcl PL) PL n i fa) → Good P w K mg base (mkWo K cls xcl PL) PL n := fun n all => by
    refine ⟨fun g y hg => ?_, fun c g m hg => ?_, fun c x g hg => ?_⟩
    · unfold nmOf at hg
      dsimp only at hg
      split at hg
      case h_2 => cases hg
      rename_i d hd
      split at hg
      case isFalse => cases hg
      rename_i ho
      cases hg
      obtain ⟨st, fa, ok, fat, sd⟩ := hD g d hd
      unfold Stands at sd
      rw [ho] at sd
      exact ⟨fa, PySem.W.mg_of KX G sd, let ⟨_, _, _, _, _, _, _, _, _, _, _, k⟩ := fat; k, all g d hd fa st ok fat⟩
    · unfold nmOf at hg
      dsimp only at hg
      split at hg
      case h_2 => cases hg
      rename_i d cd hd hc
      split at hg
      case isFalse => cases hg
      rename_i ho
      cases hg
      obtain ⟨st, fa, ok, fat, sd⟩ := hD g d hd
      unfold Stands at sd
      rw [ho.1] at sd
      refine ⟨fun z => ?_, (hC c cd hc).cl, fa, ⟨sd.1, sd.2, let ⟨_, _, _, _, _, _, _, _, _, _, _, k⟩ := fat; k⟩, all g d hd fa st ok fat⟩
      obtain ⟨k, hk⟩ := List.mem_iff_getElem?.mp z
      obtain ⟨cd', e, hx⟩ := nm_fl hk
      rw [hc] at e
      cases e
      exact ho.2 hx
    · unfold nmOf at hg
      dsimp only at hg
      split at hg
      case h_2 => cases hg
      rename_i cd hc
      split at hg
      case h_2 => cases hg
      rename_i d hd
      split at hg
      case isFalse => cases hg
      rename_i ho
      cases hg
      obtain ⟨st, fa, ok, fat, sd⟩ := hD _ d hd
      unfold Stands at sd
      rw [ho.1] at sd
      have ca := hC c cd hc
      exact ⟨PySem.W.mg_of KX G ca.ns, fa, ⟨ca.mks, by rw [← ho.2]; exact sd.1, sd.2, ca.kp⟩, all _ d hd fa st ok fat⟩
  have all : ∀ n, ∀ (i : Nat) (d : FD), PL.fs[i]? = some d → ∀ fa st, DOk (nmOf PL) st d → FnAt K d st fa → FGood P w K mg base (mkWo K cls xcl PL) PL n i fa := by
    intro n
    induction n with
    | zero =>
      intro g d hd fa st ok fat
      obtain ⟨oc, od, an, sl, kV, doc, pm, cd, ct, a2, a3, a4⟩ := fat
      have Fu := fun_mk (st := st) a2 a3 a4
      refine ⟨_, d.ps, Fu.binds fun kV doc pm an cdv ct us hl => ok.bd kV doc pm an cdv ct us hl, mdl g d st hd ok, ⟨fun vs H Q E hs => hs.1, fun A outer s H args us vs Q E _ _ _ _ hs => ?_⟩⟩
      obtain ⟨_, _, _, _, _, _, _, _, _, hr⟩ := hs
      exact hr.elim
    | succ n ih =>
      intro g d hd fa st ok fat
      obtain ⟨oc, od, an, sl, kV, doc, pm, cd, ct, a2, a3, a4⟩ := fat
      have Fu := fun_mk (st := st) a2 a3 a4
      exact ⟨_, d.ps, Fu.binds fun kV doc pm an cdv ct us hl => ok.bd kV doc pm an cdv ct us hl, mdl g d st hd ok, fn_sound rfl hd Fu ok.sc ok.ck ok.io ok.ml (ask n ih) cg kg xg hb hgl⟩
  exact ⟨ask n (all n), all n⟩
theorem mem_of_lookup {x : Str} {t : T} : ∀ {l : List (Str × T)}, l.lookup x = some t → (x, t) ∈ l
  | [], h => by cases h
  | (y, u) :: r, h => by
    rw [List.lookup_cons] at h
    cases e : x == y with
    | true =>
      rw [e] at h
      cases h
      obtain rfl := beq_iff_eq.mp e
      exact List.mem_cons_self
    | false =>
      rw [e] at h
      exact List.mem_cons_of_mem _ (mem_of_lookup h)
theorem gv_int {K : PySem.W.Frag} {x : Str} {n : Int} {k : Tok} (a : PySem.W.nsIn K mainGlobals x = some (some (.int n k))) : GvAt K x (.int n) := ⟨_, .int n, a, ⟨k, rfl⟩, imm_int n⟩
theorem gv_str {K : PySem.W.Frag} {x : Str} {n : Str} {k : Tok} (a : PySem.W.nsIn K mainGlobals x = some (some (.str n k))) : GvAt K x (.str n) := ⟨_, .str n, a, ⟨k, rfl⟩, imm_str n⟩
/-- how many bits a number of the script has at most -/
def BITS : Nat := 1048576
theorem bit_bound {z : Int} (h : Builtin.Int.intBits z ≤ BITS) : z.natAbs < 2 ^ BITS := by
  unfold Builtin.Int.intBits at h
  split at h
  · rename_i e; rw [show z = 0 by simpa using e]; exact Nat.two_pow_pos _
  · have : z.natAbs < 2 ^ (z.natAbs.log2 + 1) := Nat.lt_log2_self
    exact Nat.lt_of_lt_of_le this (Nat.pow_le_pow_right (by omega) (by omega))
/-- the end of a law -/
theorem vi_law {l : PySem.W.OpenLaw} {q : Program} {loose : List Str} {XP : (Str → Option Value) → Heap → Prop} {YP : World → Heap → Prop} {d : DefRec} {K : Params → PySem.W.Frag} {x : Str} (PL : Pg) (n lid : Nat) {dl : FD}
    (hn : l.most = some 63) (hdf : d.params.defaults = []) (hr : Room (2 * n + 2) callerA) (hY : ∀ (w : World) (h : Heap), YP w h → (K w.params).In h)
    (hl : PL.fs[lid]? = some dl) (hx : dl.ps = [x]) (hname : dl.name = d.name) (hown : dl.own = none)
    (hb : ∀ w : World, ∀ x ∈ bNames, PySem.W.nsIn (K w.params) mainGlobals x = some none)
    (hGm : ∀ (w : World) (p : Str × T), p ∈ PL.gs → GvAt (K w.params) p.1 p.2)
    (hCD : ∀ w : World, ∃ (cx : (Nat → Addr) × (Nat → Addr)), (∀ c k, PL.cs[c]? = some k → CAt (K w.params) (cx.1 c) k) ∧ XLaw (K w.params) PL cx.2 ∧
      ∀ (i : Nat) (d : FD), PL.fs[i]? = some d → ∃ st fa, DOk (nmOf PL) st d ∧ FnAt (K w.params) d st fa ∧ Stands (K w.params) (mkWo (K w.params) cx.1 cx.2 PL) d fa)
    (hrun : ∀ ns : List Int, ns.length ≤ 63 → (∀ z ∈ ns, z.natAbs < 2 ^ BITS) → (Iof PL n).run lid [.scr ns] = .ok (.bl true) []) :
    PySem.W.WalkO q loose XP YP l.row.toRowW d [] (fun f vs => PySem.call f vs) := by
  have hG : ∀ (w : World) (x : Str) (t : T), PL.gs.lookup x = some t → GvAt (K w.params) x t := fun w x t h => hGm w (x, t) (mem_of_lookup h)
  refine L2.walk_ofB (n := 63) (k := 2 * n + 2) (x := x) (CX := fun w => L2.CX l.prog w) (sp := fun w => spOf (mkWo (K w.params) (hCD w).choose.1 (hCD w).choose.2 PL) (Iof PL n) lid 1) hn (by decide) hdf hr hY (fun w mg fa h KX G hmg => ?_) (fun w H a ns hlen hbits hO hS => ?_) fun w H s e s' hc => ?_
  · have hcl := (hCD w).choose_spec
    generalize (hCD w).choose = cx at hcl ⊢
    obtain ⟨hC, hX, hD⟩ := hcl
    obtain ⟨st, f, ok, fat, sd⟩ := hD lid dl hl
    have good := fun base => (good_all (P := l.prog) (w := w) (base := base) (PL := PL) KX G (hb w) (hG w) hC hD hX).2.2.2 n
    unfold Stands at sd
    rw [hown] at sd
    have hf : mg dl.name = some (.ref f) := PySem.W.mg_of KX G sd
    rw [hname, hmg] at hf
    cases hf
    obtain ⟨oc, od, an, sl, kV, doc, pm, cd, ct, a2, a3, a4⟩ := id fat
    have Fu := fun_mk (st := st) a2 a3 a4
    refine ⟨PySem.W.fnOf dl.name dl.qual (defArgs st) (defBody st) (defScope st) .none kV doc pm an cd ct, fun s u => .of_eq ?_, fun base _ _ => ?_⟩
    · have := ok.bd kV doc pm an cd ct [u] (by rw [hx]; rfl)
      rw [hx] at this
      exact this
    · cases n with
      | zero => exact ⟨fun vs H Q E hs => hs.1, fun A outer s H args us vs Q E _ _ _ _ hs => by obtain ⟨_, _, _, _, _, _, _, _, _, hr⟩ := hs; exact hr.elim⟩
      | succ n =>
        have ih := good_all (P := l.prog) (w := w) (base := base) (PL := PL) KX G (hb w) (hG w) hC hD hX
        have := fn_sound (K := K w.params) (Z := mkWo (K w.params) cx.1 cx.2 PL) rfl hl Fu ok.sc ok.ck ok.io ok.ml (ih.2.2.2 n).1 ih.1 ih.2.1 ih.2.2.1 (fun y hy => PySem.W.mg_none_of KX G (hb w y hy)) (fun x t h => let ⟨u, v, a, b, c⟩ := hG w x t h; ⟨u, v, PySem.W.mg_of KX G a, b, c⟩)
        rw [hx] at this
        exact this
  · refine ⟨rfl, fun y => y = a ∧ ∃ o, H a = some o, fun _ => False, [.scr ns], [], ⟨.ref a, [], [], [], rfl, rfl, ⟨a, rfl, ?_, rfl⟩, rfl, rfl⟩, fun _ => by simp, fun _ _ => rfl, fun y h => ?_, ?_⟩
    · rcases hS with (hS | ⟨o, hS⟩) | hS
      · exact .inl ⟨⟨rfl, _, hS⟩, .inl hS⟩
      · exact .inl ⟨⟨rfl, _, hS⟩, .inr ⟨o, hS⟩⟩
      · exact .inr hS
    · rcases h with ⟨rfl, h⟩ | h
      · exact h
      · exact h.elim
    · rw [hrun ns hlen fun z hz => bit_bound (hbits z hz)]
      intro v H' F' fp fps r _ _ _ _ _
      exact r.1
  · obtain ⟨a, B, H', cls, dd, _, _, _, _, _, _, _, h⟩ := hc
    exact h
end VI

namespace VI
open PySem L2
/-! reading a def's text: what it computes -/
/-- a flag that is neither one's own nor a view -/
class Fl.Ro (f : Fl) : Prop where
  vie : f.vie = f
  fre : f.fre = f
  bor : f.bor = f
  nv : f.isVw = false
instance : Fl.Ro .frz := ⟨rfl, rfl, rfl, rfl⟩
instance : Fl.Ro .brw := ⟨rfl, rfl, rfl, rfl⟩
class FlTo (g : Fl → Fl) (f : Fl) (f' : outParam Fl) : Prop where h : g f = f'
instance : FlTo Fl.vie .own .vw := ⟨rfl⟩
instance : FlTo Fl.vie .vw .vw := ⟨rfl⟩
instance : FlTo Fl.bor .own .brw := ⟨rfl⟩
instance : FlTo Fl.bor .vw .brw := ⟨rfl⟩
instance : FlTo Fl.fre .own .frz := ⟨rfl⟩
instance {f : Fl} [k : f.Ro] : FlTo Fl.vie f f := ⟨k.vie⟩
instance {f : Fl} [k : f.Ro] : FlTo Fl.bor f f := ⟨k.bor⟩
instance {f : Fl} [k : f.Ro] : FlTo Fl.fre f f := ⟨k.fre⟩
class MapTo (g : Fl → Fl) (t : T) (u : outParam T) : Prop where h : t.mapF g = u
class MapTL (g : Fl → Fl) (t : List T) (u : outParam (List T)) : Prop where h : T.mapFL g t = u
section
variable {g : Fl → Fl}
instance : MapTo g .non .non := ⟨rfl⟩
instance {b : Bool} : MapTo g (.bl b) (.bl b) := ⟨rfl⟩
instance {i : Int} : MapTo g (.int i) (.int i) := ⟨rfl⟩
instance {s : Str} : MapTo g (.str s) (.str s) := ⟨rfl⟩
instance {ns : List Int} : MapTo g (.scr ns) (.scr ns) := ⟨rfl⟩
instance {xs ys : List T} [k : MapTL g xs ys] : MapTo g (.tup xs) (.tup ys) := ⟨congrArg T.tup k.h⟩
instance {f f' : Fl} {xs ys : List T} [k1 : FlTo g f f'] [k : MapTL g xs ys] : MapTo g (.lst f xs) (.lst f' ys) := ⟨by rw [T.mapF, k1.h, k.h]⟩
instance {f f' : Fl} {ks : List Key} {xs ys : List T} [k1 : FlTo g f f'] [k : MapTL g xs ys] : MapTo g (.dic f ks xs) (.dic f' ks ys) := ⟨by rw [T.mapF, k1.h, k.h]⟩
instance {f f' : Fl} {c : Nat} {xs ys : List T} [k1 : FlTo g f f'] [k : MapTL g xs ys] : MapTo g (.ins f c xs) (.ins f' c ys) := ⟨by rw [T.mapF, k1.h, k.h]⟩
instance : MapTL g [] [] := ⟨rfl⟩
instance {x y : T} {xs ys : List T} [k1 : MapTo g x y] [k : MapTL g xs ys] : MapTL g (x :: xs) (y :: ys) := ⟨by rw [T.mapFL, k1.h, k.h]⟩
instance {α : Type} {e e' : α → T} {xs : List α} [k : ∀ a, MapTo g (e a) (e' a)] : MapTL g (xs.map e) (xs.map e') := ⟨by rw [mapFL_eq, List.map_map]; exact List.map_congr_left fun a _ => (k a).h⟩
instance {xs ys xs' ys' : List T} [k1 : MapTL g xs ys] [k : MapTL g xs' ys'] : MapTL g (xs ++ xs') (ys ++ ys') := ⟨by have := k1.h; have := k.h; rw [mapFL_eq] at *; rw [List.map_append]; simp [*]⟩
end
class Nv (t : T) : Prop where h : t.vw = false
class NvL (t : List T) : Prop where h : vwL t = false
instance : Nv .non := ⟨rfl⟩
instance {b : Bool} : Nv (.bl b) := ⟨rfl⟩
instance {i : Int} : Nv (.int i) := ⟨rfl⟩
instance {s : Str} : Nv (.str s) := ⟨rfl⟩
instance {ns : List Int} : Nv (.scr ns) := ⟨rfl⟩
instance {xs : List T} [k : NvL xs] : Nv (.tup xs) := ⟨k.h⟩
instance {xs : List T} [k : NvL xs] : Nv (.lst .own xs) := ⟨by have := k.h; unfold vwL at this; unfold T.vw; rw [T.has, this]; rfl⟩
instance {f : Fl} [r : f.Ro] {xs : List T} [k : NvL xs] : Nv (.lst f xs) := ⟨by have := k.h; unfold vwL at this; unfold T.vw; rw [T.has, this, r.nv]; rfl⟩
instance {ks : List Key} {xs : List T} [k : NvL xs] : Nv (.dic .own ks xs) := ⟨by have := k.h; unfold vwL at this; unfold T.vw; rw [T.has, this]; rfl⟩
instance {f : Fl} [r : f.Ro] {ks : List Key} {xs : List T} [k : NvL xs] : Nv (.dic f ks xs) := ⟨by have := k.h; unfold vwL at this; unfold T.vw; rw [T.has, this, r.nv]; rfl⟩
instance {c : Nat} {xs : List T} [k : NvL xs] : Nv (.ins .own c xs) := ⟨by have := k.h; unfold vwL at this; unfold T.vw; rw [T.has, this]; rfl⟩
instance {f : Fl} [r : f.Ro] {c : Nat} {xs : List T} [k : NvL xs] : Nv (.ins f c xs) := ⟨by have := k.h; unfold vwL at this; unfold T.vw; rw [T.has, this, r.nv]; rfl⟩
instance : NvL [] := ⟨rfl⟩
instance {x : T} {xs : List T} [k1 : Nv x] [k : NvL xs] : NvL (x :: xs) := ⟨by have a := k1.h; have := k.h; unfold T.vw at a; unfold vwL at *; rw [T.hasL, a, this]; rfl⟩
instance {α : Type} {e : α → T} {xs : List α} [k : ∀ a, Nv (e a)] : NvL (xs.map e) := ⟨by
  unfold vwL; rw [hasL_eq, List.any_map]
  induction xs with
  | nil => rfl
  | cons x r ih => rw [List.any_cons, ih, Bool.or_false]; exact (k x).h⟩
instance {xs ys : List T} [k1 : NvL xs] [k : NvL ys] : NvL (xs ++ ys) := ⟨by have a := k1.h; have b := k.h; unfold vwL at *; rw [hasL_eq] at *; rw [List.any_append, a, b]; rfl⟩
class Nb (t : T) : Prop where h : t.hasBrw = false
class NbL (t : List T) : Prop where h : T.hasL Fl.isBrw t = false
instance : Nb .non := ⟨rfl⟩
instance {b : Bool} : Nb (.bl b) := ⟨rfl⟩
instance {i : Int} : Nb (.int i) := ⟨rfl⟩
instance {s : Str} : Nb (.str s) := ⟨rfl⟩
instance {ns : List Int} : Nb (.scr ns) := ⟨rfl⟩
instance {xs : List T} [k : NbL xs] : Nb (.tup xs) := ⟨k.h⟩
instance {xs : List T} [k : NbL xs] : Nb (.lst .own xs) := ⟨by have := k.h; unfold T.hasBrw; rw [T.has, this]; rfl⟩
instance {xs : List T} [k : NbL xs] : Nb (.lst .frz xs) := ⟨by have := k.h; unfold T.hasBrw; rw [T.has, this]; rfl⟩
instance {ks : List Key} {xs : List T} [k : NbL xs] : Nb (.dic .own ks xs) := ⟨by have := k.h; unfold T.hasBrw; rw [T.has, this]; rfl⟩
instance {ks : List Key} {xs : List T} [k : NbL xs] : Nb (.dic .frz ks xs) := ⟨by have := k.h; unfold T.hasBrw; rw [T.has, this]; rfl⟩
instance {c : Nat} {xs : List T} [k : NbL xs] : Nb (.ins .own c xs) := ⟨by have := k.h; unfold T.hasBrw; rw [T.has, this]; rfl⟩
instance {c : Nat} {xs : List T} [k : NbL xs] : Nb (.ins .frz c xs) := ⟨by have := k.h; unfold T.hasBrw; rw [T.has, this]; rfl⟩
instance : NbL [] := ⟨rfl⟩
instance {x : T} {xs : List T} [k1 : Nb x] [k : NbL xs] : NbL (x :: xs) := ⟨by have a := k1.h; have := k.h; unfold T.hasBrw at a; rw [T.hasL, a, this]; rfl⟩
instance {α : Type} {e : α → T} {xs : List α} [k : ∀ a, Nb (e a)] : NbL (xs.map e) := ⟨by
  rw [hasL_eq, List.any_map]
  induction xs with
  | nil => rfl
  | cons x r ih => rw [List.any_cons, ih, Bool.or_false]; exact (k x).h⟩
instance {xs ys : List T} [k1 : NbL xs] [k : NbL ys] : NbL (xs ++ ys) := ⟨by have a := k1.h; have b := k.h; rw [hasL_eq] at *; rw [List.any_append, a, b]; rfl⟩
/-! the calls' modes are the program's -/
mutual
theorem pE_md {I J : CI} (h : I.md = J.md) : ∀ e : IE, pE I e = pE J e := fun e => by
  cases e with
  | var i => rfl
  | mov i => rfl
  | int n => rfl
  | bl b => rfl
  | non => rfl
  | str s => rfl
  | bop op a b => rw [pE, pE, pE_md h a, pE_md h b]
  | neg a => rw [pE, pE, pE_md h a]
  | nt a => rw [pE, pE, pE_md h a]
  | cmp op a b => rw [pE, pE, pE_md h a, pE_md h b]
  | cmp2 op op' a b c => rw [pE, pE, pE_md h a, pE_md h b, pE_md h c]
  | an a b => rw [pE, pE, pE_md h a, pE_md h b]
  | orr a b => rw [pE, pE, pE_md h a, pE_md h b]
  | ite c a b => rw [pE, pE, pE_md h a, pE_md h b, pE_md h c]
  | lst xs => rw [pE, pE, pL_md h xs]
  | tup xs => rw [pE, pE, pL_md h xs]
  | idx a b => rw [pE, pE, pE_md h a, pE_md h b]
  | slc a lo hi => rw [pE, pE, pE_md h a, pO_md h lo, pO_md h hi]
  | call f xs => rw [pE, pE, pL_md h xs, h]
  | blt x xs => rw [pE, pE, pL_md h xs]
  | isi a x => rw [pE, pE, pE_md h a]
  | isiN a x => rw [pE, pE, pE_md h a]
  | mxd a b => rw [pE, pE, pE_md h a, pE_md h b]
  | gv x => rfl
  | smt m o xs => rw [pE, pE, pE_md h o, pL_md h xs]
  | fld c k a => rw [pE, pE, pE_md h a]
  | dct ks xs => rw [pE, pE, pL_md h xs]
  | meth c f o xs => rw [pE, pE, pE_md h o, pL_md h xs, h]
  | new c f xs => rfl
  | lmt m o xs => rw [pE, pE, pE_md h o, pL_md h xs]
  | popE i ps k => rfl
  | isx a cs => rw [pE, pE, pE_md h a]
  | xfl a f => rw [pE, pE, pE_md h a]
  | comp _ _ _ _ => rfl
theorem pO_md {I J : CI} (h : I.md = J.md) : ∀ e : IO, pO I e = pO J e := fun e => by
  cases e with
  | no => rfl
  | so e => rw [pO, pO, pE_md h e]
theorem pL_md {I J : CI} (h : I.md = J.md) : ∀ e : IL, pL I e = pL J e := fun e => by
  cases e with
  | nil => rfl
  | cons e r => rw [pL, pL, pE_md h e, pL_md h r]
end
section
variable {PL : Pg} {n : Nat} {J : Xn → Env → Prop}
theorem pE0 (e : IE) : pE (Iof PL n) e = pE (Iof PL 0) e := pE_md (by rw [Iof_md, Iof_md]) e
theorem pO0 (e : IO) : pO (Iof PL n) e = pO (Iof PL 0) e := pO_md (by rw [Iof_md, Iof_md]) e
theorem pL0 (e : IL) : pL (Iof PL n) e = pL (Iof PL 0) e := pL_md (by rw [Iof_md, Iof_md]) e
def Gd (v p : Bool) (P : Prop) : Prop := (v = false ∨ p = true) ∧ P
theorem gk_l {t : T} {p : Bool} {P : Prop} [k : Nv t] (h : P) : Gd t.vw p P := ⟨.inl k.h, h⟩
theorem gk_r {v p : Bool} {P : Prop} (e : p = true) (h : P) : Gd v p P := ⟨.inr e, h⟩
theorem post_gd {α : Type} {v p : Bool} {k : Out α} {K : α → Env → Prop} (h : Gd v p (Post J k K)) : Post J (gd v p k) K := by
  obtain ⟨h1, h2⟩ := h
  unfold gd
  rcases h1 with h1 | h1 <;> rw [h1]
  · exact h2
  · cases v <;> exact h2
theorem post_noX {α : Type} {m : Out α} {K : α → Env → Prop} (h : Post (fun _ _ => False) m K) : Post J m.noX K := by cases m with | ok a e => exact h | exc x e => exact h.elim | stuck => exact h.elim
theorem post_bindN {α β : Type} {m : Out α} {f : α → Env → Out β} {K : β → Env → Prop} (h : Post (fun _ _ => False) m fun a e => Post J (f a e) K) : Post J (m.noX.bind f) K := by cases m with | ok a e => exact h | exc x e => exact h.elim | stuck => exact h.elim
theorem post_bind {α β : Type} {m : Out α} {f : α → Env → Out β} {K : β → Env → Prop} (h : Post J m fun a e => Post J (f a e) K) : Post J (m.bind f) K := by cases m <;> exact h
def OpK (o : Option T) (Q : T → Prop) : Prop := match o with | some t => Q t | none => False
theorem post_ofO {o : Option T} {e : Env} {Q : T → Env → Prop} (h : OpK o fun t => Q t e) : Post J (Out.ofO o e) Q := by cases o <;> exact h
theorem OpK.of {o : Option T} {t : T} {Q : T → Prop} (e : o = some t) (h : Q t) : OpK o Q := by rw [e]; exact h
variable {env : Env} {Q : T → Env → Prop}
theorem p_int {k : Int} (h : Q (.int k) env) : Post J (evE (Iof PL n) (.int k) env) Q := by rw [evE]; exact h
theorem p_bl {k : Bool} (h : Q (.bl k) env) : Post J (evE (Iof PL n) (.bl k) env) Q := by rw [evE]; exact h
theorem p_non (h : Q .non env) : Post J (evE (Iof PL n) .non env) Q := by rw [evE]; exact h
theorem p_str {s : Str} (h : Q (.str s) env) : Post J (evE (Iof PL n) (.str s) env) Q := by rw [evE]; exact h
theorem p_var {i : Nat} {t u : T} (e : env[i]? = some (some t)) [m : MapTo Fl.vie t u] (h : Q u env) : Post J (evE (Iof PL n) (.var i) env) Q := by rw [evE, e, ← m.h] at *; exact h
theorem p_mov {i : Nat} {t : T} {e' : Env} (e : env[i]? = some (some t)) (hs : env.set i none = e') (h : Q t e') : Post J (evE (Iof PL n) (.mov i) env) Q := by rw [evE, e, ← hs] at *; exact h
theorem p_bop {op : Operator} {a b : IE} (h : Post J (evE (Iof PL n) a env) fun x e1 => Gd x.vw (pE (Iof PL 0) b) (Post J (evE (Iof PL n) b e1) fun y e2 => OpK (bopT op x y) fun t => Q t e2)) : Post J (evE (Iof PL n) (.bop op a b) env) Q := by
  rw [evE]
  refine post_bind (h.imp fun x e1 _ h => post_gd ?_)
  rw [pE0]
  exact ⟨h.1, post_bind (h.2.imp fun y e2 _ h => post_ofO h)⟩
theorem p_neg {a : IE} (h : Post J (evE (Iof PL n) a env) fun x e1 => ∃ i, x = .int i ∧ Q (.int (-i)) e1) : Post J (evE (Iof PL n) (.neg a) env) Q := by
  rw [evE]
  refine post_bind (h.imp fun x e1 _ h => ?_)
  obtain ⟨i, rfl, h⟩ := h
  exact h
theorem p_nt {a : IE} (h : Post J (evE (Iof PL n) a env) fun x e1 => ∃ i, x = .bl i ∧ Q (.bl (!i)) e1) : Post J (evE (Iof PL n) (.nt a) env) Q := by
  rw [evE]
  refine post_bind (h.imp fun x e1 _ h => ?_)
  obtain ⟨i, rfl, h⟩ := h
  exact h
def OpB (o : Option Bool) (Q : Bool → Prop) : Prop := match o with | some t => Q t | none => False
theorem OpB.of {o : Option Bool} {t : Bool} {Q : Bool → Prop} (e : o = some t) (h : Q t) : OpB o Q := by rw [e]; exact h
theorem post_ofB {o : Option Bool} {e : Env} (h : OpB o fun t => Q (.bl t) e) : Post J (Out.ofO (o.map T.bl) e) Q := by cases o <;> exact h
theorem p_cmp {op : CmpOp} {a b : IE} (h : Post J (evE (Iof PL n) a env) fun x e1 => Gd x.vw (pE (Iof PL 0) b) (Post J (evE (Iof PL n) b e1) fun y e2 => OpB (cmpT op x y) fun t => Q (.bl t) e2)) : Post J (evE (Iof PL n) (.cmp op a b) env) Q := by
  rw [evE]
  refine post_bind (h.imp fun x e1 _ h => post_gd ?_)
  rw [pE0]
  exact ⟨h.1, post_bind (h.2.imp fun y e2 _ h => post_ofB h)⟩
theorem p_cmp2 {op op' : CmpOp} {a b c : IE} (h : Post J (evE (Iof PL n) a env) fun x e1 => Gd x.vw (pE (Iof PL 0) b) (Post J (evE (Iof PL n) b e1) fun y e2 => OpB (cmpT op x y) fun t => (t = true → Gd (x.vw || y.vw) (pE (Iof PL 0) c) (Post J (evE (Iof PL n) c e2) fun z e3 => OpB (cmpT op' y z) fun t => Q (.bl t) e3)) ∧ (t = false → Q (.bl false) e2))) : Post J (evE (Iof PL n) (.cmp2 op op' a b c) env) Q := by
  rw [evE]
  refine post_bind (h.imp fun x e1 _ h => post_gd ?_)
  rw [pE0]
  refine ⟨h.1, post_bind (h.2.imp fun y e2 _ h => ?_)⟩
  cases e : cmpT op x y with
  | none => rw [e] at h; exact h
  | some t =>
    rw [e] at h
    cases t with
    | false => exact h.2 rfl
    | true =>
      have h := h.1 rfl
      show Post J (gd _ _ _) Q
      refine post_gd ?_
      rw [pE0]
      exact ⟨h.1, post_bind (h.2.imp fun z e3 _ h => post_ofB h)⟩
/-- by a truth -/
def CondK (x : T) (A B : Prop) : Prop := ∃ c, x = .bl c ∧ (c = true → A) ∧ (c = false → B)
theorem CondK.out {α : Type} {x : T} {A B S : α} {P : α → Prop} (h : CondK x (P A) (P B)) : P (x.cond A B S) := by
  obtain ⟨c, rfl, h1, h2⟩ := h
  cases c with
  | true => exact h1 rfl
  | false => exact h2 rfl
theorem condK {c : Bool} {A B : Prop} (h : c = true → A) (h2 : c = false → B) : CondK (.bl c) A B := ⟨c, rfl, h, h2⟩
theorem p_an {a b : IE} (h : Post J (evE (Iof PL n) a env) fun x e1 => CondK x (Post J (evE (Iof PL n) b e1) Q) (Q (.bl false) e1)) : Post J (evE (Iof PL n) (.an a b) env) Q := by
  rw [evE]
  exact post_bind (h.imp fun x e1 _ h => CondK.out (P := fun o => Post J o Q) h)
theorem p_orr {a b : IE} (h : Post J (evE (Iof PL n) a env) fun x e1 => CondK x (Q (.bl true) e1) (Post J (evE (Iof PL n) b e1) Q)) : Post J (evE (Iof PL n) (.orr a b) env) Q := by
  rw [evE]
  exact post_bind (h.imp fun x e1 _ h => CondK.out (P := fun o => Post J o Q) h)
theorem p_ite {c a b : IE} (h : Post J (evE (Iof PL n) c env) fun x e1 => CondK x (Post J (evE (Iof PL n) a e1) Q) (Post J (evE (Iof PL n) b e1) Q)) : Post J (evE (Iof PL n) (.ite c a b) env) Q := by
  rw [evE]
  exact post_bind (h.imp fun x e1 _ h => CondK.out (P := fun o => Post J o Q) h)
def VL (ts : List T) (P : Prop) : Prop := vwL ts = false ∧ ts.length ≤ LIM ∧ P
theorem vl {ts : List T} {P : Prop} [k : NvL ts] (h : ts.length ≤ LIM) (p : P) : VL ts P := ⟨k.h, h, p⟩
theorem p_lst {xs : IL} (h : Post J (evL (Iof PL n) xs env) fun ts e1 => VL ts (Q (.lst .own ts) e1)) : Post J (evE (Iof PL n) (.lst xs) env) Q := by
  rw [evE]
  refine post_bind (h.imp fun ts e1 _ h => ?_)
  rw [h.1, decide_eq_true h.2.1]
  exact h.2.2
theorem p_tup {xs : IL} (h : Post J (evL (Iof PL n) xs env) fun ts e1 => ts.length ≤ LIM ∧ (Q (.tup ts) e1)) : Post J (evE (Iof PL n) (.tup xs) env) Q := by
  rw [evE]
  refine post_bind (h.imp fun ts e1 _ h => ?_)
  rw [decide_eq_true h.1]
  exact h.2
theorem p_idx {a b : IE} (h : Post J (evE (Iof PL n) a env) fun x e1 => Gd x.vw (pE (Iof PL 0) b) (Post J (evE (Iof PL n) b e1) fun y e2 => OpK (idxT x y) fun t => Q t e2)) : Post J (evE (Iof PL n) (.idx a b) env) Q := by
  rw [evE]
  refine post_bind (h.imp fun x e1 _ h => post_gd ?_)
  rw [pE0]
  exact ⟨h.1, post_bind (h.2.imp fun y e2 _ h => post_ofO h)⟩
theorem p_slc {a : IE} {lo hi : IO} (h : Post J (evE (Iof PL n) a env) fun x e1 => Gd x.vw (pO (Iof PL 0) lo && pO (Iof PL 0) hi) (Post (fun _ _ => False) (evO (Iof PL n) lo e1) fun l e2 => Post (fun _ _ => False) (evO (Iof PL n) hi e2) fun u e3 => OpK (slcT x l u) fun t => Q t e3)) : Post J (evE (Iof PL n) (.slc a lo hi) env) Q := by
  rw [evE]
  refine post_bind (h.imp fun x e1 _ h => post_gd ?_)
  rw [pO0 lo, pO0 hi]
  exact ⟨h.1, post_bindN (h.2.imp fun y e2 _ h => post_bindN (h.imp fun u e3 _ h => post_ofO h))⟩
theorem p_blt {x : Str} {xs : IL} (h : Post J (evL (Iof PL n) xs env) fun ts e1 => OpK (bltT x ts) fun t => Q t e1) : Post J (evE (Iof PL n) (.blt x xs) env) Q := by
  rw [evE]
  exact post_bind (h.imp fun ts e1 _ h => post_ofO h)
theorem p_isi {a : IE} {x : Str} (h : Post J (evE (Iof PL n) a env) fun t e1 => OpB (isiT t x) fun b => Q (.bl b) e1) : Post J (evE (Iof PL n) (.isi a x) env) Q := by
  rw [evE]
  exact post_bind (h.imp fun ts e1 _ h => post_ofB h)
theorem p_isiN {a : IE} {xs : List Str} (h : Post J (evE (Iof PL n) a env) fun t e1 => OpB (isiNT t xs) fun b => Q (.bl b) e1) : Post J (evE (Iof PL n) (.isiN a xs) env) Q := by
  rw [evE]
  exact post_bind (h.imp fun ts e1 _ h => post_ofB h)
theorem p_mxd {a b : IE} (h : Post J (evE (Iof PL n) a env) fun x e1 => Gd x.vw (pE (Iof PL 0) b) (Post J (evE (Iof PL n) b e1) fun y e2 => OpK (mxdT x y) fun t => Q t e2)) : Post J (evE (Iof PL n) (.mxd a b) env) Q := by
  rw [evE]
  refine post_bind (h.imp fun x e1 _ h => post_gd ?_)
  rw [pE0]
  exact ⟨h.1, post_bind (h.2.imp fun y e2 _ h => post_ofO h)⟩
theorem p_smt {m : Str} {o : IE} {xs : IL} (h : Post J (evE (Iof PL n) o env) fun x e1 => Gd x.vw (pL (Iof PL 0) xs) (Post (fun _ _ => False) (evL (Iof PL n) xs e1) fun ts e2 => OpK (smtT m x ts) fun t => Q t e2)) : Post J (evE (Iof PL n) (.smt m o xs) env) Q := by
  rw [evE]
  refine post_bind (h.imp fun x e1 _ h => post_gd ?_)
  rw [pL0]
  exact ⟨h.1, post_bindN (h.2.imp fun y e2 _ h => post_ofO h)⟩
theorem p_gv {x : Str} {t : T} (e : PL.gs.lookup x = some t) (h : Q t env) : Post J (evE (Iof PL n) (.gv x) env) Q := by
  rw [evE, Iof_gl]
  show Post J (Out.ofO (PL.gs.lookup x) env) Q
  rw [e]
  exact h
theorem p_no {Q : Option T → Env → Prop} (h : Q none env) : Post J (evO (Iof PL n) .no env) Q := by rw [evO]; exact h
theorem p_so {e : IE} {Q : Option T → Env → Prop} (h : Post J (evE (Iof PL n) e env) fun t e1 => Q (some t) e1) : Post J (evO (Iof PL n) (.so e) env) Q := by
  rw [evO]
  exact post_bind (h.imp fun ts e1 _ h => h)
theorem p_cno {Q : Bool → Env → Prop} (h : Q true env) : Post J (evC (Iof PL n) .no env) Q := by rw [evC]; exact h
theorem p_cso {e : IE} {Q : Bool → Env → Prop} (h : Post J (evE (Iof PL n) e env) fun t e1 => ∃ b, t = .bl b ∧ Q b e1) : Post J (evC (Iof PL n) (.so e) env) Q := by
  rw [evC]
  refine post_bind (h.imp fun ts e1 _ h => ?_)
  obtain ⟨b, rfl, h⟩ := h
  exact h
theorem p_lnil {Q : List T → Env → Prop} (h : Q [] env) : Post J (evL (Iof PL n) .nil env) Q := by rw [evL]; exact h
theorem p_lcons {e : IE} {r : IL} {Q : List T → Env → Prop} (h : Post J (evE (Iof PL n) e env) fun x e1 => Gd x.vw (pL (Iof PL 0) r) (Post J (evL (Iof PL n) r e1) fun xs e2 => Q (x :: xs) e2)) : Post J (evL (Iof PL n) (.cons e r) env) Q := by
  rw [evL]
  refine post_bind (h.imp fun x e1 _ h => post_gd ?_)
  rw [pL0]
  exact ⟨h.1, post_bind (h.2.imp fun y e2 _ h => h)⟩
theorem p_anil {ms : List Md} {Q : List T → Env → Prop} (h : Q [] env) : Post J (evA (Iof PL n) ms .nil env) Q := by cases ms with | nil => rw [evA]; exact h | cons m ms => cases m <;> exact h
theorem p_abor {ms : List Md} {e : IE} {r : IL} {Q : List T → Env → Prop} (h : Post J (evE (Iof PL n) e env) fun x e1 => Gd x.vw (pL (Iof PL 0) r) (Post J (evA (Iof PL n) ms r e1) fun xs e2 => Q (x :: xs) e2)) : Post J (evA (Iof PL n) (.bor :: ms) (.cons e r) env) Q := by
  rw [evA]
  · refine post_bind (h.imp fun x e1 _ h => post_gd ?_)
    rw [pL0]
    exact ⟨h.1, post_bind (h.2.imp fun y e2 _ h => h)⟩
  all_goals (intros; first | contradiction | simp_all)
theorem p_afrz {ms : List Md} {e : IE} {r : IL} {Q : List T → Env → Prop} (h : Post J (evE (Iof PL n) e env) fun x e1 => Gd x.vw (pL (Iof PL 0) r) (Post J (evA (Iof PL n) ms r e1) fun xs e2 => Q (x :: xs) e2)) : Post J (evA (Iof PL n) (.frz :: ms) (.cons e r) env) Q := by
  rw [evA]
  · refine post_bind (h.imp fun x e1 _ h => post_gd ?_)
    rw [pL0]
    exact ⟨h.1, post_bind (h.2.imp fun y e2 _ h => h)⟩
  all_goals (intros; first | contradiction | simp_all)
theorem p_aio {ms : List Md} {i : Nat} {t : T} {r : IL} {Q : List T → Env → Prop} (e : env[i]? = some (some t)) (h : Post J (evA (Iof PL n) ms r env) fun xs e2 => Q (.non :: xs) e2) : Post J (evA (Iof PL n) (.io :: ms) (.cons (.var i) r) env) Q := by
  rw [evA, e]
  exact post_bind (h.imp fun xs e2 _ h => h)
/-! calls -/
def CIs (m : COut) (Q : T → List T → Prop) (E : Xn → List T → Prop := fun _ _ => False) : Prop := match m with | .ok t ios => Q t ios | .exc x ios => E x ios | .stuck => False
theorem CIs.imp {m : COut} {Q Q' : T → List T → Prop} {E : Xn → List T → Prop} (h : CIs m Q) (k : ∀ t ios, Q t ios → Q' t ios) : CIs m Q' E := by cases m with | ok t ios => exact k _ _ h | exc x ios => exact h.elim | stuck => exact h
theorem CIs.impX {m : COut} {Q Q' : T → List T → Prop} {E E' : Xn → List T → Prop} (h : CIs m Q E) (k : ∀ t ios, Q t ios → Q' t ios) (j : ∀ x ios, E x ios → E' x ios) : CIs m Q' E' := by cases m with | ok t ios => exact k _ _ h | exc x ios => exact j _ _ h | stuck => exact h
theorem CIs.ok {m : COut} {t : T} {ios : List T} (h : CIs m fun u v => u = t ∧ v = ios) : m = .ok t ios := by cases m with | ok a b => obtain ⟨rfl, rfl⟩ := h; rfl | exc x ios => exact h.elim | stuck => exact h.elim
theorem CIs.of {m : COut} {t : T} {ios : List T} {Q : T → List T → Prop} {E : Xn → List T → Prop} (h : m = .ok t ios) (q : Q t ios) : CIs m Q E := by rw [h]; exact q
theorem run_clean {f : Nat} {us : List T} {t : T} {ios : List T} (h : (Iof PL n).run f us = .ok t ios) : t.vw = false ∧ t.hasBrw = false := by
  cases n with
  | zero => cases h
  | succ n =>
    change (match PL.fs[f]? with | some d => runFn (Iof PL n) d us | none => .stuck) = _ at h
    cases e : PL.fs[f]? with
    | none => rw [e] at h; cases h
    | some d =>
      rw [e] at h
      change runFn (Iof PL n) d us = _ at h
      unfold runFn at h
      split at h
      · split at h
        · rename_i hb
          split at h
          · cases h
          · rename_i nb
            split at h
            · cases h
              simpa using nb
            · cases h
        · split at h
          · cases h; exact ⟨rfl, rfl⟩
          · cases h
        · split at h <;> cases h
        · cases h
      · cases h
def PrepK (ms : List Md) (xs : IL) (ts : List T) (env : Env) (K : List T → Env → Prop) : Prop := match prep ms xs ts env with | some p => K p.1 p.2 | none => False
theorem pk_nil {K : List T → Env → Prop} (h : K [] env) : PrepK [] .nil [] env K := h
theorem pk_map {o : Option (List T × Env)} {u : T} {K : List T → Env → Prop} (h : match o with | some p => K (u :: p.1) p.2 | none => False) : match o.map (fun p => (u :: p.1, p.2)) with | some p => K p.1 p.2 | none => False := by cases o <;> exact h
theorem pk_bor {ms : List Md} {x : IE} {r : IL} {t u : T} {ts : List T} {K : List T → Env → Prop} [m : MapTo Fl.bor t u] (h : PrepK ms r ts env fun us e => K (u :: us) e) : PrepK (.bor :: ms) (.cons x r) (t :: ts) env K := by
  unfold PrepK
  rw [prep, m.h]
  exact pk_map h
theorem pk_frz {ms : List Md} {x : IE} {r : IL} {t u : T} {ts : List T} {K : List T → Env → Prop} [v : Nv t] [m : MapTo Fl.fre t u] (h : PrepK ms r ts env fun us e => K (u :: us) e) : PrepK (.frz :: ms) (.cons x r) (t :: ts) env K := by
  unfold PrepK
  rw [prep, m.h, v.h]
  exact pk_map h
theorem pk_io {ms : List Md} {i : Nat} {r : IL} {t u : T} {ts : List T} {e1 : Env} {K : List T → Env → Prop} (e : env[i]? = some (some u)) (hs : env.set i none = e1) (h : PrepK ms r ts e1 fun us e => K (u :: us) e) : PrepK (.io :: ms) (.cons (.var i) r) (t :: ts) env K := by
  unfold PrepK
  rw [prep, e, hs]
  exact pk_map h
def PutK (ms : List Md) (xs : IL) (ts : List T) (env : Env) (K : Env → Prop) : Prop := match putb ms xs ts env with | some p => K p | none => False
theorem pu_nil {K : Env → Prop} (h : K env) : PutK [] .nil [] env K := h
theorem pu_bor {ms : List Md} {x : IE} {r : IL} {ts : List T} {K : Env → Prop} (h : PutK ms r ts env K) : PutK (.bor :: ms) (.cons x r) ts env K := by
  unfold PutK
  rw [putb]
  exact h
theorem pu_frz {ms : List Md} {x : IE} {r : IL} {ts : List T} {K : Env → Prop} (h : PutK ms r ts env K) : PutK (.frz :: ms) (.cons x r) ts env K := by
  unfold PutK
  rw [putb]
  exact h
theorem pu_io {ms : List Md} {i : Nat} {r : IL} {t : T} {ts : List T} {e1 : Env} {K : Env → Prop} [v : Nv t] [b : Nb t] (hs : env.set i (some t) = e1) (h : PutK ms r ts e1 K) : PutK (.io :: ms) (.cons (.var i) r) (t :: ts) env K := by
  unfold PutK
  rw [putb, v.h, b.h, hs]
  exact h
def CallG (ms : List Md) (ts : List T) (P : Prop) : Prop := (anyIo ms && vwBor ms ts) = false ∧ P
theorem cg_l {ms : List Md} {ts : List T} {P : Prop} (e : anyIo ms = false) (h : P) : CallG ms ts P := ⟨by rw [e]; rfl, h⟩
theorem cg_r {ms : List Md} {ts : List T} {P : Prop} (e : vwBor ms ts = false) (h : P) : CallG ms ts P := ⟨by rw [e, Bool.and_false], h⟩
def CallT (PL : Pg) (n f : Nat) (ms : List Md) (xs : IL) (ts : List T) (env : Env) (Q : T → Env → Prop) (J : Xn → Env → Prop) : Prop := CallG ms ts (PrepK ms xs ts env fun us e2 => CIs ((Iof PL n).run f us) (fun t ios => PutK ms xs ios e2 fun e3 => Q t e3) fun x ios => PutK ms xs ios e2 fun e3 => J x e3)
theorem call_tail {f : Nat} {xs : IL} {ms : List Md} {ts : List T} {e1 : Env} (hm : mdOf PL f = ms) (h : CallT PL n f ms xs ts e1 Q J) : Post J (callT (Iof PL n) f xs ts e1) Q := by
  have hm' : (Iof PL n).md f = ms := by rw [Iof_md]; exact hm
  unfold CallT at h
  unfold callT
  rw [hm', h.1]
  obtain ⟨_, h⟩ := h
  unfold PrepK at h
  cases e : prep ms xs ts e1 with
  | none => rw [e] at h; exact h.elim
  | some p =>
    obtain ⟨us, e2⟩ := p
    rw [e] at h
    dsimp only at h ⊢
    cases e3 : (Iof PL n).run f us with
    | stuck => rw [e3] at h; exact h.elim
    | exc x ios =>
      rw [e3] at h
      show Post J (if (false = true) then _ else _) Q
      rw [if_neg (by simp)]
      dsimp only
      change PutK ms xs ios e2 fun e3 => J x e3 at h
      unfold PutK at h
      cases e4 : putb ms xs ios e2 with
      | none => rw [e4] at h; exact h.elim
      | some e5 => rw [e4] at h; exact h
    | ok t ios =>
      rw [e3] at h
      obtain ⟨c1, c2⟩ := run_clean e3
      show Post J (if (false = true) then _ else _) Q
      rw [if_neg (by simp)]
      dsimp only
      rw [c1, c2]
      show Post J (match putb ms xs ios e2 with | none => _ | some e2 => _) Q
      change PutK ms xs ios e2 fun e3 => Q t e3 at h
      unfold PutK at h
      cases e4 : putb ms xs ios e2 with
      | none => rw [e4] at h; exact h.elim
      | some e5 => rw [e4] at h; exact h
theorem p_call {f : Nat} {xs : IL} {ms : List Md} (hm : mdOf PL f = ms) (h : Post J (evA (Iof PL n) ms xs env) fun ts e1 => CallG ms ts (PrepK ms xs ts e1 fun us e2 => CIs ((Iof PL n).run f us) (fun t ios => PutK ms xs ios e2 fun e3 => Q t e3) fun x ios => PutK ms xs ios e2 fun e3 => J x e3)) : Post J (evE (Iof PL n) (.call f xs) env) Q := by
  have hm' : (Iof PL n).md f = ms := by rw [Iof_md]; exact hm
  rw [evE, hm']
  exact post_bind (h.imp fun ts e1 _ h => call_tail hm h)
/-! fields, displays, methods, new instances -/
theorem p_fld {c k : Nat} {a : IE} (h : Post J (evE (Iof PL n) a env) fun x e1 => OpK (fldT c k x) fun t => Q t e1) : Post J (evE (Iof PL n) (.fld c k a) env) Q := by
  rw [evE]
  exact post_bind (h.imp fun x e1 _ h => post_ofO h)
theorem p_dct {ks : List Str} {xs : IL} (h : Post J (evL (Iof PL n) xs env) fun ts e1 => (vwL ts = false ∧ ts.length = ks.length ∧ (ks.map Sum.inr : List Key).Nodup ∧ ts.length ≤ 15) ∧ Q (.dic .own (ks.map Sum.inr) ts) e1) : Post J (evE (Iof PL n) (.dct ks xs) env) Q := by
  rw [evE]
  refine post_bind (h.imp fun ts e1 _ h => ?_)
  obtain ⟨⟨h1, h2, h3, h4⟩, h⟩ := h
  rw [h1, decide_eq_true h2, decide_eq_true h3, decide_eq_true h4]
  exact h
/-- a method that changes its instance: it stands in a slot -/
theorem p_methio {c f i : Nat} {xs : IL} {ms : List Md} {vs : List T} (hm : mdOf PL f = .io :: ms) (e : env[i]? = some (some (.ins .own c vs)))
    (h : Post J (evA (Iof PL n) ms xs env) fun ts e2 => CallT PL n f (.io :: ms) (.cons (.var i) xs) (.non :: ts) e2 Q J) : Post J (evE (Iof PL n) (.meth c f (.var i) xs) env) Q := by
  have hm' : (Iof PL n).md f = .io :: ms := by rw [Iof_md]; exact hm
  rw [evE, hm']
  dsimp only
  rw [e]
  dsimp only
  rw [if_pos rfl]
  exact post_bind (h.imp fun ts e1 _ h => call_tail hm h)
theorem p_meth {c f : Nat} {o : IE} {xs : IL} {m : Md} {ms : List Md} (hm : mdOf PL f = m :: ms) (hn : m ≠ .io)
    (h : Post J (evE (Iof PL n) o env) fun x e1 => isC c x = true ∧ Gd x.vw (pL (Iof PL 0) xs) (Post J (evA (Iof PL n) ms xs e1) fun ts e2 => CallT PL n f (m :: ms) (.cons o xs) (x :: ts) e2 Q J)) : Post J (evE (Iof PL n) (.meth c f o xs) env) Q := by
  have hm' : (Iof PL n).md f = m :: ms := by rw [Iof_md]; exact hm
  rw [evE, hm']
  have key : Post J ((evE (Iof PL n) o env).bind fun x e1 => if isC c x then gd x.vw (pL (Iof PL n) xs) ((evA (Iof PL n) ms xs e1).bind fun ts e2 => callT (Iof PL n) f (.cons o xs) (x :: ts) e2) else .stuck) Q := by
    refine post_bind (h.imp fun x e1 _ h => ?_)
    rw [if_pos h.1]
    refine post_gd ?_
    rw [pL0]
    exact ⟨h.2.1, post_bind (h.2.2.imp fun ts e2 _ h => call_tail hm h)⟩
  cases m with
  | io => exact absurd rfl hn
  | bor => exact key
  | frz => exact key
def NewK (PL : Pg) (n c f : Nat) (ms : List Md) (xs : IL) (ts : List T) (env : Env) (Q : T → Env → Prop) (J : Xn → Env → Prop) : Prop := (anyIo ms = false ∧ vwBor ms ts = false) ∧ PrepK ms xs ts env fun us e2 => CIs ((Iof PL n).run f (.ins .own c [] :: us)) (fun r ios => r = .non ∧ ∃ t, ios = [t] ∧ t.vw = false ∧ t.hasBrw = false ∧ isC c t = true ∧ Q t e2) fun x ios => ∃ t, ios = [t] ∧ t.vw = false ∧ t.hasBrw = false ∧ J x e2
theorem p_new {c f : Nat} {xs : IL} {ms : List Md} (hm : mdOf PL f = .io :: ms) (h : Post J (evA (Iof PL n) ms xs env) fun ts e1 => NewK PL n c f ms xs ts e1 Q J) : Post J (evE (Iof PL n) (.new c f xs) env) Q := by
  have hm' : (Iof PL n).md f = .io :: ms := by rw [Iof_md]; exact hm
  rw [evE, hm']
  refine post_bind (h.imp fun ts e1 _ h => ?_)
  unfold newT
  rw [hm']
  dsimp only
  obtain ⟨⟨h1, h2⟩, h⟩ := h
  rw [h1, h2]
  unfold PrepK at h
  cases e : prep ms xs ts e1 with
  | none => rw [e] at h; exact h.elim
  | some p =>
    obtain ⟨us, e2⟩ := p
    rw [e] at h
    dsimp only at h ⊢
    cases e3 : (Iof PL n).run f (.ins .own c [] :: us) with
    | stuck => rw [e3] at h; exact h.elim
    | exc x ios =>
      rw [e3] at h
      obtain ⟨u, rfl, h3, h4, h⟩ := h
      show Post J (if (false = true) then _ else _) Q
      rw [if_neg (by simp)]
      dsimp only
      rw [h3, h4]
      exact h
    | ok t ios =>
      rw [e3] at h
      obtain ⟨rfl, u, rfl, h3, h4, h5, h⟩ := h
      show Post J (if (false = true) then _ else _) Q
      rw [if_neg (by simp)]
      dsimp only
      rw [h3, h4, h5]
      exact h
/-! statements -/
variable {N : Env → Prop} {R : T → Env → Prop}
theorem s_bind {m : SOut} {f : Env → SOut} (h : PostS J m (fun e => PostS J (f e) N R) R) : PostS J (m.bind f) N R := by cases m <;> exact h
theorem s_thn {α : Type} {m : Out α} {f : α → Env → SOut} (h : Post J m fun a e => PostS J (f a e) N R) : PostS J (m.thn f) N R := by cases m <;> exact h
theorem s_nil (h : N env) : PostS J (exB (Iof PL n) .nil env) N R := by rw [exB]; exact h
theorem s_cons {s : IS} {r : IB} (h : PostS J (exS (Iof PL n) s env) (fun e => PostS J (exB (Iof PL n) r e) N R) R) : PostS J (exB (Iof PL n) (.cons s r) env) N R := by rw [exB]; exact s_bind h
def PutV (t : T) (i : Nat) (e : Env) (K : Env → Prop) : Prop := t.vw = false ∧ i < e.length ∧ K (e.set i (some t))
theorem putv {t : T} {i : Nat} {e e' : Env} {K : Env → Prop} [v : Nv t] (hs : e.set i (some t) = e') (hl : i < e.length) (h : K e') : PutV t i e K := ⟨v.h, hl, by rw [hs]; exact h⟩
def FreK (t : T) (K : T → Prop) : Prop := K (t.mapF Fl.fre)
theorem frek {t u : T} {K : T → Prop} [m : MapTo Fl.fre t u] (h : K u) : FreK t K := by unfold FreK; rw [m.h]; exact h
theorem s_put {i : Nat} {t : T} (h : PutV t i env N) : PostS J (putS i t env) N R := by
  unfold putS
  rw [h.1, decide_eq_true h.2.1]
  exact h.2.2
theorem s_setv {i : Nat} {e : IE} (h : Post J (evE (Iof PL n) e env) fun t e1 => PutV t i e1 N) : PostS J (exS (Iof PL n) (.setv i e) env) N R := by
  rw [exS]
  exact s_thn (h.imp fun t e1 _ h => s_put h)
theorem s_setf {i : Nat} {e : IE} (h : Post J (evE (Iof PL n) e env) fun t e1 => FreK t fun u => PutV u i e1 N) : PostS J (exS (Iof PL n) (.setf i e) env) N R := by
  rw [exS]
  exact s_thn (h.imp fun t e1 _ h => s_put h)
theorem s_expr {e : IE} (h : Post J (evE (Iof PL n) e env) fun t e1 => N e1) : PostS J (exS (Iof PL n) (.expr e) env) N R := by
  rw [exS]
  exact s_thn (h.imp fun t e1 _ h => h)
theorem s_seti {i : Nat} {k e : IE} (h : Post J (evE (Iof PL n) e env) fun t e1 => t.vw = false ∧ (∃ u0, e1[i]? = some (some u0)) ∧ Post J (evE (Iof PL n) k e1) fun kk e2 => kk.vw = false ∧ ∃ u, e2[i]? = some (some u) ∧ OpK (setT u kk t) fun u' => N (e2.set i (some u'))) :
    PostS J (exS (Iof PL n) (.seti i k e) env) N R := by
  rw [exS]
  refine s_thn (h.imp fun t e1 _ h => ?_)
  obtain ⟨h1, ⟨u0, h2⟩, h⟩ := h
  rw [if_neg (by rw [h1]; simp), h2]
  refine s_thn (h.imp fun kk e2 _ h => ?_)
  obtain ⟨h3, u, h4, h⟩ := h
  rw [if_neg (by rw [h3]; simp), h4]
  dsimp only
  cases e : setT u kk t with
  | none => rw [e] at h; exact h
  | some u' => rw [e] at h; exact h
def MutK (o : Option (List T)) (Q : List T → Prop) : Prop := match o with | some t => Q t | none => False
theorem MutK.of {o : Option (List T)} {t : List T} {Q : List T → Prop} (e : o = some t) (h : Q t) : MutK o Q := by rw [e]; exact h
theorem s_mut {m : Str} {i : Nat} {xs : IL} {zs : List T} (e : env[i]? = some (some (.lst .own zs))) (h : Post J (evL (Iof PL n) xs env) fun ts e1 => ∃ ys, e1[i]? = some (some (.lst .own ys)) ∧ MutK (mutT m ys ts) fun zs => N (e1.set i (some (.lst .own zs)))) :
    PostS J (exS (Iof PL n) (.mut m i xs) env) N R := by
  rw [exS, e]
  refine s_thn (h.imp fun ts e1 _ h => ?_)
  obtain ⟨ys, h1, h⟩ := h
  rw [h1]
  dsimp only
  cases e : mutT m ys ts with
  | none => rw [e] at h; exact h
  | some u' => rw [e] at h; exact h
theorem s_ite {c : IE} {a b : IB} (h : Post J (evE (Iof PL n) c env) fun x e1 => CondK x (PostS J (exB (Iof PL n) a e1) N R) (PostS J (exB (Iof PL n) b e1) N R)) : PostS J (exS (Iof PL n) (.ite c a b) env) N R := by
  rw [exS]
  exact s_thn (h.imp fun x e1 _ h => CondK.out (P := fun o => PostS J o N R) h)
theorem s_ret {e : IE} (h : Post J (evE (Iof PL n) e env) fun t e1 => t.vw = false ∧ R t e1) : PostS J (exS (Iof PL n) (.ret e) env) N R := by
  rw [exS]
  refine s_thn (h.imp fun t e1 _ h => ?_)
  rw [if_neg (by rw [h.1]; simp)]
  exact h.2
theorem s_retN (h : R .non env) : PostS J (exS (Iof PL n) .retN env) N R := by rw [exS]; exact h
/-- what may be raised in a loop -/
def JK (it : IT) (J : Xn → Env → Prop) : Xn → Env → Prop := match it with | .keys _ _ => fun _ _ => False | .enuK _ _ => fun _ _ => False | _ => J
theorem s_noK {m : SOut} {it : IT} (h : PostS (JK it J) m N R) : PostS J (m.noK it) N R := by
  cases m with
  | next e => rw [SOut.noK_next]; exact h
  | ret t e => rw [SOut.noK_ret]; exact h
  | exc x e => cases it <;> first | exact h | exact h.elim
  | stuck => cases it <;> exact h
theorem s_for {tg : List Nat} {it : IT} {body : IB} (h : Post J (evIT (Iof PL n) it env) fun items e1 => PostS (JK it J) (forLoop (fun e => exB (Iof PL n) body e) tg items e1) N R) : PostS J (exS (Iof PL n) (.forr tg it body) env) N R := by
  rw [exS]
  exact s_thn (h.imp fun items e1 _ h => s_noK h)
def AtK (i : Nat) (ps : List PX) (env : Env) (g : T → Option T) (N : Env → Prop) : Prop := ∃ t p c c', env[i]? = some (some t) ∧ resP env ps = some p ∧ getP p t = some c ∧ g c = some c' ∧ N (env.set i (some (setP p t c')))
theorem s_at {i : Nat} {ps : List PX} {g : T → Option T} (h : AtK i ps env g N) : PostS J (atPl i ps env g) N R := by
  obtain ⟨t, p, c, c', h1, h2, h3, h4, h⟩ := h
  unfold atPl
  rw [h1, h2]
  dsimp only
  rw [h3]
  dsimp only
  rw [h4]
  exact h
theorem s_pass (h : N env) : PostS J (exS (Iof PL n) .pass env) N R := by rw [exS]; exact h
theorem s_setp {i : Nat} {ps : List PX} {k e : IE} (h : Post J (evE (Iof PL n) e env) fun t e1 => t.vw = false ∧ Post (fun _ _ => False) (evE (Iof PL n) k (lend e1)) fun kk _ => AtK i ps e1 (fun u => setK u kk t) N) : PostS J (exS (Iof PL n) (.setp i ps k e) env) N R := by
  rw [exS]
  refine s_thn (h.imp fun t e1 _ h => ?_)
  rw [if_neg (by rw [h.1]; simp)]
  have h := h.2
  cases e2 : evE (Iof PL n) k (lend e1) with
  | stuck => rw [e2] at h; exact h.elim
  | exc _ _ => rw [e2] at h; exact h.elim
  | ok kk e3 => rw [e2] at h; exact s_at h
theorem s_seta {i : Nat} {ps : List PX} {c k : Nat} {e : IE} (h : Post J (evE (Iof PL n) e env) fun t e1 => t.vw = false ∧ AtK i ps e1 (fun u => setF c k u t) N) : PostS J (exS (Iof PL n) (.seta i ps c k e) env) N R := by
  rw [exS]
  refine s_thn (h.imp fun t e1 _ h => ?_)
  rw [if_neg (by rw [h.1]; simp)]
  exact s_at h.2
theorem s_mutp {m : Str} {i : Nat} {ps : List PX} {xs : IL} (h : Post (fun _ _ => False) (evL (Iof PL n) xs (lend env)) fun ts _ => clean ts = true ∧ AtK i ps env (fun u => match u with | .lst .own ys => (mutT m ys ts).map (T.lst .own) | _ => none) N) : PostS J (exS (Iof PL n) (.mutp m i ps xs) env) N R := by
  rw [exS]
  cases e2 : evL (Iof PL n) xs (lend env) with
  | stuck => rw [e2] at h; exact h.elim
  | exc _ _ => rw [e2] at h; exact h.elim
  | ok ts e3 =>
    rw [e2] at h
    dsimp only
    rw [if_pos h.1]
    exact s_at h.2
/-! what a for walks -/
variable {QI : List T → Env → Prop}
def ItK (o : Option (List T)) (Q : List T → Prop) : Prop := match o with | some t => Q t | none => False
theorem ItK.of {o : Option (List T)} {t : List T} {Q : List T → Prop} (e : o = some t) (h : Q t) : ItK o Q := by rw [e]; exact h
theorem i_seq {a : IE} (h : Post (fun _ _ => False) (evE (Iof PL n) a env) fun x e1 => x.vw = false ∧ FreK x fun u => ItK (itemsT u) fun ts => QI ts e1) : Post J (evIT (Iof PL n) (.seq a) env) QI := by
  rw [evIT]
  refine post_bindN (h.imp fun x e1 _ h => ?_)
  rw [if_neg (by rw [h.1]; simp)]
  have h : ItK (itemsT (x.mapF Fl.fre)) fun ts => QI ts e1 := h.2
  unfold ItK at h
  cases e : itemsT (x.mapF Fl.fre) with
  | none => rw [e] at h; exact h
  | some u => rw [e] at h; exact h
theorem i_rng1 {a : IE} (h : Post (fun _ _ => False) (evE (Iof PL n) a env) fun x e1 => ∃ k, x = .int k ∧ int62 k ∧ QI (rngT 0 k) e1) : Post J (evIT (Iof PL n) (.rng1 a) env) QI := by
  rw [evIT]
  refine post_bindN (h.imp fun x e1 _ h => ?_)
  obtain ⟨k, rfl, h, q⟩ := h
  dsimp only
  rw [if_pos h]
  exact q
theorem i_rng2 {a b : IE} (h : Post (fun _ _ => False) (evE (Iof PL n) a env) fun x e1 => Gd x.vw (pE (Iof PL 0) b) (Post (fun _ _ => False) (evE (Iof PL n) b e1) fun y e2 => ∃ k m, x = .int k ∧ y = .int m ∧ (int62 k ∧ int62 m) ∧ QI (rngT k m) e2)) : Post J (evIT (Iof PL n) (.rng2 a b) env) QI := by
  rw [evIT]
  refine post_bindN (h.imp fun x e1 _ h => post_gd ?_)
  rw [pE0]
  refine ⟨h.1, post_bindN (h.2.imp fun y e2 _ h => ?_)⟩
  obtain ⟨k, m, rfl, rfl, h, q⟩ := h
  dsimp only
  rw [if_pos h]
  exact q
theorem i_enu {a : IE} (h : Post (fun _ _ => False) (evE (Iof PL n) a env) fun x e1 => x.vw = false ∧ FreK x fun u => ∃ f ts, u = .lst f ts ∧ QI (enuT 0 ts) e1) : Post J (evIT (Iof PL n) (.enu a) env) QI := by
  rw [evIT]
  refine post_bindN (h.imp fun x e1 _ h => ?_)
  rw [if_neg (by rw [h.1]; simp)]
  obtain ⟨f, ts, e, h⟩ := h.2
  rw [e]
  exact h
theorem i_zip {a b : IE} (h : Post (fun _ _ => False) (evE (Iof PL n) a env) fun x e1 => Gd x.vw (pE (Iof PL 0) b) (Post (fun _ _ => False) (evE (Iof PL n) b e1) fun y e2 => (x.vw = false ∧ y.vw = false) ∧ FreK x fun u => FreK y fun v => ∃ f ts g us, u = .lst f ts ∧ v = .lst g us ∧ QI (zipT ts us) e2)) : Post J (evIT (Iof PL n) (.zip a b) env) QI := by
  rw [evIT]
  refine post_bindN (h.imp fun x e1 _ h => post_gd ?_)
  rw [pE0]
  refine ⟨h.1, post_bindN (h.2.imp fun y e2 _ h => ?_)⟩
  rw [if_neg (by rw [h.1.1, h.1.2]; simp)]
  obtain ⟨f, ts, g, us, e, e', h⟩ := h.2
  rw [e, e']
  exact h
/-! targets -/
def BindK (tg : List Nat) (x : T) (env : Env) (K : Env → Prop) : Prop := match bindTg tg x env with | some e => K e | none => False
theorem s_unp {tg : List Nat} {e : IE} (h : Post J (evE (Iof PL n) e env) fun t e1 => FreK t fun u => BindK tg u e1 N) : PostS J (exS (Iof PL n) (.unp tg e) env) N R := by
  rw [exS]
  refine s_thn (h.imp fun t e1 _ h => ?_)
  unfold FreK BindK at h
  dsimp only at h
  cases eb : bindTg tg (t.mapF Fl.fre) e1 with
  | none => rw [eb] at h; exact h.elim
  | some e2 => rw [eb] at h; exact h
theorem i_keys {i : Nat} {ps : List PX} {t : T} {p : List Pst} {f : Fl} {ks : List Key} {vs : List T} (h1 : env[i]? = some (some t)) (h2 : resP env ps = some p) (h3 : getR p t = some (.dic f ks vs)) (h4 : f ≠ .own) (h : QI (ks.map keyT) env) :
    Post J (evIT (Iof PL n) (.keys i ps) env) QI := by
  rw [evIT]
  have : keysR i ps env = some ks := by
    unfold keysR
    rw [h1, h2]
    dsimp only
    rw [h3]
    dsimp only
    rw [if_neg h4]
  rw [this]
  exact h
theorem i_enuK {i : Nat} {ps : List PX} {t : T} {p : List Pst} {f : Fl} {ks : List Key} {vs : List T} (h1 : env[i]? = some (some t)) (h2 : resP env ps = some p) (h3 : getR p t = some (.dic f ks vs)) (h4 : f ≠ .own) (h : QI (enuT 0 (ks.map keyT)) env) :
    Post J (evIT (Iof PL n) (.enuK i ps) env) QI := by
  rw [evIT]
  have : keysR i ps env = some ks := by
    unfold keysR
    rw [h1, h2]
    dsimp only
    rw [h3]
    dsimp only
    rw [if_neg h4]
  rw [this]
  exact h
theorem b_one {i : Nat} {t : T} {e e' : Env} {K : Env → Prop} [v : Nv t] (hs : e.set i (some t) = e') (hl : i < e.length) (h : K e') : BindK [i] t e K := by
  have eb : bindTg [i] t e = some e' := by
    show (if i < e.length ∧ t.vw = false then some (e.set i (some t)) else none) = _
    rw [if_pos ⟨hl, v.h⟩, hs]
  unfold BindK
  rw [eb]
  exact h
theorem b_many {i j : Nat} {is : List Nat} {ts : List T} {e e' : Env} {K : Env → Prop} [v : NvL ts] (hs : ((i :: j :: is).zip ts).foldl (fun e p => e.set p.1 (some p.2)) e = e') (hl : (i :: j :: is).length = ts.length) (hm : ∀ k ∈ (i :: j :: is), k < e.length) (h : K e') : BindK (i :: j :: is) (.tup ts) e K := by
  unfold BindK bindTg
  dsimp only
  rw [if_pos ⟨hl, v.h, hm⟩, hs]
  exact h
theorem l_for {body : Env → SOut} {tg : List Nat} {α : Type} (enc : α → T) (xs : List α) (Inv : List α → List α → Env → Prop) (h0 : Inv [] xs env)
    (hs : ∀ d x r e, xs = d ++ x :: r → Inv d (x :: r) e → BindK tg (enc x) e fun e1 => PostS J (body e1) (Inv (d ++ [x]) r) R) (hf : ∀ e, Inv xs [] e → N e) : PostS J (forLoop body tg (xs.map enc) env) N R := by
  have main : ∀ (r d : List α) (e : Env), xs = d ++ r → Inv d r e → PostS J (forLoop body tg (r.map enc) e) N R := by
    intro r
    induction r with
    | nil =>
      intro d e hx hi
      rw [List.append_nil] at hx
      subst hx
      exact hf e hi
    | cons x r ih =>
      intro d e hx hi
      have h := hs d x r e hx hi
      rw [List.map_cons, forLoop]
      unfold BindK at h
      cases eb : bindTg tg (enc x) e with
      | none => rw [eb] at h; exact h
      | some e1 =>
        rw [eb] at h
        refine s_bind (PostS.imp h (fun _ _ z => z) (fun e2 hi => ?_) fun _ _ h => h)
        exact ih (d ++ [x]) e2 (by rw [hx]; simp) hi
  exact main xs [] env rfl h0
theorem l_rng {body : Env → SOut} {tg : List Nat} {a b : Int} (Inv : Nat → Env → Prop) (h0 : Inv 0 env)
    (hs : ∀ (k : Nat) (e : Env), (k : Int) < b - a → Inv k e → BindK tg (.int (a + (k : Nat))) e fun e1 => PostS J (body e1) (Inv (k + 1)) R) (hf : ∀ e, Inv (b - a).toNat e → N e) : PostS J (forLoop body tg (rngT a b) env) N R := by
  refine l_for (fun k : Nat => T.int (a + (k : Nat))) (List.range (b - a).toNat) (fun d _ e => Inv d.length e) h0 (fun d x r e hx hi => ?_) (fun e h => hf e (by simpa using h))
  have hl : d.length < (b - a).toNat := by have := congrArg List.length hx; simp at this; omega
  have hxd : x = d.length := by
    have := congrArg (fun l : List Nat => l[d.length]?) hx
    simp at this
    rw [List.getElem?_range hl] at this
    simpa using this.symm
  subst hxd
  have := hs d.length e (by omega) hi
  simpa using this
theorem zipT_map {α β : Type} {e : α → T} {g : β → T} : ∀ {xs : List α} {ys : List β}, zipT (xs.map e) (ys.map g) = (xs.zip ys).map fun p => .tup [e p.1, g p.2]
  | [], ys => by simp [zipT]
  | x :: xs, [] => by simp [zipT]
  | x :: xs, y :: ys => by simp [zipT, zipT_map]
theorem enuT_map {α : Type} {e : α → T} : ∀ {xs : List α} {k : Nat}, enuT k (xs.map e) = (xs.zipIdx k).map fun p => .tup [.int (p.2 : Nat), e p.1]
  | [], k => by simp [enuT]
  | x :: xs, k => by simp [enuT, enuT_map]
/-! comprehensions -/
theorem p_comp {tg : List Nat} {it : IT} {c : IO} {elt : IE} (h : Post J (evIT (Iof PL n) it env) fun items e1 => Post J (compLoop (fun e => evC (Iof PL n) c e) (fun e => evE (Iof PL n) elt e) tg items [] (wipeE e1 tg)) Q) : Post J (evE (Iof PL n) (.comp tg it c elt) env) Q := by
  rw [evE]
  exact post_bind h
theorem l_comp {tst : Env → Out Bool} {el : Env → Out T} {tg : List Nat} {α : Type} (enc : α → T) (xs : List α) (Inv : List α → List T → Prop) (h0 : Inv [] []) (hl : ∀ d acc, Inv d acc → acc.length ≤ d.length) (hx : xs.length ≤ LIM)
    (hs : ∀ d x r acc, xs = d ++ x :: r → Inv d acc → BindK tg (enc x) env fun e1 => Post (fun _ _ => False) (tst e1) fun b e2 => (b = true → Post (fun _ _ => False) (el e2) fun y e3 => y.vw = false ∧ wipeE e3 tg = env ∧ Inv (d ++ [x]) (acc ++ [y])) ∧ (b = false → wipeE e2 tg = env ∧ Inv (d ++ [x]) acc))
    (hf : ∀ acc, Inv xs acc → Q (.lst .own acc) env) : Post J (compLoop tst el tg (xs.map enc) [] env) Q := by
  have main : ∀ (r d : List α) (acc : List T), xs = d ++ r → Inv d acc → Post J (compLoop tst el tg (r.map enc) acc env) Q := by
    intro r
    induction r with
    | nil =>
      intro d acc hx hi
      rw [List.append_nil] at hx
      subst hx
      exact hf acc hi
    | cons x r ih =>
      intro d acc hx' hi
      have h := hs d x r acc hx' hi
      rw [List.map_cons, compLoop]
      unfold BindK at h
      cases eb : bindTg tg (enc x) env with
      | none => rw [eb] at h; exact h
      | some e1 =>
        rw [eb] at h
        refine post_bindN (Post.imp h fun b e2 _ h => ?_)
        have e' : xs = d ++ [x] ++ r := by rw [hx']; simp
        cases b with
        | true =>
          refine post_bindN (Post.imp (h.1 rfl) fun y e3 _ h => ?_)
          have a1 := hl d acc hi
          have a2 : acc.length < LIM := by have := congrArg List.length hx'; simp at this; omega
          rw [if_neg (by rw [h.1, decide_eq_true a2]; simp), h.2.1]
          exact ih (d ++ [x]) (acc ++ [y]) e' h.2.2
        | false =>
          have h := h.2 rfl
          show Post J (compLoop _ _ _ _ acc (wipeE e2 tg)) Q
          rw [h.1]
          exact ih (d ++ [x]) acc e' h.2
  exact main xs [] [] rfl h0
/-- a comprehension that keeps and maps -/
theorem l_map {tst : Env → Out Bool} {el : Env → Out T} {tg : List Nat} {α β : Type} (enc : α → T) (enc' : β → T) (xs : List α) (p : α → Bool) (f : α → β) (hx : xs.length ≤ LIM)
    (hs : ∀ x ∈ xs, BindK tg (enc x) env fun e1 => Post (fun _ _ => False) (tst e1) fun b e2 => b = p x ∧ (b = true → Post (fun _ _ => False) (el e2) fun y e3 => y = enc' (f x) ∧ y.vw = false ∧ wipeE e3 tg = env) ∧ (b = false → wipeE e2 tg = env))
    (hf : Q (.lst .own (((xs.filter p).map f).map enc')) env) : Post J (compLoop tst el tg (xs.map enc) [] env) Q := by
  refine l_comp enc xs (fun d acc => acc = ((d.filter p).map f).map enc') rfl (fun d acc h => by rw [h]; simpa using List.length_filter_le _ _) hx (fun d x r acc hx' hi => ?_) (fun acc h => by rw [h]; exact hf)
  have h := hs x (by rw [hx']; simp)
  unfold BindK at *
  cases eb : bindTg tg (enc x) env with
  | none => rw [eb] at h; exact h
  | some e1 =>
    rw [eb] at h
    refine Post.imp h fun b e2 _ h => ⟨fun hb => Post.imp (h.2.1 hb) fun y e3 _ q => ⟨q.2.1, q.2.2, ?_⟩, fun hb => ⟨h.2.2 hb, ?_⟩⟩
    · have : p x = true := by rw [← h.1, hb]
      rw [hi, q.1]
      simp [this]
    · have : p x = false := by rw [← h.1, hb]
      rw [hi]
      simp [this]
/-! into a def -/
def EndK (d : FD) (Q : T → List T → Prop) (t : T) (e : Env) : Prop := t.vw = false ∧ t.hasBrw = false ∧ ∃ ios, iosOf d.md e = some ios ∧ Q t ios
theorem endk {md : List Md} {d : FD} {Q : T → List T → Prop} {t : T} {e : Env} {ios : List T} [v : Nv t] [b : Nb t] (h : iosOf d.md e = some ios) (q : Q t ios) : EndK d Q t e := ⟨v.h, b.h, ios, h, q⟩
/-- what is raised leaves a def -/
def EndX (d : FD) (E : Xn → List T → Prop) (x : Xn) (e : Env) : Prop := ∃ ios, iosOf d.md e = some ios ∧ E x ios
theorem enter {E : Xn → List T → Prop} {f : Nat} {d : FD} {us : List T} {Q : T → List T → Prop} (hd : PL.fs[f]? = some d) (hl : us.length = d.ps.length) (he : us.map some ++ List.replicate (d.N.length - us.length) none = env)
    (h : PostS (EndX d E) (exB (Iof PL n) d.body env) (EndK d Q .non) (EndK d Q)) : CIs ((Iof PL (n + 1)).run f us) Q E := by
  have e1 : (Iof PL (n + 1)).run f us = runFn (Iof PL n) d us := by
    show (match PL.fs[f]? with | some d => runFn (Iof PL n) d us | none => COut.stuck) = _
    rw [hd]
  rw [e1]
  unfold runFn
  rw [if_pos hl, he]
  cases eb : exB (Iof PL n) d.body env with
  | stuck => rw [eb] at h; exact h.elim
  | exc x e =>
    rw [eb] at h
    obtain ⟨ios, h, q⟩ := h
    dsimp only
    rw [h]
    exact q
  | next e =>
    rw [eb] at h
    obtain ⟨_, _, ios, h, q⟩ := h
    dsimp only
    rw [h]
    exact q
  | ret t e =>
    rw [eb] at h
    obtain ⟨h1, h2, ios, h, q⟩ := h
    dsimp only
    rw [h1, h2, h]
    exact q
end
end VI

namespace VI
open PySem L2
/-! == of data -/
theorem beq_dec {α : Type} [BEq α] [LawfulBEq α] [DecidableEq α] (a b : α) : (a == b) = decide (a = b) := by
  rw [Bool.eq_iff_iff, beq_iff_eq, decide_eq_true_eq]
class EqvT (t u : T) (b : outParam Bool) : Prop where h : PyData.eqv t.toD u.toD = b
class EqvL (t u : List T) (b : outParam Bool) : Prop where h : PyData.eqvAll (T.toDL t) (T.toDL u) = b
instance {i j : Int} : EqvT (.int i) (.int j) (decide (i = j)) := ⟨by simp only [T.toD, PyData.eqv]; exact beq_dec i j⟩
instance {i j : Bool} : EqvT (.bl i) (.bl j) (decide (i = j)) := ⟨by simp only [T.toD, PyData.eqv]; exact beq_dec i j⟩
instance {i j : Str} : EqvT (.str i) (.str j) (decide (i = j)) := ⟨by simp only [T.toD, PyData.eqv]; exact beq_dec i j⟩
instance : EqvT .non .non true := ⟨by simp only [T.toD, PyData.eqv]⟩
instance {xs ys : List T} {b : Bool} [k : EqvL xs ys b] : EqvT (.tup xs) (.tup ys) b := ⟨by simp only [T.toD, PyData.eqv]; exact k.h⟩
instance {f g : Fl} {xs ys : List T} {b : Bool} [k : EqvL xs ys b] : EqvT (.lst f xs) (.lst g ys) b := ⟨by simp only [T.toD, PyData.eqv]; exact k.h⟩
instance : EqvL [] [] true := ⟨by simp only [T.toDL, PyData.eqvAll]⟩
instance {x : T} {xs : List T} : EqvL (x :: xs) [] false := ⟨by simp only [T.toDL, PyData.eqvAll]⟩
instance {x : T} {xs : List T} : EqvL [] (x :: xs) false := ⟨by simp only [T.toDL, PyData.eqvAll]⟩
instance {x y : T} {xs ys : List T} {b c : Bool} [k : EqvT x y b] [l : EqvL xs ys c] : EqvL (x :: xs) (y :: ys) (b && c) := ⟨by rw [T.toDL, T.toDL, PyData.eqvAll, k.h, l.h]⟩
theorem eqvL_map {α : Type} [DecidableEq α] {e e' : α → T} (k : ∀ a b, PyData.eqv (e a).toD (e' b).toD = decide (a = b)) : ∀ xs ys : List α, PyData.eqvAll (T.toDL (xs.map e)) (T.toDL (ys.map e')) = decide (xs = ys)
  | [], [] => by simp [T.toDL, PyData.eqvAll]
  | [], y :: ys => by simp [T.toDL, PyData.eqvAll]
  | x :: xs, [] => by simp [T.toDL, PyData.eqvAll]
  | x :: xs, y :: ys => by
    rw [List.map_cons, List.map_cons, T.toDL, T.toDL, PyData.eqvAll, k x y, eqvL_map k xs ys, ← Bool.decide_and]
    exact decide_eq_decide.mpr (by rw [List.cons.injEq])
instance (priority := 2000) {α : Type} [DecidableEq α] {e e' : α → T} {xs ys : List α} [k : ∀ a b, EqvT (e a) (e' b) (decide (a = b))] : EqvL (xs.map e) (ys.map e') (decide (xs = ys)) := ⟨eqvL_map (fun a b => (k a b).h) xs ys⟩
class Dep (t : T) (d : outParam Nat) : Prop where h : t.toD.canLay0 = true ∧ t.toD.depth ≤ d
class DepL (t : List T) (d : outParam Nat) : Prop where h : PyData.canLayAll0 (T.toDL t) = true ∧ PyData.depthAll (T.toDL t) ≤ d
instance {i : Int} : Dep (.int i) 0 := ⟨rfl, Nat.le_refl _⟩
instance {i : Bool} : Dep (.bl i) 0 := ⟨rfl, Nat.le_refl _⟩
instance : Dep .non 0 := ⟨rfl, Nat.le_refl _⟩
instance {xs : List T} {d : Nat} [k : DepL xs d] : Dep (.tup xs) (d + 1) := ⟨k.h.1, Nat.succ_le_succ k.h.2⟩
instance {f : Fl} {xs : List T} {d : Nat} [k : DepL xs d] : Dep (.lst f xs) (d + 1) := ⟨k.h.1, Nat.succ_le_succ k.h.2⟩
instance : DepL [] 0 := ⟨rfl, Nat.le_refl _⟩
instance {x : T} {xs : List T} {d e : Nat} [k : Dep x d] [l : DepL xs e] : DepL (x :: xs) (max d e) := ⟨by
  rw [T.toDL, PyData.canLayAll0, PyData.depthAll, k.h.1, l.h.1]
  exact ⟨rfl, by have := k.h.2; have := l.h.2; omega⟩⟩
instance (priority := 2000) {α : Type} {e : α → T} {xs : List α} {d : Nat} [k : ∀ a, Dep (e a) d] : DepL (xs.map e) d := ⟨by
  induction xs with
  | nil => exact ⟨rfl, Nat.zero_le _⟩
  | cons x r ih =>
    rw [List.map_cons, T.toDL, PyData.canLayAll0, PyData.depthAll, (k x).h.1, ih.1]
    exact ⟨rfl, by have := (k x).h.2; have := ih.2; omega⟩⟩
theorem shp {t : T} {d : Nat} [k : Dep t d] (h : d ≤ 64) : SeqAt.shaped t.toD = true := by
  unfold SeqAt.shaped
  rw [k.h.1, decide_eq_true (Nat.le_trans k.h.2 h)]
  rfl
section
variable {Q : Bool → Prop} {i j : Int} {s u : Str}
theorem c_lt (h : Q (decide (i < j))) : OpB (cmpT .Lt (.int i) (.int j)) Q := h
theorem c_le (h : Q (decide (i ≤ j))) : OpB (cmpT .LtE (.int i) (.int j)) Q := h
theorem c_gt (h : Q (decide (j < i))) : OpB (cmpT .Gt (.int i) (.int j)) Q := h
theorem c_ge (h : Q (decide (j ≤ i))) : OpB (cmpT .GtE (.int i) (.int j)) Q := h
theorem c_eqi (h : Q (decide (i = j))) : OpB (cmpT .Eq (.int i) (.int j)) Q := h
theorem c_eqs (h : Q (decide (s = u))) : OpB (cmpT .Eq (.str s) (.str u)) Q := h
theorem c_eqb {a b : Bool} (h : Q (decide (a = b))) : OpB (cmpT .Eq (.bl a) (.bl b)) Q := h
theorem c_neb {a b : Bool} (h : Q (!decide (a = b))) : OpB (cmpT .NotEq (.bl a) (.bl b)) Q := h
theorem c_nei (h : Q (!decide (i = j))) : OpB (cmpT .NotEq (.int i) (.int j)) Q := h
theorem c_nes (h : Q (!decide (s = u))) : OpB (cmpT .NotEq (.str s) (.str u)) Q := h
theorem eqT_seq {t u : T} {b : Bool} {d d' : Nat} [k : EqvT t u b] [a : Dep t d] [a' : Dep u d'] (hd : d ≤ 64) (hd' : d' ≤ 64) (hs : scalT t u = false) : eqT t u = some b := by
  unfold eqT
  rw [hs, if_neg (by simp), shp (d := d) hd, shp (d := d') hd', k.h]
  rfl
theorem c_eqq {t u : T} {b : Bool} {d d' : Nat} [k : EqvT t u b] [a : Dep t d] [a' : Dep u d'] (hd : d ≤ 64) (hd' : d' ≤ 64) (hs : scalT t u = false) (h : Q b) : OpB (cmpT .Eq t u) Q := by
  show OpB (eqT t u) Q
  rw [eqT_seq hd hd' hs]
  exact h
theorem c_neq {t u : T} {b : Bool} {d d' : Nat} [k : EqvT t u b] [a : Dep t d] [a' : Dep u d'] (hd : d ≤ 64) (hd' : d' ≤ 64) (hs : scalT t u = false) (h : Q (!b)) : OpB (cmpT .NotEq t u) Q := by
  show OpB ((eqT t u).map (!·)) Q
  rw [eqT_seq hd hd' hs]
  exact h
theorem inT_ints {f : Fl} {xs : List Int} : inT (.int i) (.lst f (xs.map T.int)) = some (decide (i ∈ xs)) := by
  have a : ((xs.map T.int).all fun z => kindT z (.int i)) = true := by rw [List.all_map, List.all_eq_true]; intro z _; rfl
  show (if (T.flat (.int i) && (xs.map T.int).all fun z => kindT z (.int i)) = true then some (memT (.int i) (xs.map T.int)) else none) = _
  rw [a]
  show some (memT (.int i) (xs.map T.int)) = _
  congr 1
  unfold memT
  rw [Bool.eq_iff_iff, decide_eq_true_iff, List.any_map, List.any_eq_true]
  constructor
  · rintro ⟨x, hx, e⟩
    have e : decide (x = i) = true := e
    rw [decide_eq_true_iff] at e
    exact e ▸ hx
  · intro h
    exact ⟨i, h, show decide (i = i) = true by simp⟩
theorem c_ini {f : Fl} {xs : List Int} (h : Q (decide (i ∈ xs))) : OpB (cmpT .In (.int i) (.lst f (xs.map T.int))) Q := by
  show OpB (inT (.int i) (.lst f (xs.map T.int))) Q
  rw [inT_ints]
  exact h
theorem c_nini {f : Fl} {xs : List Int} (h : Q (!decide (i ∈ xs))) : OpB (cmpT .NotIn (.int i) (.lst f (xs.map T.int))) Q := by
  show OpB ((inT (.int i) (.lst f (xs.map T.int))).map (!·)) Q
  rw [inT_ints]
  exact h
end
section
variable {Q : T → Prop} {i j : Int} {s u : Str} {f g : Fl} {xs ys : List T}
theorem o_add (h : Q (.int (i + j))) : OpK (bopT .Add (.int i) (.int j)) Q := h
theorem o_sub (h : Q (.int (i - j))) : OpK (bopT .Sub (.int i) (.int j)) Q := h
theorem o_mul (c : CMulW i j) (h : Q (.int (i * j))) : OpK (bopT .Mult (.int i) (.int j)) Q := OpK.of (if_pos c) h
theorem o_mod (c : 0 < j) (h : Q (.int (i % j))) : OpK (bopT .Mod (.int i) (.int j)) Q := OpK.of (if_pos c) h
theorem o_div (c : CDivW i j) (h : Q (.int (i / j))) : OpK (bopT .FloorDiv (.int i) (.int j)) Q := OpK.of (if_pos c) h
theorem o_pow (c : CPow i j) (h : Q (.int (i ^ j.toNat))) : OpK (bopT .Pow (.int i) (.int j)) Q := OpK.of (if_pos c) h
theorem o_cat (c : s.length + u.length ≤ LIM) (h : Q (.str (s ++ u))) : OpK (bopT .Add (.str s) (.str u)) Q := OpK.of (if_pos c) h
theorem o_app [k : NvL (xs ++ ys)] (c : xs.length + ys.length ≤ LIM) (h : Q (.lst .own (xs ++ ys))) : OpK (bopT .Add (.lst f xs) (.lst g ys)) Q := OpK.of (if_pos ⟨c, k.h⟩) h
theorem o_appi {xs ys : List Int} (c : xs.length + ys.length ≤ LIM) (h : Q (.lst .own ((xs ++ ys).map T.int))) : OpK (bopT .Add (.lst f (xs.map T.int)) (.lst g (ys.map T.int))) Q := by
  rw [List.map_append] at h
  exact o_app (by simpa using c) h
theorem o_app1 {xs : List Int} (c : xs.length + 1 ≤ LIM) (h : Q (.lst .own ((xs ++ [i]).map T.int))) : OpK (bopT .Add (.lst f (xs.map T.int)) (.lst g [.int i])) Q := by
  rw [List.map_append] at h
  exact o_app (by simpa using c) h
theorem o_rep {k : Int} (c : xs.all T.imm = true ∧ -(2 ^ 63) ≤ k ∧ k < 2 ^ 63 ∧ xs.length * k.toNat ≤ LIM) (h : Q (.lst .own (List.replicate k.toNat xs).flatten)) : OpK (bopT .Mult (.lst f xs) (.int k)) Q := OpK.of (if_pos c) h
theorem o_rep1 {k : Int} (c : -(2 ^ 63) ≤ k ∧ k < 2 ^ 63 ∧ k.toNat ≤ LIM) (h : Q (.lst .own ((List.replicate k.toNat i).map T.int))) : OpK (bopT .Mult (.lst f [.int i]) (.int k)) Q := by
  refine o_rep ⟨rfl, c.1, c.2.1, by simpa using c.2.2⟩ ?_
  have : (List.replicate k.toNat [T.int i]).flatten = (List.replicate k.toNat i).map T.int := by
    generalize k.toNat = m
    induction m with
    | zero => rfl
    | succ m ih => rw [List.replicate_succ, List.flatten_cons, ih, List.replicate_succ]; rfl
  rw [this]
  exact h
theorem atI_nat {α : Type} {xs : List α} {k : Nat} (h : k < xs.length) : L2.atI xs (k : Int) = some xs[k] := by
  unfold L2.atI L2.ixN
  rw [if_pos (by omega), if_pos (by omega)]
  simp [h]
theorem atI_int {α : Type} {xs : List α} {k : Int} (h0 : 0 ≤ k) (h : k.toNat < xs.length) : L2.atI xs k = some xs[k.toNat] := by
  have := atI_nat h
  rwa [Int.toNat_of_nonneg h0] at this
theorem x_lst {α : Type} {e : α → T} {xs : List α} (h0 : 0 ≤ i) (hl : i.toNat < xs.length) (h : Q (e xs[i.toNat])) : OpK (idxT (.lst f (xs.map e)) (.int i)) Q := OpK.of (t := e xs[i.toNat]) (by show L2.atI _ _ = _; rw [atI_int h0 (by simpa using hl)]; simp) h
theorem x_tup {α : Type} {e : α → T} {xs : List α} (h0 : 0 ≤ i) (hl : i.toNat < xs.length) (h : Q (e xs[i.toNat])) : OpK (idxT (.tup (xs.map e)) (.int i)) Q := OpK.of (t := e xs[i.toNat]) (by show L2.atI _ _ = _; rw [atI_int h0 (by simpa using hl)]; simp) h
theorem x_scr {xs : List Int} (h0 : 0 ≤ i) (hl : i.toNat < xs.length) (h : Q (.int xs[i.toNat])) : OpK (idxT (.scr xs) (.int i)) Q := OpK.of (t := .int xs[i.toNat]) (by show (L2.atI _ _).map T.int = _; rw [atI_int h0 hl]; rfl) h
theorem k_lenl (h : Q (.int xs.length)) : OpK (bltT "len" [.lst f xs]) Q := OpK.of (by simp [bltT]) h
theorem k_lenm {α : Type} {e : α → T} {xs : List α} (h : Q (.int xs.length)) : OpK (bltT "len" [.lst f (xs.map e)]) Q := OpK.of (by simp [bltT]) h
theorem k_lent (h : Q (.int xs.length)) : OpK (bltT "len" [.tup xs]) Q := OpK.of (by simp [bltT]) h
theorem k_lensc {xs : List Int} (h : Q (.int xs.length)) : OpK (bltT "len" [.scr xs]) Q := OpK.of (by simp [bltT]) h
theorem k_lens (c : s.length ≤ LIM) (h : Q (.int s.length)) : OpK (bltT "len" [.str s]) Q := OpK.of (by simp only [bltT, if_pos, if_pos c]) h
theorem k_abs (h : Q (.int (if i < 0 then -i else i))) : OpK (bltT "abs" [.int i]) Q := OpK.of (by show bltT _ _ = _; unfold bltT; rw [if_neg (by decide), if_pos rfl]) h
theorem k_max2 (h : Q (.int (max i j))) : OpK (bltT "max" [.int i, .int j]) Q := OpK.of (by unfold bltT; rw [if_neg (by decide), if_neg (by decide), if_pos rfl]; have : (if j > i then j else i) = max i j := (by omega); simp only [this]) h
theorem k_min2 (h : Q (.int (min i j))) : OpK (bltT "min" [.int i, .int j]) Q := OpK.of (by unfold bltT; rw [if_neg (by decide), if_neg (by decide), if_neg (by decide), if_pos rfl]; have : (if j < i then j else i) = min i j := (by omega); simp only [this]) h
theorem intsT_map : ∀ xs : List Int, intsT (xs.map T.int) = some xs
  | [] => rfl
  | x :: r => by rw [List.map_cons, intsT, intsT_map r]; rfl
theorem blsT_map : ∀ xs : List Bool, blsT (xs.map T.bl) = some xs
  | [] => rfl
  | x :: r => by rw [List.map_cons, blsT, blsT_map r]; rfl
theorem k_maxl {a : Int} {r xs : List Int} (c : xs = a :: r) (h : Q (.int (r.foldl max a))) : OpK (bltT "max" [.lst f (xs.map T.int)]) Q := OpK.of (by unfold bltT; rw [if_neg (by decide), if_neg (by decide), if_pos rfl]; simp only [intsT_map, c]) h
theorem k_minl {a : Int} {r xs : List Int} (c : xs = a :: r) (h : Q (.int (r.foldl min a))) : OpK (bltT "min" [.lst f (xs.map T.int)]) Q := OpK.of (by unfold bltT; rw [if_neg (by decide), if_neg (by decide), if_neg (by decide), if_pos rfl]; simp only [intsT_map, c]) h
theorem k_sum {xs : List Int} (h : Q (.int xs.sum)) : OpK (bltT "sum" [.lst f (xs.map T.int)]) Q := OpK.of (by unfold bltT; rw [if_neg (by decide), if_neg (by decide), if_neg (by decide), if_neg (by decide), if_pos rfl]; simp only [intsT_map, Option.map_some]) h
theorem k_all {xs : List Bool} (h : Q (.bl (xs.all id))) : OpK (bltT "all" [.lst f (xs.map T.bl)]) Q := OpK.of (by unfold bltT; rw [if_neg (by decide), if_neg (by decide), if_neg (by decide), if_neg (by decide), if_neg (by decide), if_pos rfl]; simp only [blsT_map, Option.map_some]) h
theorem k_list [k : NvL xs] (h : Q (.lst .own xs)) : OpK (bltT "list" [.lst f xs]) Q := OpK.of (by unfold bltT; rw [if_neg (by decide), if_neg (by decide), if_neg (by decide), if_neg (by decide), if_neg (by decide), if_neg (by decide), if_pos rfl]; simp only [k.h, Bool.false_eq_true, if_false]) h
theorem k_listt [k : NvL xs] (h : Q (.lst .own xs)) : OpK (bltT "list" [.tup xs]) Q := OpK.of (by unfold bltT; rw [if_neg (by decide), if_neg (by decide), if_neg (by decide), if_neg (by decide), if_neg (by decide), if_neg (by decide), if_pos rfl]; simp only [k.h, Bool.false_eq_true, if_false]) h
theorem k_intb {b : Bool} (h : Q (.int (if b then 1 else 0))) : OpK (bltT "int" [.bl b]) Q := OpK.of (by unfold bltT; rw [if_neg (by decide), if_neg (by decide), if_neg (by decide), if_neg (by decide), if_neg (by decide), if_neg (by decide), if_neg (by decide), if_pos rfl]) h
theorem k_inti (h : Q (.int i)) : OpK (bltT "int" [.int i]) Q := OpK.of (by unfold bltT; rw [if_neg (by decide), if_neg (by decide), if_neg (by decide), if_neg (by decide), if_neg (by decide), if_neg (by decide), if_neg (by decide), if_pos rfl]) h
end
section
variable {Q : List T → Prop} {xs : List T}
theorem m_app {t : T} [v : Nv t] (c : xs.length < LIM) (h : Q (xs ++ [t])) : MutK (mutT "append" xs [t]) Q := MutK.of (by unfold mutT; rw [if_pos rfl]; dsimp only; rw [if_pos ⟨c, v.h⟩]) h
theorem m_appm {α : Type} {e : α → T} {x : α} {xs : List α} [v : Nv (e x)] (c : xs.length < LIM) (h : Q ((xs ++ [x]).map e)) : MutK (mutT "append" (xs.map e) [e x]) Q := by
  rw [List.map_append] at h
  exact m_app (by simpa using c) h
theorem m_appi {x : Int} {xs : List Int} (c : xs.length < LIM) (h : Q ((xs ++ [x]).map T.int)) : MutK (mutT "append" (xs.map T.int) [.int x]) Q := m_appm (e := T.int) c h
theorem m_clear (h : Q []) : MutK (mutT "clear" xs []) Q := MutK.of (by unfold mutT; rw [if_neg (by decide), if_pos rfl]) h
theorem m_rev (h : Q xs.reverse) : MutK (mutT "reverse" xs []) Q := MutK.of (by unfold mutT; rw [if_neg (by decide), if_neg (by decide), if_pos rfl]) h
theorem m_pop (c : xs ≠ []) (h : Q xs.dropLast) : MutK (mutT "pop" xs []) Q := MutK.of (by unfold mutT; rw [if_neg (by decide), if_neg (by decide), if_neg (by decide), if_pos rfl]; dsimp only; rw [if_neg c]) h
end
section
variable {Q : Bool → Prop} {i : Int} {b : Bool} {s : Str} {f : Fl} {xs : List T}
theorem is_ii (h : Q true) : OpB (isiT (.int i) "int") Q := OpB.of (by unfold isiT; dsimp only; rw [if_pos rfl]) h
theorem is_ib (h : Q false) : OpB (isiT (.int i) "bool") Q := OpB.of (by unfold isiT; dsimp only; rw [if_neg (by decide), if_pos (.inl rfl)]) h
theorem is_is (h : Q false) : OpB (isiT (.int i) "str") Q := OpB.of (by unfold isiT; dsimp only; rw [if_neg (by decide), if_pos (.inr (.inl rfl))]) h
theorem is_il (h : Q false) : OpB (isiT (.int i) "list") Q := OpB.of (by unfold isiT; dsimp only; rw [if_neg (by decide), if_pos (.inr (.inr (.inl rfl)))]) h
theorem is_it (h : Q false) : OpB (isiT (.int i) "tuple") Q := OpB.of (by unfold isiT; dsimp only; rw [if_neg (by decide), if_pos (.inr (.inr (.inr rfl)))]) h
theorem is_tt (h : Q true) : OpB (isiT (.tup xs) "tuple") Q := OpB.of (by unfold isiT; dsimp only; rw [if_pos rfl]) h
theorem is_ti (h : Q false) : OpB (isiT (.tup xs) "int") Q := OpB.of (by unfold isiT; dsimp only; rw [if_neg (by decide), if_pos (.inl rfl)]) h
theorem is_tl (h : Q false) : OpB (isiT (.tup xs) "list") Q := OpB.of (by unfold isiT; dsimp only; rw [if_neg (by decide), if_pos (.inr (.inr (.inr rfl)))]) h
theorem is_ll (h : Q true) : OpB (isiT (.lst f xs) "list") Q := OpB.of (by unfold isiT; dsimp only; rw [if_pos rfl]) h
theorem is_lt (h : Q false) : OpB (isiT (.lst f xs) "tuple") Q := OpB.of (by unfold isiT; dsimp only; rw [if_neg (by decide), if_pos (.inr (.inr (.inr rfl)))]) h
theorem is_bi (h : Q true) : OpB (isiT (.bl b) "int") Q := OpB.of (by unfold isiT; dsimp only; rw [if_pos (.inl rfl)]) h
theorem is_bb (h : Q true) : OpB (isiT (.bl b) "bool") Q := OpB.of (by unfold isiT; dsimp only; rw [if_pos (.inr rfl)]) h
theorem is_ni (h : Q false) : OpB (isiT .non "int") Q := OpB.of (by unfold isiT; dsimp only; rw [if_pos (.inl rfl)]) h
theorem is_nl (h : Q false) : OpB (isiT .non "list") Q := OpB.of (by unfold isiT; dsimp only; rw [if_pos (.inr (.inr (.inr (.inl rfl))))]) h
theorem is_nt (h : Q false) : OpB (isiT .non "tuple") Q := OpB.of (by unfold isiT; dsimp only; rw [if_pos (.inr (.inr (.inr (.inr rfl))))]) h
theorem is_ns (h : Q false) : OpB (isiT .non "str") Q := OpB.of (by unfold isiT; dsimp only; rw [if_pos (.inr (.inr (.inl rfl)))]) h
theorem is_ss (h : Q true) : OpB (isiT (.str s) "str") Q := OpB.of (by unfold isiT; dsimp only; rw [if_pos rfl]) h
end
section
variable {Q : Bool → Prop} {t : T}
theorem in_nil (h : Q false) : OpB (isiNT t []) Q := h
theorem in_cons {ty : Str} {r : List Str} (h : OpB (isiT t ty) fun a => OpB (isiNT t r) fun b => Q (a || b)) : OpB (isiNT t (ty :: r)) Q := by
  rw [isiNT]
  unfold OpB at h
  cases e : isiT t ty with
  | none => rw [e] at h; exact h.elim
  | some a =>
    rw [e] at h
    dsimp only at h
    cases e2 : isiNT t r with
    | none => rw [e2] at h; exact h.elim
    | some b => rw [e2] at h; exact h
end
section
variable {Q : T → Prop} {i j l : Int} {s u : Str} {f : Fl}
theorem k_max3 (h : Q (.int (max (max i j) l))) : OpK (bltT "max" [.int i, .int j, .int l]) Q := OpK.of (by
  unfold bltT; rw [if_neg (by decide), if_neg (by decide), if_pos rfl]
  have : (if (if i < j then j else i) < l then l else (if i < j then j else i)) = max (max i j) l := (by
    by_cases h1 : i < j
    · have e1 : (if i < j then j else i) = j := if_pos h1
      have e2 : max i j = j := by omega
      rw [e1, e2]; split <;> omega
    · have e1 : (if i < j then j else i) = i := if_neg h1
      have e2 : max i j = i := by omega
      rw [e1, e2]; split <;> omega)
  simp only [this]) h
theorem k_mxd0 {d : T} (hi : d.imm = true) (h : Q d) : OpK (mxdT (.lst f []) d) Q := OpK.of (by show (if d.imm = true then some d else none) = _; rw [if_pos hi]) h
def mxOr (i : Int) : List Int → Int
  | [] => i
  | a :: r => r.foldl max a
theorem k_mxdi {xs : List Int} (h : Q (.int (mxOr i xs))) : OpK (mxdT (.lst f (xs.map T.int)) (.int i)) Q := by
  refine OpK.of ?_ h
  unfold mxdT
  dsimp only
  rw [intsT_map]
  cases xs with
  | nil => rfl
  | cons a r => rfl
theorem o_repS (c : CRep s i) (h : Q (.str (repS s i))) : OpK (bopT .Mult (.str s) (.int i)) Q := OpK.of (if_pos c) h
theorem x_str {c : Nat} (hl : s.length ≤ LIM) (hc : L2.atI s.cps.toList i = some c) (h : Q (.str ⟨#[c]⟩)) : OpK (idxT (.str s) (.int i)) Q := OpK.of (by show (if s.length ≤ LIM then _ else _) = _; rw [if_pos hl, hc]; rfl) h
theorem k_strI (c : i.natAbs.log2 < 1920) (h : Q (.str (toString i))) : OpK (bltT "str" [.int i]) Q := OpK.of (by
  unfold bltT; rw [if_neg (by decide), if_neg (by decide), if_neg (by decide), if_neg (by decide), if_neg (by decide), if_neg (by decide), if_neg (by decide), if_neg (by decide), if_pos rfl]; dsimp only; rw [if_pos c]) h
theorem k_strS (h : Q (.str s)) : OpK (bltT "str" [.str s]) Q := OpK.of (by
  unfold bltT; rw [if_neg (by decide), if_neg (by decide), if_neg (by decide), if_neg (by decide), if_neg (by decide), if_neg (by decide), if_neg (by decide), if_neg (by decide), if_pos rfl]) h
theorem k_intS {n : Int} (c : PySem.intText? s = some n) (hl : s.length ≤ 640) (h : Q (.int n)) : OpK (bltT "int" [.str s]) Q := OpK.of (by
  unfold bltT; rw [if_neg (by decide), if_neg (by decide), if_neg (by decide), if_neg (by decide), if_neg (by decide), if_neg (by decide), if_neg (by decide), if_pos rfl]; dsimp only; rw [if_pos hl, c]; rfl) h
theorem k_tupl {xs : List T} (h : Q (.tup xs)) : OpK (bltT "tuple" [.lst f xs]) Q := OpK.of (by
  unfold bltT; rw [if_neg (by decide), if_neg (by decide), if_neg (by decide), if_neg (by decide), if_neg (by decide), if_neg (by decide), if_neg (by decide), if_neg (by decide), if_neg (by decide), if_pos rfl]) h
theorem k_tupt {xs : List T} (h : Q (.tup xs)) : OpK (bltT "tuple" [.tup xs]) Q := OpK.of (by
  unfold bltT; rw [if_neg (by decide), if_neg (by decide), if_neg (by decide), if_neg (by decide), if_neg (by decide), if_neg (by decide), if_neg (by decide), if_neg (by decide), if_neg (by decide), if_pos rfl]) h
theorem l_all {xs : List T} {lo hi : Option T} {l h : Option Int} {g : Fl} (hl : intO lo = some l) (hh : intO hi = some h) (nv : vwL (cutT xs l h) = false) (q : Q (.lst .own (cutT xs l h))) : OpK (slcT (.lst g xs) lo hi) Q := OpK.of (by unfold slcT; rw [hl, hh]; dsimp only; rw [if_neg (by rw [nv]; simp)]) q
theorem l_scr {xs : List Int} {lo hi : Option T} {l h : Option Int} (hl : intO lo = some l) (hh : intO hi = some h) (q : Q (.lst .own (cutT (xs.map T.int) l h))) : OpK (slcT (.scr xs) lo hi) Q := OpK.of (by unfold slcT; rw [hl, hh]) q
theorem l_str {lo hi : Option T} {l h : Option Int} (hl : intO lo = some l) (hh : intO hi = some h) (c : s.length ≤ LIM) (q : Q (.str (cutS s l h))) : OpK (slcT (.str s) lo hi) Q := OpK.of (by unfold slcT; rw [hl, hh]; dsimp only; rw [if_pos c]) q
end
theorem x_hd {α : Type} {e : α → T} {b : α} {xs : List α} {f : Fl} {Q : T → Prop} (h : Q (e b)) : OpK (idxT (.lst f ((b :: xs).map e)) (.int 0)) Q := x_lst (by decide) (Nat.succ_pos _) h
/-! slices -/
def cutA {α : Type} (xs : List α) (lo hi : Option Int) : List α := (xs.drop (HT.sIx xs.length 0 lo)).take (HT.sIx xs.length xs.length hi - HT.sIx xs.length 0 lo)
theorem cutT_map {α : Type} {e : α → T} {xs : List α} {lo hi : Option Int} : cutT (xs.map e) lo hi = (cutA xs lo hi).map e := by
  unfold cutT cutA
  rw [List.length_map, List.map_take, List.map_drop]
section
variable {Q : T → Prop} {lo hi : Option T} {l h : Option Int} {f : Fl}
theorem l_map' {α : Type} {e : α → T} {xs : List α} [k : ∀ a, Nv (e a)] (hl : intO lo = some l) (hh : intO hi = some h) (q : Q (.lst .own ((cutA xs l h).map e))) : OpK (slcT (.lst f (xs.map e)) lo hi) Q := by
  rw [← cutT_map] at q
  refine l_all hl hh ?_ q
  rw [cutT_map]
  exact NvL.h
theorem l_scr' {xs : List Int} (hl : intO lo = some l) (hh : intO hi = some h) (q : Q (.lst .own ((cutA xs l h).map T.int))) : OpK (slcT (.scr xs) lo hi) Q := by
  rw [← cutT_map] at q
  exact l_scr hl hh q
end
theorem cutA_len {α : Type} {xs : List α} {lo hi : Option Int} : (cutA xs lo hi).length ≤ xs.length := by
  unfold cutA
  rw [List.length_take, List.length_drop]
  omega
theorem cutA_mem {α : Type} {xs : List α} {lo hi : Option Int} {x : α} (h : x ∈ cutA xs lo hi) : x ∈ xs := List.mem_of_mem_drop (List.mem_of_mem_take h)
theorem cutA_take {α : Type} {xs : List α} {k : Nat} : cutA xs none (some (k : Int)) = xs.take k := by
  unfold cutA
  rw [HT.sIx_none, HT.sIx_nat, List.drop_zero, Nat.sub_zero]
  rcases Nat.le_total k xs.length with h | h
  · rw [Nat.min_eq_left h]
  · rw [Nat.min_eq_right h, List.take_length, List.take_of_length_le h]
theorem cutA_drop {α : Type} {xs : List α} {k : Nat} : cutA xs (some (k : Int)) none = xs.drop k := by
  unfold cutA
  rw [HT.sIx_none, HT.sIx_nat]
  rcases Nat.le_total k xs.length with h | h
  · rw [Nat.min_eq_left h, List.take_of_length_le (by rw [List.length_drop]; omega)]
  · rw [Nat.min_eq_right h, List.drop_eq_nil_of_le (Nat.le_refl _), List.drop_eq_nil_of_le h]
    simp
theorem cutA_all {α : Type} {xs : List α} : cutA xs none none = xs := by
  unfold cutA
  rw [HT.sIx_none, HT.sIx_none, List.drop_zero, Nat.sub_zero, List.take_length]
end VI

namespace VI
open PySem L2
section
variable {J : Xn → Env → Prop} {PL : Pg} {n : Nat} {env : Env} {Q : T → Env → Prop} {N : Env → Prop} {R : T → Env → Prop}
theorem q_var {i : Nat} {t u : T} (e : env[i]? = some (some t)) (m : MapTo Fl.vie t u) (h : Q u env) : Post J (evE (Iof PL n) (.var i) env) Q := p_var e h
theorem q_put {t : T} {i : Nat} {e e' : Env} {K : Env → Prop} (v : Nv t) (hs : e.set i (some t) = e') (hl : Nat.blt i e.length = true) (h : K e') : PutV t i e K := putv hs (by simpa using hl) h
theorem q_fre {t u : T} {K : T → Prop} (m : MapTo Fl.fre t u) (h : K u) : FreK t K := frek h
theorem q_gl {t : T} {p : Bool} {P : Prop} (k : Nv t) (h : P) : Gd t.vw p P := gk_l h
theorem q_gl2 {t u : T} {p : Bool} {P : Prop} (k : Nv t) (l : Nv u) (h : P) : Gd (t.vw || u.vw) p P := ⟨.inl (by rw [k.h, l.h]; rfl), h⟩
theorem q_vl0 {ts : List T} {P : Prop} (k : NvL ts) (h : Nat.ble ts.length 16777216 = true) (p : P) : VL ts P := vl (Nat.le_of_ble_eq_true h) p
theorem q_len {ts : List T} {P : Prop} (h : Nat.ble ts.length 16777216 = true) (p : P) : ts.length ≤ LIM ∧ P := ⟨Nat.le_of_ble_eq_true h, p⟩
theorem q_vl {ts : List T} {P : Prop} (k : NvL ts) (h : ts.length ≤ LIM) (p : P) : VL ts P := vl h p
theorem q_vw {t : T} {P : Prop} (k : Nv t) (p : P) : t.vw = false ∧ P := ⟨k.h, p⟩
theorem q_vw2 {t u : T} {P : Prop} (k : Nv t) (l : Nv u) (p : P) : (t.vw = false ∧ u.vw = false) ∧ P := ⟨⟨k.h, l.h⟩, p⟩
theorem q_int {a : Int} {P : Int → Prop} (h : P a) : ∃ i, T.int a = .int i ∧ P i := ⟨a, rfl, h⟩
theorem q_int2 {a b : Int} {P : Int → Int → Prop} (h : P a b) : ∃ i j, T.int a = .int i ∧ T.int b = .int j ∧ P i j := ⟨a, b, rfl, rfl, h⟩
theorem q_bl {a : Bool} {P : Bool → Prop} (h : P a) : ∃ i, T.bl a = .bl i ∧ P i := ⟨a, rfl, h⟩
theorem q_lst {f : Fl} {xs : List T} {P : Fl → List T → Prop} (h : P f xs) : ∃ g ys, T.lst f xs = .lst g ys ∧ P g ys := ⟨f, xs, rfl, h⟩
theorem q_zip {f g : Fl} {xs ys : List T} {P : List T → List T → Prop} (h : P xs ys) : ∃ f' xs' g' ys', T.lst f xs = .lst f' xs' ∧ T.lst g ys = .lst g' ys' ∧ P xs' ys' := ⟨f, xs, g, ys, rfl, rfl, h⟩
theorem q_dec {p : Prop} [Decidable p] {A B : Prop} (h : p → A) (h2 : ¬ p → B) : CondK (.bl (decide p)) A B := ⟨_, rfl, fun e => h (of_decide_eq_true e), fun e => h2 (of_decide_eq_false e)⟩
theorem q_ndec {p : Prop} [Decidable p] {A B : Prop} (h : ¬ p → A) (h2 : p → B) : CondK (.bl (!decide p)) A B := ⟨_, rfl, fun e => h (of_decide_eq_false (by simpa using e)), fun e => h2 (of_decide_eq_true (by simpa using e))⟩
theorem q_true {A B : Prop} (h : A) : CondK (.bl true) A B := condK (fun _ => h) (fun e => nomatch e)
theorem q_false {A B : Prop} (h : B) : CondK (.bl false) A B := condK (fun e => nomatch e) (fun _ => h)
theorem q_not {b : Bool} {A B : Prop} (h : CondK (.bl b) B A) : CondK (.bl (!b)) A B := by
  obtain ⟨c, e, h1, h2⟩ := h
  cases e
  cases b with
  | true => exact q_false (h1 rfl)
  | false => exact q_true (h2 rfl)
theorem q_and {b c : Bool} {A B : Prop} (h : CondK (.bl b) (CondK (.bl c) A B) B) : CondK (.bl (b && c)) A B := by
  obtain ⟨_, e, h1, h2⟩ := h
  cases e
  cases b with
  | true => exact h1 rfl
  | false => exact q_false (h2 rfl)
theorem q_or {b c : Bool} {A B : Prop} (h : CondK (.bl b) A (CondK (.bl c) A B)) : CondK (.bl (b || c)) A B := by
  obtain ⟨_, e, h1, h2⟩ := h
  cases e
  cases b with
  | true => exact q_true (h1 rfl)
  | false => exact h2 rfl
theorem q_itl {f : Fl} {xs : List T} {Q : List T → Prop} (h : Q xs) : ItK (itemsT (.lst f xs)) Q := h
theorem q_itt {xs : List T} {Q : List T → Prop} (h : Q xs) : ItK (itemsT (.tup xs)) Q := h
theorem q_its {xs : List Int} {Q : List T → Prop} (h : Q (xs.map T.int)) : ItK (itemsT (.scr xs)) Q := h
theorem q_mut {m : Str} {i : Nat} {xs : IL} {zs : List T} (e : env[i]? = some (some (.lst .own zs))) (h : Post J (evL (Iof PL n) xs env) fun ts e1 => ∃ ys, e1[i]? = some (some (.lst .own ys)) ∧ MutK (mutT m ys ts) fun zs => N (e1.set i (some (.lst .own zs)))) :
    PostS J (exS (Iof PL n) (.mut m i xs) env) N R := s_mut e h
theorem q_got {i : Nat} {e : Env} {ys : List T} {P : List T → Prop} (h : e[i]? = some (some (.lst .own ys))) (p : P ys) : ∃ ys, e[i]? = some (some (.lst .own ys)) ∧ P ys := ⟨ys, h, p⟩
theorem q_got0 {i : Nat} {e : Env} {t : T} {P : Prop} (h : e[i]? = some (some t)) (p : P) : (∃ u0, e[i]? = some (some u0)) ∧ P := ⟨⟨t, h⟩, p⟩
theorem q_gotT {i : Nat} {e : Env} {t : T} {P : T → Prop} (h : e[i]? = some (some t)) (p : P t) : ∃ u, e[i]? = some (some u) ∧ P u := ⟨t, h, p⟩
theorem q_seti {α : Type} {e : α → T} {xs : List α} {i : Int} {x : α} {Q : T → Prop} (h0 : 0 ≤ i) (hl : i.toNat < xs.length) (h : Q (.lst .own ((xs.set i.toNat x).map e))) : OpK (setT (.lst .own (xs.map e)) (.int i) (e x)) Q := by
  refine OpK.of (t := .lst .own ((xs.set i.toNat x).map e)) ?_ h
  show ((L2.ixN (xs.map e).length i).map fun j => T.lst .own ((xs.map e).set j (e x))) = _
  have : L2.ixN (xs.map e).length i = some i.toNat := by unfold L2.ixN; rw [if_pos h0, if_pos (by simp; omega)]
  rw [this]
  simp
theorem q_one {i : Nat} {t : T} {e e' : Env} {K : Env → Prop} (v : Nv t) (hs : e.set i (some t) = e') (hl : Nat.blt i e.length = true) (h : K e') : BindK [i] t e K := b_one hs (by simpa using hl) h
theorem q_many {i j : Nat} {is : List Nat} {ts : List T} {e e' : Env} {K : Env → Prop} (v : NvL ts) (hs : ((i :: j :: is).zip ts).foldl (fun e p => e.set p.1 (some p.2)) e = e') (hl : (i :: j :: is).length = ts.length) (hm : (i :: j :: is).all (fun k => Nat.blt k e.length) = true) (h : K e') : BindK (i :: j :: is) (.tup ts) e K := b_many hs hl (by simpa using hm) h
theorem q_end {d : FD} {Q : T → List T → Prop} {t : T} {e : Env} {ios : List T} (v : Nv t) (b : Nb t) (h : iosOf d.md e = some ios) (q : Q t ios) : EndK d Q t e := endk (md := []) h q
theorem q_mov {i : Nat} {t : T} {e' : Env} (e : env[i]? = some (some t)) (hs : env.set i none = e') (h : Q t e') : Post J (evE (Iof PL n) (.mov i) env) Q := p_mov e hs h
theorem q_bor {ms : List Md} {x : IE} {r : IL} {t u : T} {ts : List T} {K : List T → Env → Prop} (m : MapTo Fl.bor t u) (h : PrepK ms r ts env fun us e => K (u :: us) e) : PrepK (.bor :: ms) (.cons x r) (t :: ts) env K := pk_bor h
theorem q_frz {ms : List Md} {x : IE} {r : IL} {t u : T} {ts : List T} {K : List T → Env → Prop} (v : Nv t) (m : MapTo Fl.fre t u) (h : PrepK ms r ts env fun us e => K (u :: us) e) : PrepK (.frz :: ms) (.cons x r) (t :: ts) env K := pk_frz h
theorem q_uio {ms : List Md} {i : Nat} {r : IL} {t : T} {ts : List T} {e1 : Env} {K : Env → Prop} (v : Nv t) (b : Nb t) (hs : env.set i (some t) = e1) (h : PutK ms r ts e1 K) : PutK (.io :: ms) (.cons (.var i) r) (t :: ts) env K := pu_io hs h
theorem s_cut {s : IS} {r : IB} (M : Env → Prop) (h : PostS J (exS (Iof PL n) s env) M R) (k : ∀ e, M e → PostS J (exB (Iof PL n) r e) N R) : PostS J (exB (Iof PL n) (.cons s r) env) N R := s_cons (PostS.imp h (fun _ _ z => z) k fun _ _ h => h)
theorem x_rfl {x y t : T} {Q : T → Prop} (e : idxT x y = some t) (h : Q t) : OpK (idxT x y) Q := OpK.of e h
class MdIs (PL : Pg) (f : Nat) (ms : outParam (List Md)) : Prop where h : mdOf PL f = ms
theorem q_call {f : Nat} {xs : IL} {ms : List Md} (hm : MdIs PL f ms) (h : Post J (evA (Iof PL n) ms xs env) fun ts e1 => CallG ms ts (PrepK ms xs ts e1 fun us e2 => CIs ((Iof PL n).run f us) (fun t ios => PutK ms xs ios e2 fun e3 => Q t e3) fun x ios => PutK ms xs ios e2 fun e3 => J x e3)) : Post J (evE (Iof PL n) (.call f xs) env) Q := p_call hm.h h
theorem iosOf_no : ∀ {ms : List Md} {e : Env} {ios : List T}, anyIo ms = false → iosOf ms e = some ios → ios = []
  | [], e, ios, _, h => by cases e <;> (rw [iosOf] at h; cases h; rfl)
  | .bor :: ms, [], ios, h0, h => by cases h
  | .frz :: ms, [], ios, h0, h => by cases h
  | .bor :: ms, x :: e, ios, h0, h => iosOf_no (ms := ms) (e := e) h0 h
  | .frz :: ms, x :: e, ios, h0, h => iosOf_no (ms := ms) (e := e) h0 h
  | .io :: ms, _, ios, h0, h => by cases h0
theorem run_ios {f : Nat} {us : List T} {t : T} {ios : List T} (h0 : anyIo (mdOf PL f) = false) (h : (Iof PL n).run f us = .ok t ios) : ios = [] := by
  cases n with
  | zero => cases h
  | succ n =>
    change (match PL.fs[f]? with | some d => runFn (Iof PL n) d us | none => .stuck) = _ at h
    cases e : PL.fs[f]? with
    | none => rw [e] at h; cases h
    | some d =>
      have hm : anyIo d.md = false := by
        have : mdOf PL f = d.md := by unfold mdOf; rw [e]
        rwa [this] at h0
      rw [e] at h
      change runFn (Iof PL n) d us = _ at h
      unfold runFn at h
      split at h
      · split at h
        · split at h
          · cases h
          · split at h
            · rename_i hi; cases h; exact iosOf_no hm hi
            · cases h
        · split at h
          · rename_i hi; cases h; exact iosOf_no hm hi
          · cases h
        · split at h <;> cases h
        · cases h
      · cases h
theorem run_iosX {f : Nat} {us : List T} {x : Xn} {ios : List T} (h0 : anyIo (mdOf PL f) = false) (h : (Iof PL n).run f us = .exc x ios) : ios = [] := by
  cases n with
  | zero => cases h
  | succ n =>
    change (match PL.fs[f]? with | some d => runFn (Iof PL n) d us | none => .stuck) = _ at h
    cases e : PL.fs[f]? with
    | none => rw [e] at h; cases h
    | some d =>
      have hm : anyIo d.md = false := by
        have : mdOf PL f = d.md := by unfold mdOf; rw [e]
        rwa [this] at h0
      rw [e] at h
      change runFn (Iof PL n) d us = _ at h
      unfold runFn at h
      split at h
      · split at h
        · split at h
          · cases h
          · split at h <;> cases h
        · split at h <;> cases h
        · split at h
          · rename_i hi; cases h; exact iosOf_no hm hi
          · cases h
        · cases h
      · cases h
theorem q_call0 {f : Nat} {xs : IL} {ms : List Md} (hm : MdIs PL f ms) (h0 : anyIo ms = false) (h : Post J (evA (Iof PL n) ms xs env) fun ts e1 => PrepK ms xs ts e1 fun us e2 => CIs ((Iof PL n).run f us) (fun t _ => Q t e2) fun x _ => J x e2) : Post J (evE (Iof PL n) (.call f xs) env) Q := by
  refine p_call hm.h (h.imp fun ts e1 _ h => cg_l h0 ?_)
  unfold PrepK at h ⊢
  cases e : prep ms xs ts e1 with
  | none => rw [e] at h; exact h
  | some p =>
    rw [e] at h
    dsimp only at h ⊢
    cases er : (Iof PL n).run f p.1 with
    | stuck => rw [er] at h; exact h
    | exc x ios =>
      rw [er] at h
      obtain rfl := run_iosX (by rw [hm.h]; exact h0) er
      show PutK ms xs [] p.2 _
      unfold PutK
      rw [putb_no (us := p.1) (e1 := p.2) (e2 := p.2) h0 e]
      exact h
    | ok t ios =>
      rw [er] at h
      obtain rfl := run_ios (by rw [hm.h]; exact h0) er
      show PutK ms xs [] p.2 _
      unfold PutK
      rw [putb_no (us := p.1) (e1 := p.2) (e2 := p.2) h0 e]
      exact h
class GvIs (PL : Pg) (x : Str) (t : outParam T) : Prop where h : PL.gs.lookup x = some t
theorem q_gv {x : Str} {t : T} (k : GvIs PL x t) (h : Q t env) : Post J (evE (Iof PL n) (.gv x) env) Q := p_gv k.h h
theorem c_isx {x y : T} {b : Bool} {Q : Bool → Prop} (e : cmpT .Is x y = some b) (h : Q b) : OpB (cmpT .Is x y) Q := OpB.of e h
theorem c_isnx {x y : T} {b : Bool} {Q : Bool → Prop} (e : cmpT .IsNot x y = some b) (h : Q b) : OpB (cmpT .IsNot x y) Q := OpB.of e h
theorem q_imp {P : Prop} {b : Bool} (h : P) (hb : b = true → P → P := fun _ h => h) : b = true → P := fun _ => h
end
theorem fold_min : ∀ (r : List Int) (a : Int), (r.foldl min a = a ∨ r.foldl min a ∈ r) ∧ r.foldl min a ≤ a ∧ ∀ x ∈ r, r.foldl min a ≤ x
  | [], a => ⟨.inl rfl, Int.le_refl _, fun _ h => by cases h⟩
  | b :: r, a => by
    obtain ⟨h1, h2, h3⟩ := fold_min r (min a b)
    rw [List.foldl_cons]
    refine ⟨?_, by omega, fun x hx => ?_⟩
    · rcases h1 with h1 | h1
      · rcases Int.le_total a b with h | h
        · rw [h1]; left; omega
        · rw [h1]; right; rw [show min a b = b by omega]; exact List.mem_cons_self
      · exact .inr (List.mem_cons_of_mem _ h1)
    · rcases List.mem_cons.mp hx with rfl | h
      · omega
      · exact h3 x h
theorem fold_max : ∀ (r : List Int) (a : Int), (r.foldl max a = a ∨ r.foldl max a ∈ r) ∧ a ≤ r.foldl max a ∧ ∀ x ∈ r, x ≤ r.foldl max a
  | [], a => ⟨.inl rfl, Int.le_refl _, fun _ h => by cases h⟩
  | b :: r, a => by
    obtain ⟨h1, h2, h3⟩ := fold_max r (max a b)
    rw [List.foldl_cons]
    refine ⟨?_, by omega, fun x hx => ?_⟩
    · rcases h1 with h1 | h1
      · rcases Int.le_total b a with h | h
        · rw [h1]; left; omega
        · rw [h1]; right; rw [show max a b = b by omega]; exact List.mem_cons_self
      · exact .inr (List.mem_cons_of_mem _ h1)
    · rcases List.mem_cons.mp hx with rfl | h
      · omega
      · exact h3 x h
section
variable {Q : T → Prop} {f : Fl} {xs : List Int}
theorem k_minR (c : xs ≠ []) (h : ∀ m, m ∈ xs → (∀ x ∈ xs, m ≤ x) → Q (.int m)) : OpK (bltT "min" [.lst f (xs.map T.int)]) Q := by
  cases xs with
  | nil => exact absurd rfl c
  | cons a r =>
    obtain ⟨h1, h2, h3⟩ := fold_min r a
    refine k_minl rfl (h _ ?_ fun x hx => ?_)
    · rcases h1 with h1 | h1
      · rw [h1]; exact List.mem_cons_self
      · exact List.mem_cons_of_mem _ h1
    · rcases List.mem_cons.mp hx with rfl | h
      · exact h2
      · exact h3 x h
theorem k_maxR (c : xs ≠ []) (h : ∀ m, m ∈ xs → (∀ x ∈ xs, x ≤ m) → Q (.int m)) : OpK (bltT "max" [.lst f (xs.map T.int)]) Q := by
  cases xs with
  | nil => exact absurd rfl c
  | cons a r =>
    obtain ⟨h1, h2, h3⟩ := fold_max r a
    refine k_maxl rfl (h _ ?_ fun x hx => ?_)
    · rcases h1 with h1 | h1
      · rw [h1]; exact List.mem_cons_self
      · exact List.mem_cons_of_mem _ h1
    · rcases List.mem_cons.mp hx with rfl | h
      · exact h2
      · exact h3 x h
end
end VI

namespace VI
open PySem L2
theorem mulB {i j : Int} (hi : -(2 ^ 250) < i ∧ i < 2 ^ 250) (hj : -(2 ^ 250) < j ∧ j < 2 ^ 250) : CMulW i j := wide_mul (a := 250) (b := 250) (by omega) (by omega) (by decide) (by decide) (by decide)
theorem divB {i j : Int} (h0 : 0 < j) (hj : j < 2 ^ 250) : CDivW i j := wide_div (b := 250) h0 (by omega) (by decide) (by decide)
theorem mul_bd {a b : Int} {A B : Int} (ha : 0 ≤ a ∧ a ≤ A) (hb : 0 ≤ b ∧ b ≤ B) : 0 ≤ a * b ∧ a * b ≤ A * B :=
  ⟨Int.mul_nonneg ha.1 hb.1, Int.mul_le_mul ha.2 hb.2 hb.1 (by omega)⟩
theorem getEl {α : Type} {xs : List α} {k : Nat} (h : k < xs.length) : xs[k]? = some xs[k] := by simp [h]
theorem def_mk {K : PySem.W.Frag} {Z : Wo} {d : FD} {st : Stmt} {x q : Str} {f : Addr} {oc : Value} {od an : Option Addr} {sl : Array (Option Value)} {kV doc pm cd ct : Value} (h0 : d.own = none) (hx : d.name = x) (hq : d.qual = q) (a1 : PySem.W.nsIn K mainGlobals x = some (some (.ref f)))
    (a2 : K.lookup f = some ⟨oc, od, .func (PySem.W.fnOf x q (defArgs st) (defBody st) (defScope st) .none kV doc pm an cd ct), sl⟩) (a3 : PySem.W.codeIn K cd q = true) (a4 : PySem.W.keepIn K (.ref f) = true) : FnAt K d st f ∧ Stands K Z d f := by
  subst hx hq
  exact ⟨⟨oc, od, an, sl, kV, doc, pm, cd, ct, a2, a3, a4⟩, by unfold Stands; rw [h0]; exact a1⟩
/-- the classes' addresses, in their order -/
def clsL (Cs : List Addr) (c : Nat) : Addr := (Cs[c]?).getD 0
theorem def_mkM {K : PySem.W.Frag} {PL : Pg} {xcl : Nat → Addr} {Cs : List Addr} {d : FD} {st : Stmt} {x q : Str} {f C : Addr} {c : Nat} {oc : Value} {od an : Option Addr} {sl : Array (Option Value)} {kV doc pm cd ct : Value} (h0 : d.own = some c) (hx : d.name = x) (hq : d.qual = q) (hc : Cs[c]? = some C) (a1 : PySem.W.findIn K (.ref C) x = some (some (.ref f)))
    (a2 : K.lookup f = some ⟨oc, od, .func (PySem.W.fnOf x q (defArgs st) (defBody st) (defScope st) .none kV doc pm an cd ct), sl⟩) (a3 : PySem.W.codeIn K cd q = true) (a4 : PySem.W.keepIn K (.ref f) = true) (a5 : PySem.W.isFn K (.ref f) = true) : FnAt K d st f ∧ Stands K (mkWo K (clsL Cs) xcl PL) d f := by
  subst hx hq
  refine ⟨⟨oc, od, an, sl, kV, doc, pm, cd, ct, a2, a3, a4⟩, ?_⟩
  unfold Stands
  rw [h0]
  show PySem.W.findIn K (.ref (clsL Cs c)) _ = _ ∧ _
  unfold clsL
  rw [hc]
  exact ⟨a1, a5⟩
theorem cat_mk {K : PySem.W.Frag} {C : Addr} {k : CD} {x : Str} {fl : List Str} (hx : k.name = x) (hf : k.fl = fl) (a1 : PySem.W.nsIn K mainGlobals x = some (some (.ref C))) (a2 : PySem.W.plainGet K C Str.empty = true) (a3 : PySem.W.hasDictIn K C = true) (a4 : PySem.W.plainOver K C = true)
    (a5 : PySem.W.findIn K (.ref C) "__setattr__" = some (some (.builtin "object.__setattr__"))) (a6 : PySem.W.makesIn K C = true) (a7 : PySem.W.keepIn K (.ref C) = true) (a8 : ∀ x ∈ fl, PySem.W.findIn K (.ref C) x = some none) : CAt K C k := by
  subst hx hf
  exact ⟨a1, ⟨a2, a3, a4, a5⟩, a6, a7, a8⟩
def CAts (K : PySem.W.Frag) : List Addr → List CD → Prop
  | [], [] => True
  | C :: Cs, k :: ks => CAt K C k ∧ CAts K Cs ks
  | _, _ => False
theorem cats_at {K : PySem.W.Frag} : ∀ {Cs : List Addr} {ks : List CD}, CAts K Cs ks → ∀ (c : Nat) (k : CD), ks[c]? = some k → CAt K (clsL Cs c) k
  | [], [], _, c, k, h => by simp at h
  | C :: Cs, k0 :: ks, h, 0, k, e => by
    simp at e; subst e
    exact h.1
  | C :: Cs, k0 :: ks, h, c + 1, k, e => by
    have := cats_at h.2 c k (by simpa using e)
    unfold clsL at this ⊢
    simpa using this
theorem cd_list {K : PySem.W.Frag} {PL : Pg} {Cs Xs : List Addr} {ks : List CD} (hk : PL.cs = ks) (hC : CAts K Cs ks) (hX : XLaw K PL (clsL Xs)) (hD : ∀ (i : Nat) (d : FD), PL.fs[i]? = some d → ∃ st fa, DOk (nmOf PL) st d ∧ FnAt K d st fa ∧ Stands K (mkWo K (clsL Cs) (clsL Xs) PL) d fa) :
    ∃ cx : (Nat → Addr) × (Nat → Addr), (∀ c k, PL.cs[c]? = some k → CAt K (cx.1 c) k) ∧ XLaw K PL cx.2 ∧ ∀ (i : Nat) (d : FD), PL.fs[i]? = some d → ∃ st fa, DOk (nmOf PL) st d ∧ FnAt K d st fa ∧ Stands K (mkWo K cx.1 cx.2 PL) d fa :=
  ⟨(clsL Cs, clsL Xs), fun c k h => cats_at hC c k (by rw [← hk]; exact h), hX, hD⟩
/-- the exceptions, one by one -/
def XAts (K : PySem.W.Frag) : List Addr → List XD → Prop
  | [], [] => True
  | C :: Cs, d :: ds => XAtK K C d ∧ XAts K Cs ds
  | _, _ => False
theorem xats_at {K : PySem.W.Frag} : ∀ {Cs : List Addr} {ds : List XD}, XAts K Cs ds → ∀ (c : Nat) (d : XD), ds[c]? = some d → ∃ C, Cs[c]? = some C ∧ XAtK K C d
  | [], [], _, c, d, h => by simp at h
  | C :: Cs, d0 :: ds, h, 0, d, e => by
    simp at e; subst e
    exact ⟨C, rfl, h.1⟩
  | C :: Cs, d0 :: ds, h, c + 1, d, e => by
    obtain ⟨C', a, b⟩ := xats_at h.2 c d (by simpa using e)
    exact ⟨C', by simpa using a, b⟩
theorem xats_len {K : PySem.W.Frag} : ∀ {Cs : List Addr} {ds : List XD}, XAts K Cs ds → Cs.length = ds.length
  | [], [], _ => rfl
  | _ :: _, _ :: _, h => by simp [xats_len h.2]
  | [], _ :: _, h => h.elim
  | _ :: _, [], h => h.elim
/-- what is asked of the classes, as a table -/
def xTab (K : PySem.W.Frag) (Xs : List Addr) (cv : Value) (f : Nat → Bool) : Prop := ∀ c C, Xs[c]? = some C → PySem.W.exmOne K (.ref C) cv = some (f c) ∧ PySem.W.kitOne K (.ref C) cv = some (f c)
theorem xtab_nil {K : PySem.W.Frag} {cv : Value} {f : Nat → Bool} : xTab K [] cv f := fun c C h => by simp at h
theorem xtab_cons {K : PySem.W.Frag} {C : Addr} {Xs : List Addr} {cv : Value} {f : Nat → Bool} (a : PySem.W.exmOne K (.ref C) cv = some (f 0)) (b : PySem.W.kitOne K (.ref C) cv = some (f 0)) (h : xTab K Xs cv fun c => f (c + 1)) : xTab K (C :: Xs) cv f := fun c D e => by
  cases c with
  | zero => simp at e; subst e; exact ⟨a, b⟩
  | succ c => exact h c D (by simpa using e)
theorem xlaw_mk {K : PySem.W.Frag} {PL : Pg} {Xs : List Addr} {ds : List XD} {bn : Str} {CB : Addr} (hx : PL.xs = ds) (hb : PL.xb = some bn) (hX : XAts K Xs ds) (nb : PySem.W.nsIn K mainGlobals bn = some (some (.ref CB))) (nv : PySem.W.nsIn K mainGlobals "ValueError" = some none)
    (tb : xTab K Xs (.ref CB) fun _ => true) (tv : xTab K Xs (.type "ValueError") fun _ => true) (to : ∀ c C, Xs[c]? = some C → xTab K Xs (.ref C) fun d => d == c) : XLaw K PL (clsL Xs) where
  at_ := fun c d h => by
    obtain ⟨C, a, b⟩ := xats_at hX c d (by rw [← hx]; exact h)
    show XAtK K ((Xs[c]?).getD 0) d
    rw [a]; exact b
  kn := fun k x h => by
    have tab : ∀ {cv : Value} {f : Nat → Bool}, xTab K Xs cv f → ∀ c, xoOf PL c = true → PySem.W.exmOne K (.ref (clsL Xs c)) cv = some (f c) ∧ PySem.W.kitOne K (.ref (clsL Xs c)) cv = some (f c) := fun {cv f} t c hc => by
      have hc : c < PL.xs.length := of_decide_eq_true hc
      rw [hx, ← xats_len hX] at hc
      have e : Xs[c]? = some Xs[c] := by simp [hc]
      have := t c _ e
      show PySem.W.exmOne K (.ref ((Xs[c]?).getD 0)) cv = _ ∧ PySem.W.kitOne K (.ref ((Xs[c]?).getD 0)) cv = _
      rw [e]; exact this
    unfold nmOf at h
    dsimp only at h
    cases k with
    | own c =>
      dsimp only at h
      rw [hx] at h
      cases e : ds[c]? with
      | none => rw [e] at h; cases h
      | some d =>
        rw [e] at h
        cases h
        obtain ⟨C, a, b⟩ := xats_at hX c d e
        exact ⟨.ref C, .ref C, rfl, fun u h => h, .inl b.ns, tab (to c C a)⟩
    | base =>
      dsimp only at h
      rw [hb] at h
      cases h
      exact ⟨.ref CB, .ref CB, rfl, fun u h => h, .inl nb, tab tb⟩
    | val =>
      dsimp only at h
      split at h
      · cases h
      · cases h
        exact ⟨.ty "ValueError", .type "ValueError", rfl, fun u h => h, .inr ⟨nv, by decide +kernel, by decide⟩, tab tv⟩
/-- what OexC asks of the class's object -/
def oexO (C : Addr) (o : Obj) : Bool := match o with
  | ⟨.type t, _, .cls ⟨_, _, .ref D :: bm, _, _, true, _, _, _, _, false⟩, ⟨[_, _, _, _, some (.builtin n), _]⟩⟩ => t == "type" && (D == C && (n == "ValueError.__new__" && PySem.HandSPX.refsVE bm))
  | _ => false
theorem oex_mk {K : PySem.W.Frag} {C : Addr} {o : Obj} (h : K.lookup C = some o) (h2 : oexO C o = true) (h3 : PySem.W.findIn K (.ref C) "__setattr__" = some (some (.builtin "object.__setattr__"))) (h4 : PySem.W.subIn K (.ref C) (.type "BaseException") = some true)
    (h5 : PySem.W.typeIn K (.ref C) = some (.type "type")) (h6 : PySem.W.keepIn K (.ref C) = true) : OexC K C := by
  refine ⟨?_, h3, h4, h5, h6⟩
  unfold oexO at h2
  split at h2
  · rename_i t dd nm bs D bm N q sn sub ab col k0 k1 k2 k3 n k5
    obtain ⟨a, b, c⟩ := and3 h2
    rw [Bool.and_eq_true] at c
    obtain rfl := beq_iff_eq.mp a
    obtain rfl := beq_iff_eq.mp b
    obtain rfl := beq_iff_eq.mp c.1
    exact ⟨nm, q, N, bs, bm, sn, sub, ab, col, dd, k0, k1, k2, k3, k5, h, c.2⟩
  · cases h2
/-- a class with an __init__ of its own -/
theorem xat_mk {K : PySem.W.Frag} {C fI CB : Addr} {d : XD} {x bn qual : Str} {fl N : List Str} {st : Stmt} {oc : Value} {od an : Option Addr} {sl : Array (Option Value)} {kV doc pm cd ct : Value}
    (hd : d = ⟨x, fl, true⟩) (a1 : PySem.W.nsIn K mainGlobals x = some (some (.ref C))) (ec : ExcC K C) (na : ∀ f ∈ fl, PySem.W.findIn K (.ref C) f = some none) (oe : OexC K C) (h1 : fl.Nodup ∧ fl ≠ [] ∧ fl.length ≤ 900)
    (f1 : PySem.W.findIn K (.ref C) "__init__" = some (some (.ref fI))) (f2 : PySem.W.typeIn K (.ref fI) = some (.type "function"))
    (f3 : K.lookup fI = some ⟨oc, od, .func (PySem.W.fnOf "__init__" qual (defArgs st) (defBody st) (defScope st) .none kV doc pm an cd ct), sl⟩) (f4 : PySem.W.codeIn K cd qual = true) (f5 : PySem.W.keepIn K (.ref fI) = true)
    (ok : FnScope N N (defScope st) ∧ ckIni bn N (defScope st) fl (defBody st) = true) (hN : N.length = fl.length + 1) (okb : ∀ (kV doc pm : Value) (an : Option Addr) (cdv ct : Value) (us : List Value), us.length = N.length → bindArgs (PySem.W.fnOf "__init__" qual (defArgs st) (defBody st) (defScope st) .none kV doc pm an cdv ct) ⟨us, []⟩ = pure (N.zip us))
    (nb : PySem.W.nsIn K mainGlobals bn = some (some (.ref CB))) (bi : BIni K CB) : XAtK K C d := by
  subst hd
  exact ⟨a1, ec, ⟨ec.hg, ec.hk, ec.hs, ec.hd⟩, na, by rw [if_pos rfl]; exact ⟨oe, h1.1, h1.2.1, h1.2.2, qual, bn, N, st, fI, CB, ⟨f1, f2, ⟨oc, od, an, sl, kV, doc, pm, cd, ct, f3, f4, f5⟩, ok.1, hN, ok.2, okb, nb, bi⟩⟩⟩
theorem bn_mk {K : PySem.W.Frag} (h : ∀ x ∈ (["len", "abs", "max", "min", "sum", "all", "list", "int", "bool", "str", "tuple", "dict", "isinstance", "range", "enumerate", "zip", "sorted"] : List Str), PySem.W.nsIn K mainGlobals x = some none) : ∀ x ∈ bNames, PySem.W.nsIn K mainGlobals x = some none := fun x hx => h x (by
  revert hx
  have : ∀ x ∈ bNames, x ∈ (["len", "abs", "max", "min", "sum", "all", "list", "int", "bool", "str", "tuple", "dict", "isinstance", "range", "enumerate", "zip", "sorted"] : List Str) := by decide +kernel
  exact this x)
/-- a class's body -/
def clsBody : Stmt → List Stmt
  | .ClassDef (body := b) .. => b
  | _ => []
end VI

namespace VI
open PySem L2
theorem zipIdx_at {α : Type} {xs : List α} {d r : List (α × Nat)} {x : α} {j : Nat} (h : xs.zipIdx 0 = d ++ (x, j) :: r) : j = d.length ∧ xs[d.length]? = some x ∧ d.length < xs.length := by
  have hj := congrArg (fun l => l[d.length]?) h
  have hl := congrArg List.length h
  simp only [List.getElem?_zipIdx, List.length_zipIdx] at hj hl
  rw [List.getElem?_append_right (Nat.le_refl _), Nat.sub_self, List.getElem?_cons_zero] at hj
  obtain ⟨a, ha, e⟩ := Option.map_eq_some_iff.mp hj
  cases e
  refine ⟨by omega, ha, ?_⟩
  rw [List.length_append, List.length_cons] at hl
  omega
theorem inT_bls {f : Fl} {b : Bool} {xs : List Bool} : inT (.bl b) (.lst f (xs.map T.bl)) = some (decide (b ∈ xs)) := by
  have a : ((xs.map T.bl).all fun z => kindT z (.bl b)) = true := by rw [List.all_map, List.all_eq_true]; intro z _; rfl
  show (if (T.flat (.bl b) && (xs.map T.bl).all fun z => kindT z (.bl b)) = true then some (memT (.bl b) (xs.map T.bl)) else none) = _
  rw [a]
  show some (memT (.bl b) (xs.map T.bl)) = _
  congr 1
  unfold memT
  rw [Bool.eq_iff_iff, decide_eq_true_iff, List.any_map, List.any_eq_true]
  constructor
  · rintro ⟨x, hx, e⟩
    have e : decide (x = b) = true := e
    rw [decide_eq_true_iff] at e
    exact e ▸ hx
  · intro h
    exact ⟨b, h, show decide (b = b) = true by simp⟩
theorem c_inb {Q : Bool → Prop} {f : Fl} {b : Bool} {xs : List Bool} (h : Q (decide (b ∈ xs))) : OpB (cmpT .In (.bl b) (.lst f (xs.map T.bl))) Q := by
  show OpB (inT (.bl b) (.lst f (xs.map T.bl))) Q
  rw [inT_bls]
  exact h
theorem x_lastE {α : Type} {enc : α → T} {f : Fl} {Q : T → Prop} {R : List α} (h : R ≠ []) (q : Q (enc (R.getLast h))) : OpK (idxT (.lst f (R.map enc)) (.int (-1))) Q := by
  have hl : 0 < R.length := List.length_pos_iff.mpr h
  refine OpK.of (t := enc (R.getLast h)) ?_ q
  show L2.atI (R.map enc) (-1) = _
  unfold L2.atI L2.ixN
  rw [if_neg (by decide), if_pos (by simp; omega)]
  have : ((-1 : Int) + ((R.map enc).length : Int)).toNat = R.length - 1 := by simp; omega
  simp only [this]
  show (R.map enc)[R.length - 1]? = _
  rw [List.getElem?_map, List.getLast_eq_getElem, List.getElem?_eq_getElem (by omega)]
  rfl
theorem inT_sign {c : Nat} {z : Str} : inT (.str ⟨#[c]⟩) (.str z) = some (decide (c ∈ z.cps.toList)) := rfl
theorem c_inS {Q : Bool → Prop} {c : Nat} {z : Str} (h : Q (decide (c ∈ z.cps.toList))) : OpB (cmpT .In (.str ⟨#[c]⟩) (.str z)) Q := h
theorem c_ninS {Q : Bool → Prop} {c : Nat} {z : Str} (h : Q (!decide (c ∈ z.cps.toList))) : OpB (cmpT .NotIn (.str ⟨#[c]⟩) (.str z)) Q := h
theorem c_ninb {Q : Bool → Prop} {f : Fl} {b : Bool} {xs : List Bool} (h : Q (!decide (b ∈ xs))) : OpB (cmpT .NotIn (.bl b) (.lst f (xs.map T.bl))) Q := by
  show OpB ((inT (.bl b) (.lst f (xs.map T.bl))).map (!·)) Q
  rw [inT_bls]
  exact h
/-- one sign, as a text -/
def eC (c : Nat) : T := .str ⟨#[c]⟩
instance {c : Nat} : Nv (eC c) := ⟨rfl⟩
instance {g : Fl → Fl} {c : Nat} : MapTo g (eC c) (eC c) := ⟨rfl⟩
theorem q_itS {s : Str} {Q : List T → Prop} (h : Q (s.cps.toList.map eC)) : ItK (itemsT (.str s)) Q := h
theorem c_inE {Q : Bool → Prop} {c : Nat} {z : Str} (h : Q (decide (c ∈ z.cps.toList))) : OpB (cmpT .In (eC c) (.str z)) Q := h
theorem c_ninE {Q : Bool → Prop} {c : Nat} {z : Str} (h : Q (!decide (c ∈ z.cps.toList))) : OpB (cmpT .NotIn (eC c) (.str z)) Q := h
theorem strsT_map : ∀ xs : List Str, strsT (xs.map T.str) = some xs
  | [] => rfl
  | x :: r => by rw [List.map_cons, strsT, strsT_map r]; rfl
theorem j_join {Q : T → Prop} {f : Fl} {s : Str} {xs : List Str} (c : (xs.map (·.length)).sum + xs.length * s.length ≤ LIM) (h : Q (.str (Txt.join s xs))) : OpK (smtT "join" (.str s) [.lst f (xs.map T.str)]) Q := OpK.of (by
  show (match strsT (xs.map T.str) with | some ys => if (ys.map (fun y : Str => y.length)).sum + ys.length * s.length ≤ LIM then some (T.str (Txt.join s ys)) else none | none => none) = _
  rw [strsT_map]
  exact if_pos c) h
theorem x_strE {Q : T → Prop} {s : Str} {i : Int} (hl : s.length ≤ LIM) (h0 : 0 ≤ i) (h1 : i.toNat < s.cps.toList.length) (h : Q (eC s.cps.toList[i.toNat])) : OpK (idxT (.str s) (.int i)) Q := x_str hl (atI_int h0 h1) h
theorem len_add {s u : Str} : (s ++ u).length = s.length + u.length := by
  show (s.cps ++ u.cps).size = _
  rw [Array.size_append]; rfl
theorem len_one {c : Nat} : (⟨#[c]⟩ : Str).length = 1 := rfl
end VI

namespace VI
open PySem L2
section
variable {J : Xn → Env → Prop} {PL : Pg} {n : Nat} {env : Env} {Q : T → Env → Prop} {N : Env → Prop} {R : T → Env → Prop}
/-! fields -/
theorem o_fld {c k : Nat} {x t : T} {Q : T → Prop} (e : fldT c k x = some t) (h : Q t) : OpK (fldT c k x) Q := OpK.of e h
theorem x_setF {c k : Nat} {u t c' : T} {Q : T → Prop} (e : setF c k u t = some c') (h : Q c') : OpK (setF c k u t) Q := OpK.of e h
theorem is_rfl {x : T} {y : Str} {b : Bool} {Q : Bool → Prop} (e : isiT x y = some b) (h : Q b) : OpB (isiT x y) Q := OpB.of e h
/-! a list's methods -/
theorem p_lmt {m : Str} {o : IE} {xs : IL} (h : Post J (evE (Iof PL n) o env) fun x e1 => Gd x.vw (pL (Iof PL 0) xs) (Post (fun _ _ => False) (evL (Iof PL n) xs e1) fun ts e2 => OpK (lmtT m x ts) fun t => Q t e2)) : Post J (evE (Iof PL n) (.lmt m o xs) env) Q := by
  rw [evE]
  refine post_bind (h.imp fun x e1 _ h => post_gd ?_)
  rw [pL0]
  exact ⟨h.1, post_bindN (h.2.imp fun y e2 _ h => post_ofO h)⟩
theorem ixOf_str : ∀ {xs : List Str} {s : Str}, s ∈ xs → ixOf (.str s) (xs.map T.str) = some (xs.idxOf s)
  | [], s, h => by cases h
  | a :: r, s, h => by
    rw [List.map_cons, ixOf, List.idxOf_cons]
    by_cases e : a = s
    · subst e
      rw [if_pos (show sameT (.str a) (.str a) = true from decide_eq_true rfl)]
      simp
    · rw [if_neg (show ¬ sameT (.str a) (.str s) = true from fun z => e (of_decide_eq_true z))]
      rcases List.mem_cons.mp h with h | h
      · exact absurd h.symm e
      · rw [ixOf_str h]
        have : (a == s) = false := by simpa using e
        simp [this]
theorem k_index {f : Fl} {xs : List Str} {s : Str} {Q : T → Prop} (h : s ∈ xs) (q : Q (.int (xs.idxOf s : Nat))) : OpK (lmtT "index" (.lst f (xs.map T.str)) [.str s]) Q := OpK.of (by
  show (if ("index" : Str) = "index" then (if (T.str s).flat && (xs.map T.str).all (fun z => kindT z (.str s)) then (ixOf (.str s) (xs.map T.str)).map fun j => T.int (j : Nat) else none) else none) = _
  rw [if_pos rfl, if_pos, ixOf_str h]; rfl
  rw [List.all_map, Bool.and_eq_true, List.all_eq_true]
  exact ⟨rfl, fun z _ => rfl⟩) q
/-! displays -/
def DctK (ks : List Str) (ts : List T) (P : Prop) : Prop := (vwL ts = false ∧ ts.length = ks.length ∧ (ks.map Sum.inr : List Key).Nodup ∧ ts.length ≤ 15) ∧ P
theorem q_dct {ks : List Str} {xs : IL} (h : Post J (evL (Iof PL n) xs env) fun ts e1 => DctK ks ts (Q (.dic .own (ks.map Sum.inr) ts) e1)) : Post J (evE (Iof PL n) (.dct ks xs) env) Q := p_dct h
theorem q_dctk {ks : List Str} {ts : List T} {P : Prop} (v : NvL ts) (e : Nat.beq ts.length ks.length = true) (nd : decide ((ks.map Sum.inr : List Key).Nodup) = true) (l : Nat.ble ts.length 15 = true) (h : P) : DctK ks ts P :=
  ⟨⟨v.h, Nat.eq_of_beq_eq_true e, of_decide_eq_true nd, Nat.le_of_ble_eq_true l⟩, h⟩
/-! methods -/
theorem q_methio {c f i : Nat} {xs : IL} {ms : List Md} {vs : List T} (hm : MdIs PL f (.io :: ms)) (e : env[i]? = some (some (.ins .own c vs)))
    (h : Post J (evA (Iof PL n) ms xs env) fun ts e2 => CallT PL n f (.io :: ms) (.cons (.var i) xs) (.non :: ts) e2 Q J) : Post J (evE (Iof PL n) (.meth c f (.var i) xs) env) Q := p_methio hm.h e h
theorem q_meth {c f : Nat} {o : IE} {xs : IL} {ms : List Md} (hm : MdIs PL f (.bor :: ms))
    (h : Post J (evE (Iof PL n) o env) fun x e1 => isC c x = true ∧ Gd x.vw (pL (Iof PL 0) xs) (Post J (evA (Iof PL n) ms xs e1) fun ts e2 => CallT PL n f (.bor :: ms) (.cons o xs) (x :: ts) e2 Q J)) : Post J (evE (Iof PL n) (.meth c f o xs) env) Q := p_meth hm.h (fun z => nomatch z) h
theorem q_isC {c : Nat} {x : T} {P : Prop} (e : isC c x = true) (h : P) : isC c x = true ∧ P := ⟨e, h⟩
theorem q_callT {f : Nat} {ms : List Md} {xs : IL} {ts : List T} (h : CallG ms ts (PrepK ms xs ts env fun us e2 => CIs ((Iof PL n).run f us) (fun t ios => PutK ms xs ios e2 fun e3 => Q t e3) fun x ios => PutK ms xs ios e2 fun e3 => J x e3)) : CallT PL n f ms xs ts env Q J := h
theorem q_callT0 {f : Nat} {ms : List Md} {xs : IL} {ts : List T} (hm : MdIs PL f ms) (h0 : anyIo ms = false) (h : PrepK ms xs ts env fun us e2 => CIs ((Iof PL n).run f us) (fun t _ => Q t e2) fun x _ => J x e2) : CallT PL n f ms xs ts env Q J := by
  refine cg_l h0 ?_
  unfold PrepK at h ⊢
  cases e : prep ms xs ts env with
  | none => rw [e] at h; exact h
  | some p =>
    rw [e] at h
    dsimp only at h ⊢
    cases er : (Iof PL n).run f p.1 with
    | stuck => rw [er] at h; exact h
    | exc x ios =>
      rw [er] at h
      obtain rfl := run_iosX (by rw [hm.h]; exact h0) er
      show PutK ms xs [] p.2 _
      unfold PutK
      rw [putb_no (us := p.1) (e1 := p.2) (e2 := p.2) h0 e]
      exact h
    | ok t ios =>
      rw [er] at h
      obtain rfl := run_ios (by rw [hm.h]; exact h0) er
      show PutK ms xs [] p.2 _
      unfold PutK
      rw [putb_no (us := p.1) (e1 := p.2) (e2 := p.2) h0 e]
      exact h
theorem q_new {c f : Nat} {xs : IL} {ms : List Md} (hm : MdIs PL f (.io :: ms)) (h : Post J (evA (Iof PL n) ms xs env) fun ts e1 => NewK PL n c f ms xs ts e1 Q J) : Post J (evE (Iof PL n) (.new c f xs) env) Q := p_new hm.h h
theorem q_newK {c f : Nat} {ms : List Md} {xs : IL} {ts : List T} (a : anyIo ms = false) (b : vwBor ms ts = false)
    (h : PrepK ms xs ts env fun us e2 => CIs ((Iof PL n).run f (.ins .own c [] :: us)) (fun r ios => r = .non ∧ ∃ t, ios = [t] ∧ t.vw = false ∧ t.hasBrw = false ∧ isC c t = true ∧ Q t e2) fun x ios => ∃ t, ios = [t] ∧ t.vw = false ∧ t.hasBrw = false ∧ J x e2) : NewK PL n c f ms xs ts env Q J := ⟨⟨a, b⟩, h⟩
class VwB (ms : List Md) (ts : List T) : Prop where h : vwBor ms ts = false
instance {ts : List T} : VwB [] ts := ⟨by cases ts <;> rfl⟩
instance {ms : List Md} : VwB ms [] := ⟨by cases ms with | nil => rfl | cons m ms => cases m <;> rfl⟩
instance {t : T} {ms : List Md} {ts : List T} [v : Nv t] [k : VwB ms ts] : VwB (.bor :: ms) (t :: ts) := ⟨by rw [vwBor, v.h, k.h]; rfl⟩
instance {t : T} {ms : List Md} {ts : List T} [k : VwB ms ts] : VwB (.io :: ms) (t :: ts) := ⟨k.h⟩
instance {t : T} {ms : List Md} {ts : List T} [k : VwB ms ts] : VwB (.frz :: ms) (t :: ts) := ⟨k.h⟩
theorem q_cgr {ms : List Md} {ts : List T} {P : Prop} (k : VwB ms ts) (h : P) : CallG ms ts P := cg_r k.h h
theorem q_newB {c f : Nat} {ms : List Md} {xs : IL} {ts : List T} (a : anyIo ms = false) (b : VwB ms ts)
    (h : PrepK ms xs ts env fun us e2 => CIs ((Iof PL n).run f (.ins .own c [] :: us)) (fun r ios => r = .non ∧ ∃ t, ios = [t] ∧ t.vw = false ∧ t.hasBrw = false ∧ isC c t = true ∧ Q t e2) fun x ios => ∃ t, ios = [t] ∧ t.vw = false ∧ t.hasBrw = false ∧ J x e2) : NewK PL n c f ms xs ts env Q J := ⟨⟨a, b.h⟩, h⟩
/-! places -/
class LendTo (e : Env) (e' : outParam Env) : Prop where h : lend e = e'
instance : LendTo [] [] := ⟨rfl⟩
instance {e e' : Env} [k : LendTo e e'] : LendTo (none :: e) (none :: e') := ⟨by have := k.h; unfold lend at this ⊢; rw [List.map_cons, this]; rfl⟩
instance (priority := low) {o : Option T} {e e' : Env} [k : LendTo e e'] : LendTo (o :: e) (o.map (T.mapF Fl.bor) :: e') := ⟨by have := k.h; unfold lend at this ⊢; rw [List.map_cons, this]⟩
instance {t u : T} {e e' : Env} [m : MapTo Fl.bor t u] [k : LendTo e e'] : LendTo (some t :: e) (some u :: e') := ⟨by have := k.h; unfold lend at this ⊢; rw [List.map_cons, this]; show some (t.mapF Fl.bor) :: e' = _; rw [m.h]⟩
def LendK (e : Env) (K : Env → Prop) : Prop := K (lend e)
theorem q_lend {e e' : Env} {K : Env → Prop} (m : LendTo e e') (h : K e') : LendK e K := by unfold LendK; rw [m.h]; exact h
def SetE (e : Env) (i : Nat) (t : T) (K : Env → Prop) : Prop := K (e.set i (some t))
theorem q_setE {e e' : Env} {i : Nat} {t : T} {K : Env → Prop} (hs : e.set i (some t) = e') (h : K e') : SetE e i t K := by unfold SetE; rw [hs]; exact h
def AtP (i : Nat) (ps : List PX) (env : Env) (g : T → Option T) (N : Env → Prop) : Prop := AtK i ps env g N
theorem q_at {i : Nat} {ps : List PX} {g : T → Option T} {t c : T} {p : List Pst} (h1 : env[i]? = some (some t)) (h2 : resP env ps = some p) (h3 : getP p t = some c) (h : OpK (g c) fun c' => SetE env i (setP p t c') N) : AtP i ps env g N := by
  cases e : g c with
  | none => rw [e] at h; exact h.elim
  | some c' => rw [e] at h; exact ⟨t, p, c, c', h1, h2, h3, e, h⟩
/-- the thing itself, one of its fields, what stands at a key of it -/
theorem q_at0 {i : Nat} {g : T → Option T} {t : T} (h1 : env[i]? = some (some t)) (h : OpK (g t) fun c' => SetE env i c' N) : AtP i [] env g N := q_at h1 rfl rfl h
theorem q_atF {i c k : Nat} {g : T → Option T} {vs : List T} {u : T} (h1 : env[i]? = some (some (.ins .own c vs))) (h2 : vs[k]? = some u) (h : OpK (g u) fun c' => SetE env i (.ins .own c (vs.set k c')) N) : AtP i [.f c k] env g N := by
  have st : stepT (.f c k) (.ins .own c vs) = some (k, u) := by show (if c = c then (vs[k]?).map _ else none) = _; rw [if_pos rfl, h2]; rfl
  refine q_at (c := u) h1 rfl ?_ ?_
  · show (stepT (.f c k) (.ins .own c vs)).bind _ = _
    rw [st]; rfl
  · show OpK (g u) fun c' => SetE env i (match stepT (.f c k) (.ins .own c vs) with | some p => setC _ p.1 (setP [] p.2 c') | none => _) N
    rw [st]; exact h
theorem q_atK {i j : Nat} {g : T → Option T} {s : Str} {ks : List Key} {vs : List T} {u : T} (h1 : env[i]? = some (some (.dic .own ks vs))) (h3 : kix ks (.inr s) = some j) (h2 : vs[j]? = some u) (h : OpK (g u) fun c' => SetE env i (.dic .own ks (vs.set j c')) N) : AtP i [.ks s] env g N := by
  have st : stepT (.k (.inr s)) (.dic .own ks vs) = some (j, u) := by show (kix ks (.inr s)).bind _ = _; rw [h3]; show (vs[j]?).map _ = _; rw [h2]; rfl
  refine q_at (c := u) h1 rfl ?_ ?_
  · show (stepT (.k (.inr s)) (.dic .own ks vs)).bind _ = _
    rw [st]; rfl
  · show OpK (g u) fun c' => SetE env i (match stepT (.k (.inr s)) (.dic .own ks vs) with | some p => setC _ p.1 (setP [] p.2 c') | none => _) N
    rw [st]; exact h
/-- what is handed back changed -/
class IosIs (ms : List Md) (e : Env) (ios : outParam (List T)) : Prop where h : iosOf ms e = some ios
instance {e : Env} : IosIs [] e [] := ⟨by cases e <;> rfl⟩
instance {t : T} {ms : List Md} {e : Env} {ios : List T} [b : Nb t] [k : IosIs ms e ios] : IosIs (.io :: ms) (some t :: e) (t :: ios) := ⟨by rw [iosOf, b.h, k.h]; rfl⟩
instance {x : Option T} {ms : List Md} {e : Env} {ios : List T} [k : IosIs ms e ios] : IosIs (.bor :: ms) (x :: e) ios := ⟨k.h⟩
instance {x : Option T} {ms : List Md} {e : Env} {ios : List T} [k : IosIs ms e ios] : IosIs (.frz :: ms) (x :: e) ios := ⟨k.h⟩
class MdOf (d : FD) (ms : outParam (List Md)) : Prop where h : d.md = ms
theorem q_endI {d : FD} {ms : List Md} {Q : T → List T → Prop} {t : T} {e : Env} {ios : List T} (v : Nv t) (b : Nb t) (hm : MdOf d ms) (h : IosIs ms e ios) (q : Q t ios) : EndK d Q t e := endk (md := []) (by rw [hm.h]; exact h.h) q
theorem q_setp {i : Nat} {ps : List PX} {k e : IE} (h : Post J (evE (Iof PL n) e env) fun t e1 => t.vw = false ∧ LendK e1 fun e' => Post (fun _ _ => False) (evE (Iof PL n) k e') fun kk _ => AtP i ps e1 (fun u => setK u kk t) N) : PostS J (exS (Iof PL n) (.setp i ps k e) env) N R := s_setp h
theorem q_seta {i : Nat} {ps : List PX} {c k : Nat} {e : IE} (h : Post J (evE (Iof PL n) e env) fun t e1 => t.vw = false ∧ AtP i ps e1 (fun u => setF c k u t) N) : PostS J (exS (Iof PL n) (.seta i ps c k e) env) N R := s_seta h
def mutL (m : Str) (ts : List T) (u : T) : Option T := match u with | .lst .own ys => (mutT m ys ts).map (T.lst .own) | _ => none
class Cln (ts : List T) : Prop where h : clean ts = true
instance {ts : List T} [a : NvL ts] [b : NbL ts] : Cln ts := ⟨by unfold clean; rw [a.h, b.h]; rfl⟩
theorem q_cln {ts : List T} {P : Prop} (c : Cln ts) (h : P) : clean ts = true ∧ P := ⟨c.h, h⟩
theorem q_mutp {m : Str} {i : Nat} {ps : List PX} {xs : IL} (h : LendK env fun e' => Post (fun _ _ => False) (evL (Iof PL n) xs e') fun ts _ => clean ts = true ∧ AtP i ps env (mutL m ts) N) : PostS J (exS (Iof PL n) (.mutp m i ps xs) env) N R := s_mutp h
theorem x_mutL {m : Str} {ts ys : List T} {Q : T → Prop} (h : MutK (mutT m ys ts) fun zs => Q (.lst .own zs)) : OpK (mutL m ts (.lst .own ys)) Q := by
  show OpK ((mutT m ys ts).map (T.lst .own)) Q
  cases e : mutT m ys ts with
  | none => rw [e] at h; exact h
  | some z => rw [e] at h; exact h
theorem m_ins {m : Nat} {y : T} {ys : List T} {i : Int} {Q : List T → Prop} [v : Nv y] (hl : ys.length < LIM) (h0 : 0 ≤ i) (h1 : i < 2 ^ 62) (h : Q (ys.take i.toNat ++ y :: ys.drop i.toNat)) : MutK (mutT "insert" ys [.int i, y]) Q := by
  refine MutK.of (t := ys.take i.toNat ++ y :: ys.drop i.toNat) ?_ h
  unfold mutT
  rw [if_neg (by decide), if_neg (by decide), if_neg (by decide), if_neg (by decide), if_pos rfl]
  dsimp only
  rw [if_pos ⟨hl, v.h, h0, h1⟩]
theorem m_insE {α : Type} {e : α → T} {a : α} {xs : List α} {i : Int} {Q : List T → Prop} (v : Nv (e a)) (hl : xs.length < LIM) (h0 : 0 ≤ i) (h1 : i < 2 ^ 62) (h : Q ((xs.take i.toNat ++ a :: xs.drop i.toNat).map e)) : MutK (mutT "insert" (xs.map e) [.int i, e a]) Q := by
  refine m_ins (m := 0) (by simpa using hl) h0 h1 ?_
  rw [← List.map_take, ← List.map_drop, ← List.map_cons, ← List.map_append]
  exact h
/-! walks over a dict that is not one's own -/
variable {QI : List T → Env → Prop}
theorem q_keys {i : Nat} {ps : List PX} {t : T} {p : List Pst} {f : Fl} {ks : List Key} {vs : List T} (h1 : env[i]? = some (some t)) (h2 : resP env ps = some p) (h3 : getR p t = some (.dic f ks vs)) (h4 : f.isOwn = false) (h : QI (ks.map keyT) env) :
    Post J (evIT (Iof PL n) (.keys i ps) env) QI := i_keys h1 h2 h3 (fun z => by rw [z] at h4; cases h4) h
theorem q_enuK {i : Nat} {ps : List PX} {t : T} {p : List Pst} {f : Fl} {ks : List Key} {vs : List T} (h1 : env[i]? = some (some t)) (h2 : resP env ps = some p) (h3 : getR p t = some (.dic f ks vs)) (h4 : f.isOwn = false) (h : QI (enuT 0 (ks.map keyT)) env) :
    Post J (evIT (Iof PL n) (.enuK i ps) env) QI := i_enuK h1 h2 h3 (fun z => by rw [z] at h4; cases h4) h
end
/-! what leaves the slots as they are, by the text -/
class PrE (PL : Pg) (e : IE) : Prop where h : pE (Iof PL 0) e = true
class PrL (PL : Pg) (e : IL) : Prop where h : pL (Iof PL 0) e = true
class PrO (PL : Pg) (e : IO) : Prop where h : pO (Iof PL 0) e = true
section
variable {PL : Pg} {a b c : IE} {xs : IL}
theorem and_t {x y : Bool} (h : x = true) (h' : y = true) : (x && y) = true := by rw [h, h']; rfl
instance {i : Nat} : PrE PL (.var i) := ⟨rfl⟩
instance {i : Int} : PrE PL (.int i) := ⟨rfl⟩
instance {i : Bool} : PrE PL (.bl i) := ⟨rfl⟩
instance : PrE PL .non := ⟨rfl⟩
instance {i : Str} : PrE PL (.str i) := ⟨rfl⟩
instance {op : Operator} [k : PrE PL a] [l : PrE PL b] : PrE PL (.bop op a b) := ⟨and_t k.h l.h⟩
instance [k : PrE PL a] : PrE PL (.neg a) := ⟨k.h⟩
instance [k : PrE PL a] : PrE PL (.nt a) := ⟨k.h⟩
instance {op : CmpOp} [k : PrE PL a] [l : PrE PL b] : PrE PL (.cmp op a b) := ⟨and_t k.h l.h⟩
instance {op op' : CmpOp} [k : PrE PL a] [l : PrE PL b] [m : PrE PL c] : PrE PL (.cmp2 op op' a b c) := ⟨and_t k.h (and_t l.h m.h)⟩
instance [k : PrE PL a] [l : PrE PL b] : PrE PL (.an a b) := ⟨and_t k.h l.h⟩
instance [k : PrE PL a] [l : PrE PL b] : PrE PL (.orr a b) := ⟨and_t k.h l.h⟩
instance [k : PrE PL a] [l : PrE PL b] [m : PrE PL c] : PrE PL (.ite a b c) := ⟨and_t k.h (and_t l.h m.h)⟩
instance [k : PrL PL xs] : PrE PL (.lst xs) := ⟨k.h⟩
instance [k : PrL PL xs] : PrE PL (.tup xs) := ⟨k.h⟩
instance [k : PrE PL a] [l : PrE PL b] : PrE PL (.idx a b) := ⟨and_t k.h l.h⟩
instance {lo hi : IO} [k : PrE PL a] [l : PrO PL lo] [m : PrO PL hi] : PrE PL (.slc a lo hi) := ⟨and_t k.h (and_t l.h m.h)⟩
class NoIo (ms : List Md) : Prop where h : anyIo ms = false
instance : NoIo [] := ⟨rfl⟩
instance {ms : List Md} [k : NoIo ms] : NoIo (.bor :: ms) := ⟨k.h⟩
instance {f : Nat} {ms : List Md} [k : MdIs PL f ms] [j : NoIo ms] [l : PrL PL xs] : PrE PL (.call f xs) := ⟨by
  show (!anyIo ((Iof PL 0).md f) && pL (Iof PL 0) xs) = true
  rw [Iof_md, k.h, j.h]; exact l.h⟩
instance {c f : Nat} {ms : List Md} [k : MdIs PL f ms] [j : NoIo ms] [m : PrE PL a] [l : PrL PL xs] : PrE PL (.meth c f a xs) := ⟨by
  show (!anyIo ((Iof PL 0).md f) && (pE (Iof PL 0) a && pL (Iof PL 0) xs)) = true
  rw [Iof_md, k.h, j.h]; exact and_t rfl (and_t m.h l.h)⟩
instance {x : Str} [l : PrL PL xs] : PrE PL (.blt x xs) := ⟨l.h⟩
instance {x : Str} [l : PrE PL a] : PrE PL (.isi a x) := ⟨l.h⟩
instance {x : List Str} [l : PrE PL a] : PrE PL (.isiN a x) := ⟨l.h⟩
instance [k : PrE PL a] [l : PrE PL b] : PrE PL (.mxd a b) := ⟨and_t k.h l.h⟩
instance {x : Str} : PrE PL (.gv x) := ⟨rfl⟩
instance {m : Str} [k : PrE PL a] [l : PrL PL xs] : PrE PL (.smt m a xs) := ⟨and_t k.h l.h⟩
instance {m : Str} [k : PrE PL a] [l : PrL PL xs] : PrE PL (.lmt m a xs) := ⟨and_t k.h l.h⟩
instance {c k : Nat} [l : PrE PL a] : PrE PL (.fld c k a) := ⟨l.h⟩
instance {ks : List Str} [l : PrL PL xs] : PrE PL (.dct ks xs) := ⟨l.h⟩
instance : PrL PL .nil := ⟨rfl⟩
instance [k : PrE PL a] [l : PrL PL xs] : PrL PL (.cons a xs) := ⟨and_t k.h l.h⟩
instance : PrO PL .no := ⟨rfl⟩
instance [k : PrE PL a] : PrO PL (.so a) := ⟨k.h⟩
theorem q_gpE {v : Bool} {P : Prop} (k : PrE PL a) (h : P) : Gd v (pE (Iof PL 0) a) P := gk_r k.h h
theorem q_gpL {v : Bool} {P : Prop} (k : PrL PL xs) (h : P) : Gd v (pL (Iof PL 0) xs) P := gk_r k.h h
theorem q_gpO {v : Bool} {lo hi : IO} {P : Prop} (k : PrO PL lo) (l : PrO PL hi) (h : P) : Gd v (pO (Iof PL 0) lo && pO (Iof PL 0) hi) P := gk_r (and_t k.h l.h) h
end
/-! dicts by texts -/
abbrev eD {α : Type} (f : Fl) (enc : α → T) (xs : List (Str × α)) : T := .dic f (xs.map fun p => Sum.inr p.1) (xs.map fun p => enc p.2)
section
variable {α : Type} {f : Fl} {enc : α → T} {xs : List (Str × α)} {s : Str} {a : α}
theorem kix_map : ∀ {xs : List (Str × α)} {s : Str}, kix (xs.map fun p => (Sum.inr p.1 : Key)) (.inr s) = xs.findIdx? fun p => decide (p.1 = s)
  | [], s => rfl
  | p :: r, s => by
    rw [List.map_cons, kix_cons, List.findIdx?_cons, kix_map]
    by_cases e : p.1 = s
    · simp [e]
    · rw [if_neg (fun z => e (by cases z; rfl)), decide_eq_false e]; rfl
theorem look_ix : ∀ {xs : List (Str × α)} {s : Str}, (xs.findIdx? fun p => decide (p.1 = s)).bind (fun j => (xs.map fun p => enc p.2)[j]?) = (xs.lookup s).map enc
  | [], s => rfl
  | p :: r, s => by
    rw [List.findIdx?_cons]
    by_cases e : p.1 = s
    · subst e
      obtain ⟨a, b⟩ := p
      simp [List.lookup_cons]
    · have e' : (s == p.1) = false := by simpa using fun z => e z.symm
      rw [decide_eq_false e, List.lookup_cons, e', ← look_ix (xs := r)]
      simp only [Bool.false_eq_true, if_false]
      cases r.findIdx? fun p => decide (p.1 = s) <;> rfl
theorem idx_look : idxT (eD f enc xs) (.str s) = (xs.lookup s).map enc := by
  show (kix (xs.map fun p => (Sum.inr p.1 : Key)) (.inr s)).bind (fun j => (xs.map fun p => enc p.2)[j]?) = _
  rw [kix_map, look_ix]
theorem x_dic {Q : T → Prop} (h : xs.lookup s = some a) (q : Q (enc a)) : OpK (idxT (eD f enc xs) (.str s)) Q := OpK.of (by rw [idx_look, h]; rfl) q
theorem find_look : ∀ {xs : List (Str × α)} {s : Str}, (xs.findIdx? fun p => decide (p.1 = s)).isSome = (xs.lookup s).isSome
  | [], s => rfl
  | p :: r, s => by
    rw [List.findIdx?_cons]
    by_cases e : p.1 = s
    · subst e
      simp [List.lookup_cons]
    · have e' : (s == p.1) = false := by simpa using fun z => e z.symm
      rw [decide_eq_false e, List.lookup_cons, e', ← find_look (xs := r)]
      simp
theorem in_look : inT (.str s) (eD f enc xs) = some (xs.lookup s).isSome := by
  show some (kix (xs.map fun p => (Sum.inr p.1 : Key)) (.inr s)).isSome = _
  rw [kix_map, find_look]
theorem c_ind {Q : Bool → Prop} (h : Q (xs.lookup s).isSome) : OpB (cmpT .In (.str s) (eD f enc xs)) Q := OpB.of (in_look (f := f) (enc := enc)) h
theorem c_nind {Q : Bool → Prop} (h : Q (!(xs.lookup s).isSome)) : OpB (cmpT .NotIn (.str s) (eD f enc xs)) Q := OpB.of (t := !(xs.lookup s).isSome) (by show (inT (.str s) (eD f enc xs)).map (!·) = _; rw [in_look (f := f) (enc := enc)]; rfl) h
theorem look_kix (h : xs.lookup s = none) : kix (xs.map fun p => (Sum.inr p.1 : Key)) (.inr s) = none := by
  have := find_look (xs := xs) (s := s)
  rw [h] at this
  rw [kix_map]
  simpa using this
theorem d_add {Q : T → Prop} (h : xs.lookup s = none) (hl : xs.length < LIM) (q : Q (eD .own enc (xs ++ [(s, a)]))) : OpK (setK (eD .own enc xs) (.str s) (enc a)) Q := by
  refine OpK.of (t := eD .own enc (xs ++ [(s, a)])) ?_ q
  show (if (xs.map fun p => (Sum.inr p.1 : Key)).length < LIM then some (T.dic .own (dput _ _ (.inr s) (enc a)).1 (dput _ _ (.inr s) (enc a)).2) else none) = _
  rw [if_pos (by simpa using hl)]
  unfold dput
  rw [look_kix h]
  simp
/-- the value of a key changed -/
def dset (xs : List (Str × α)) (s : Str) (a : α) : List (Str × α) := xs.map fun p => if p.1 = s then (s, a) else p
theorem d_upd {Q : T → Prop} (nd : (xs.map (·.1)).Nodup) (h : (xs.lookup s).isSome = true) (hl : xs.length < LIM) (q : Q (eD .own enc (dset xs s a))) : OpK (setK (eD .own enc xs) (.str s) (enc a)) Q := by
  refine OpK.of (t := eD .own enc (dset xs s a)) ?_ q
  show (if (xs.map fun p => (Sum.inr p.1 : Key)).length < LIM then some (T.dic .own (dput _ _ (.inr s) (enc a)).1 (dput _ _ (.inr s) (enc a)).2) else none) = _
  rw [if_pos (by simpa using hl)]
  have key : ∀ (xs : List (Str × α)), (xs.map (·.1)).Nodup → (xs.lookup s).isSome = true → dput (xs.map fun p => (Sum.inr p.1 : Key)) (xs.map fun p => enc p.2) (.inr s) (enc a) = ((dset xs s a).map fun p => (Sum.inr p.1 : Key), (dset xs s a).map fun p => enc p.2) := by
    intro xs
    unfold dput
    rw [kix_map]
    induction xs with
    | nil => intro _ h; cases h
    | cons p r ih =>
      intro nd h
      rw [List.findIdx?_cons]
      rw [List.map_cons, List.nodup_cons] at nd
      by_cases e : p.1 = s
      · have hr : dset r s a = r := by
          unfold dset
          conv => rhs; rw [← List.map_id r]
          refine List.map_congr_left fun q hq => ?_
          rw [if_neg fun z => nd.1 (by rw [e, ← z]; exact List.mem_map_of_mem hq)]; rfl
        have hd : dset (p :: r) s a = (s, a) :: r := by unfold dset at hr ⊢; rw [List.map_cons, if_pos e, hr]
        rw [decide_eq_true e, hd]
        simp [e]
      · have e' : (s == p.1) = false := by simpa using fun z => e z.symm
        rw [List.lookup_cons, e'] at h
        have := ih nd.2 h
        have hd : dset (p :: r) s a = p :: dset r s a := by unfold dset; rw [List.map_cons, if_neg e]
        rw [decide_eq_false e, hd]
        simp only [Bool.false_eq_true, if_false, List.map_cons]
        cases hf : r.findIdx? fun p => decide (p.1 = s) with
        | none => rw [hf] at this; simp at this ⊢; exact ⟨this.1, this.2⟩
        | some j => rw [hf] at this; simp at this ⊢; exact ⟨this.1, this.2⟩
  rw [key xs nd h]
theorem k_lenD {Q : T → Prop} {ks : List Key} {vs : List T} (h : Q (.int ks.length)) : OpK (bltT "len" [.dic f ks vs]) Q := OpK.of (by simp [bltT]) h
theorem k_lenE {Q : T → Prop} (h : Q (.int xs.length)) : OpK (bltT "len" [eD f enc xs]) Q := k_lenD (by simpa using h)
theorem keys_map : (xs.map fun p => (Sum.inr p.1 : Key)).map keyT = (xs.map (·.1)).map T.str := by rw [List.map_map, List.map_map]; rfl
theorem k_listD {Q : T → Prop} (h : Q (.lst .own ((xs.map (·.1)).map T.str))) : OpK (bltT "list" [eD f enc xs]) Q := OpK.of (by
  unfold bltT; rw [if_neg (by decide), if_neg (by decide), if_neg (by decide), if_neg (by decide), if_neg (by decide), if_neg (by decide), if_pos rfl]; dsimp only; rw [keys_map]) h
end
end VI

namespace VI
open PySem L2
/-! exceptions: raise, try, what is asked in a suite -/
section
variable {J : Xn → Env → Prop} {PL : Pg} {n : Nat} {env : Env} {Q : T → Env → Prop} {N : Env → Prop} {R : T → Env → Prop}
def RaisK (PL : Pg) (c : Nat) (kp : Bool) (ts : List T) (P : Prop) : Prop := (ts.all T.imm = true ∧ ts.length = if kp then (xfOf PL c).length else 1) ∧ P
theorem s_rais {c : Nat} {kp : Bool} {xs : IL} (h : Post J (evL (Iof PL n) xs env) fun ts e1 => RaisK PL c kp ts (J ⟨c, if kp then ts else []⟩ e1)) : PostS J (exS (Iof PL n) (.rais c kp xs) env) N R := by
  rw [exS]
  refine s_thn (h.imp fun ts e1 _ h => ?_)
  obtain ⟨⟨h1, h2⟩, h⟩ := h
  rw [Iof_xf, h1, decide_eq_true h2]
  exact h
/-- what the clause does with an exception -/
def TryK (PL : Pg) (n : Nat) (k : XC) (i : Nat) (hd : IB) (J : Xn → Env → Prop) (N : Env → Prop) (R : T → Env → Prop) (x : Xn) (e : Env) : Prop := xoOf PL x.c = true ∧
  (xcB x.c k = true → i < e.length ∧ PostS (fun _ _ => False) (exB (Iof PL n) hd (e.set i (some (.exn x.c x.vs)))) (fun e2 => xfree (e2.set i none) = true ∧ N (e2.set i none)) fun t e2 => (xfree (e2.set i none) = true ∧ t.hasX = false ∧ t.vw = false) ∧ R t (e2.set i none)) ∧
  (xcB x.c k = false → J x e)
theorem s_try {b hd : IB} {k : XC} {i : Nat} (h : PostS (TryK PL n k i hd J N R) (exB (Iof PL n) b env) N R) : PostS J (exS (Iof PL n) (.tryx b k (some i) hd) env) N R := by
  rw [exS]
  cases eb : exB (Iof PL n) b env with
  | next e => rw [eb] at h; exact h
  | ret t e => rw [eb] at h; exact h
  | stuck => rw [eb] at h; exact h.elim
  | exc x e =>
    rw [eb] at h
    obtain ⟨h1, h2, h3⟩ := h
    dsimp only
    rw [if_pos (by rw [Iof_xo]; exact h1)]
    cases ek : xcB x.c k with
    | false => rw [if_neg (by decide)]; exact h3 ek
    | true =>
      obtain ⟨h4, h5⟩ := h2 ek
      rw [if_pos rfl, if_pos h4]
      cases eh : exB (Iof PL n) hd (e.set i (some (.exn x.c x.vs))) with
      | next e2 =>
        rw [eh] at h5
        have h5 : xfree (e2.set i none) = true ∧ N (e2.set i none) := h5
        dsimp only
        rw [if_pos h5.1]
        exact h5.2
      | ret t e2 =>
        rw [eh] at h5
        have h5 : (xfree (e2.set i none) = true ∧ t.hasX = false ∧ t.vw = false) ∧ R t (e2.set i none) := h5
        dsimp only
        rw [h5.1.1, h5.1.2.1, h5.1.2.2]
        exact h5.2
      | exc _ _ => rw [eh] at h5; exact h5.elim
      | stuck => rw [eh] at h5; exact h5.elim
theorem p_isx {i c : Nat} {us : List T} {cs : List XC} (e : env[i]? = some (some (.exn c us))) (h : Q (.bl (cs.any (xcB c))) env) : Post J (evE (Iof PL n) (.isx (.var i) cs) env) Q := by
  rw [evE, evE, e]
  exact h
theorem p_xfl {i c j : Nat} {us : List T} {f : Str} {t : T} (e : env[i]? = some (some (.exn c us))) (hj : ((xfOf PL c).findIdx? fun g => decide (g = f)) = some j) (ht : us[j]? = some t) (h : Q t env) : Post J (evE (Iof PL n) (.xfl (.var i) f) env) Q := by
  rw [evE, evE, e]
  have : xflT (Iof PL n) ((T.exn c us).mapF Fl.vie) f = some t := by
    show (((Iof PL n).xf c).findIdx? _).bind _ = _
    rw [Iof_xf, hj]
    exact ht
  show Post J (Out.ofO (xflT (Iof PL n) ((T.exn c us).mapF Fl.vie) f) env) Q
  rw [this]
  exact h
/-- an exception's fields -/
class XfIs (PL : Pg) (c : Nat) (fl : outParam (List Str)) : Prop where h : xfOf PL c = fl ∧ xoOf PL c = true
theorem q_rais {c : Nat} {kp : Bool} {ts : List T} {fl : List Str} {P : Prop} (k : XfIs PL c fl) (h1 : ts.all T.imm = true) (h2 : Nat.beq ts.length (if kp then fl.length else 1) = true) (h : P) : RaisK PL c kp ts P := ⟨⟨h1, by rw [k.h.1]; exact Nat.eq_of_beq_eq_true h2⟩, h⟩
theorem q_xfl {i c j : Nat} {us : List T} {f : Str} {t : T} {fl : List Str} (e : env[i]? = some (some (.exn c us))) (k : XfIs PL c fl) (hj : (fl.findIdx? fun g => decide (g = f)) = some j) (ht : us[j]? = some t) (h : Q t env) : Post J (evE (Iof PL n) (.xfl (.var i) f) env) Q := p_xfl e (by rw [k.h.1]; exact hj) ht h
theorem q_isx {i c : Nat} {us : List T} {cs : List XC} {b : Bool} (e : env[i]? = some (some (.exn c us))) (hb : cs.any (xcB c) = b) (h : Q (.bl b) env) : Post J (evE (Iof PL n) (.isx (.var i) cs) env) Q := p_isx e (by rw [hb]; exact h)
/-- a call that may raise, by what it does -/
theorem CIs.ofX {m : COut} {x : Xn} {ios : List T} {Q : T → List T → Prop} {E : Xn → List T → Prop} (h : m = .exc x ios) (q : E x ios) : CIs m Q E := by rw [h]; exact q
end
end VI

namespace VI
open PySem L2
/-! no exception within -/
class Nx (t : T) : Prop where h : t.hasX = false
class NxL (t : List T) : Prop where h : T.hasXL t = false
class NxE (e : Env) : Prop where h : xfree e = true
theorem hasXL_eq : ∀ xs : List T, T.hasXL xs = xs.any T.hasX
  | [] => rfl
  | x :: r => by rw [T.hasXL, hasXL_eq r]; rfl
instance : Nx .non := ⟨rfl⟩
instance {b : Bool} : Nx (.bl b) := ⟨rfl⟩
instance {i : Int} : Nx (.int i) := ⟨rfl⟩
instance {s : Str} : Nx (.str s) := ⟨rfl⟩
instance {ns : List Int} : Nx (.scr ns) := ⟨rfl⟩
instance {xs : List T} [k : NxL xs] : Nx (.tup xs) := ⟨k.h⟩
instance {f : Fl} {xs : List T} [k : NxL xs] : Nx (.lst f xs) := ⟨k.h⟩
instance {f : Fl} {ks : List Key} {xs : List T} [k : NxL xs] : Nx (.dic f ks xs) := ⟨k.h⟩
instance {f : Fl} {c : Nat} {xs : List T} [k : NxL xs] : Nx (.ins f c xs) := ⟨k.h⟩
instance : NxL [] := ⟨rfl⟩
instance {x : T} {xs : List T} [k1 : Nx x] [k : NxL xs] : NxL (x :: xs) := ⟨by have a := k1.h; have := k.h; rw [T.hasXL, a, this]; rfl⟩
instance {α : Type} {e : α → T} {xs : List α} [k : ∀ a, Nx (e a)] : NxL (xs.map e) := ⟨by
  rw [hasXL_eq, List.any_map]
  induction xs with
  | nil => rfl
  | cons x r ih => rw [List.any_cons, ih, Bool.or_false]; exact (k x).h⟩
instance {xs ys : List T} [k1 : NxL xs] [k : NxL ys] : NxL (xs ++ ys) := ⟨by have a := k1.h; have b := k.h; rw [hasXL_eq] at *; rw [List.any_append, a, b]; rfl⟩
instance : NxE [] := ⟨rfl⟩
instance {e : Env} [k : NxE e] : NxE (none :: e) := ⟨by show (true && xfree e) = true; rw [k.h]; rfl⟩
instance {t : T} {e : Env} [a : Nx t] [k : NxE e] : NxE (some t :: e) := ⟨by show (!t.hasX && xfree e) = true; rw [a.h, k.h]; rfl⟩
section
variable {J : Xn → Env → Prop} {PL : Pg} {n : Nat} {env : Env} {N : Env → Prop} {R : T → Env → Prop}
/-- a suite's end -/
def SufN (i : Nat) (N : Env → Prop) (e : Env) : Prop := xfree (e.set i none) = true ∧ N (e.set i none)
def SufR (i : Nat) (R : T → Env → Prop) (t : T) (e : Env) : Prop := (xfree (e.set i none) = true ∧ t.hasX = false ∧ t.vw = false) ∧ R t (e.set i none)
theorem q_sufN {i : Nat} {e e' : Env} (hs : e.set i none = e') (x : NxE e') (h : N e') : SufN i N e := by unfold SufN; rw [hs]; exact ⟨x.h, h⟩
theorem q_sufR {i : Nat} {t : T} {e e' : Env} (hs : e.set i none = e') (x : NxE e') (y : Nx t) (v : Nv t) (h : R t e') : SufR i R t e := by unfold SufR; rw [hs]; exact ⟨⟨x.h, y.h, v.h⟩, h⟩
theorem q_tryk {c : Nat} {us : List T} {k : XC} {i : Nat} {hd : IB} {e e' : Env} {fl : List Str} (a : XfIs PL c fl) (hk : xcB c k = true) (hs : e.set i (some (.exn c us)) = e') (hi : i < e.length) (h : PostS (fun _ _ => False) (exB (Iof PL n) hd e') (SufN i N) (SufR i R)) : TryK PL n k i hd J N R ⟨c, us⟩ e :=
  ⟨a.h.2, fun _ => ⟨hi, by rw [← hs] at h; exact h⟩, fun z => by rw [hk] at z; cases z⟩
theorem q_tryn {c : Nat} {us : List T} {k : XC} {i : Nat} {hd : IB} {e : Env} {fl : List Str} (a : XfIs PL c fl) (hk : xcB c k = false) (h : J ⟨c, us⟩ e) : TryK PL n k i hd J N R ⟨c, us⟩ e :=
  ⟨a.h.2, fun (z : xcB c k = true) => absurd z (by rw [hk]; decide), fun _ => h⟩
theorem q_isxT {Q : T → Env → Prop} {i c : Nat} {us : List T} {cs : List XC} (e : env[i]? = some (some (.exn c us))) (hb : cs.any (xcB c) = true) (h : Q (.bl true) env) : Post J (evE (Iof PL n) (.isx (.var i) cs) env) Q := q_isx e hb h
theorem q_isxF {Q : T → Env → Prop} {i c : Nat} {us : List T} {cs : List XC} (e : env[i]? = some (some (.exn c us))) (hb : cs.any (xcB c) = false) (h : Q (.bl false) env) : Post J (evE (Iof PL n) (.isx (.var i) cs) env) Q := q_isx e hb h
end
end VI

namespace KL
open PySem L2 VI
def top (i : Nat) : Stmt := PySem.Challenge.pw_flyloft_k13_what_lacks_for_balance.main.body.getD i (.Pass ⟨0, 0, 0, 0⟩)
def inC (s : Stmt) (i : Nat) : Stmt := (VI.clsBody s).getD i (.Pass ⟨0, 0, 0, 0⟩)
def b_load_of : IB := (
 (.cons (.ret (.blt "sum" (.cons (.comp [2] (.seq (.var 1)) .no (.meth 0 24 (.var 0) (.cons (.var 2) .nil))) .nil))) .nil))
def d_load_of : FD := { name := "load_of", qual := "load_of", own := none, ps := ["rig", "pieces"], N := ["rig", "pieces", "piece"], md := [.bor, .bor], body := b_load_of }
def b_pull_of : IB := (
 (.cons (.ret (.bop .Mult (.meth 0 21 (.var 0) (.cons (.var 1) .nil)) (.call 0 (.cons (.var 0) (.cons (.var 2) .nil))))) .nil))
def d_pull_of : FD := { name := "pull_of", qual := "pull_of", own := none, ps := ["rig", "bar", "pieces"], N := ["rig", "bar", "pieces"], md := [.bor, .bor, .bor], body := b_pull_of }
def b_counts_of : IB := (
 (.cons (.setf 3 (.call 1 (.cons (.var 0) (.cons (.var 1) (.cons (.var 2) .nil)))))
 (.cons (.setf 4 (.meth 0 12 (.var 0) .nil))
 (.cons (.setf 5 (.meth 0 22 (.var 0) (.cons (.var 1) .nil)))
 (.cons (.setf 6 (.blt "max" (.cons (.int 0) (.cons (.neg (.bop .FloorDiv (.bop .Sub (.var 5) (.var 3)) (.var 4))) .nil))))
 (.cons (.setf 7 (.bop .FloorDiv (.bop .Add (.var 3) (.var 5)) (.var 4)))
 (.cons (.ite (.cmp .Gt (.var 6) (.var 7)) (
  (.cons (.setf 8 (.bop .Mod (.var 3) (.var 4)))
  (.cons (.rais 2 true (.cons (.var 1) (.cons (.str "plate") (.cons (.bop .Sub (.blt "min" (.cons (.var 8) (.cons (.bop .Sub (.var 4) (.var 8)) .nil))) (.var 5)) .nil)))) .nil))) ( .nil))
 (.cons (.ite (.cmp .Gt (.var 6) (.meth 0 20 (.var 0) (.cons (.var 1) .nil))) (
  (.cons (.rais 2 true (.cons (.var 1) (.cons (.str "room") (.cons (.bop .Sub (.var 6) (.meth 0 20 (.var 0) (.cons (.var 1) .nil))) .nil)))) .nil)) ( .nil))
 (.cons (.ret (.tup (.cons (.var 6) (.cons (.blt "min" (.cons (.var 7) (.cons (.meth 0 20 (.var 0) (.cons (.var 1) .nil)) .nil))) .nil)))) .nil)))))))))
def d_counts_of : FD := { name := "counts_of", qual := "counts_of", own := none, ps := ["rig", "bar", "pieces"], N := ["rig", "bar", "pieces", "pull", "plate", "slack", "least", "most", "over"], md := [.bor, .bor, .bor], body := b_counts_of }
def b_is_name : IB := (
 (.cons (.ite (.orr (.cmp .Lt (.blt "len" (.cons (.var 0) .nil)) (.int 1)) (.cmp .Gt (.blt "len" (.cons (.var 0) .nil)) (.gv "LONGEST_NAME"))) (
  (.cons (.ret (.bl false)) .nil)) ( .nil))
 (.cons (.ret (.blt "all" (.cons (.comp [1] (.seq (.var 0)) .no (.cmp .In (.var 1) (.gv "LETTERS"))) .nil))) .nil)))
def d_is_name : FD := { name := "is_name", qual := "is_name", own := none, ps := ["text"], N := ["text", "sign"], md := [.bor], body := b_is_name }
def b_number_of : IB := (
 (.cons (.ite (.orr (.cmp .Lt (.blt "len" (.cons (.var 0) .nil)) (.int 1)) (.orr (.cmp .Gt (.blt "len" (.cons (.var 0) .nil)) (.gv "MOST_FIGURES")) (.nt (.blt "all" (.cons (.comp [1] (.seq (.var 0)) .no (.cmp .In (.var 1) (.gv "FIGURES"))) .nil))))) (
  (.cons (.ret .non) .nil)) ( .nil))
 (.cons (.ite (.an (.cmp .Eq (.idx (.var 0) (.int 0)) (.str "0")) (.cmp .NotEq (.var 0) (.str "0"))) (
  (.cons (.ret .non) .nil)) ( .nil))
 (.cons (.ret (.blt "int" (.cons (.var 0) .nil))) .nil))))
def d_number_of : FD := { name := "number_of", qual := "number_of", own := none, ps := ["text"], N := ["text", "sign"], md := [.bor], body := b_number_of }
def b_numbers_in : IB := (
 (.cons (.ite (.cmp .NotEq (.blt "len" (.cons (.var 0) .nil)) (.blt "len" (.cons (.var 1) .nil))) (
  (.cons (.ret .non) .nil)) ( .nil))
 (.cons (.setv 2 (.lst .nil))
 (.cons (.forr [3] (.rng1 (.blt "len" (.cons (.var 0) .nil))) (
  (.cons (.setf 4 (.call 4 (.cons (.idx (.var 0) (.var 3)) .nil)))
  (.cons (.ite (.orr (.cmp .Is (.var 4) .non) (.orr (.cmp .Lt (.var 4) (.idx (.idx (.var 1) (.var 3)) (.int 0))) (.cmp .Gt (.var 4) (.idx (.idx (.var 1) (.var 3)) (.int 1))))) (
   (.cons (.ret .non) .nil)) ( .nil))
  (.cons (.mut "append" 2 (.cons (.var 4) .nil)) .nil)))))
 (.cons (.ret (.mov 2)) .nil)))))
def d_numbers_in : FD := { name := "numbers_in", qual := "numbers_in", own := none, ps := ["words", "bounds"], N := ["words", "bounds", "found", "k", "number"], md := [.bor, .bor], body := b_numbers_in }
def b_m_Rig_init : IB := (
 (.cons (.seta 0 [] 0 0 .non)
 (.cons (.seta 0 [] 0 1 (.dct [] .nil))
 (.cons (.seta 0 [] 0 2 (.dct [] .nil))
 (.cons (.seta 0 [] 0 3 (.dct [] .nil))
 (.cons (.forr [2, 3] (.enu (.blt "list" (.cons (.var 1) .nil))) (
  (.cons (.ite (.nt (.meth 0 7 (.var 0) (.cons (.smt "split" (.var 3) (.cons (.str " ") .nil)) .nil))) (
   (.cons (.rais 0 true (.cons (.var 2) .nil)) .nil)) ( .nil)) .nil)))
 (.cons (.ite (.orr (.cmp .Is (.fld 0 0 (.var 0)) .non) (.cmp .Eq (.blt "len" (.cons (.fld 0 1 (.var 0)) .nil)) (.int 0))) (
  (.cons (.rais 0 true (.cons .non .nil)) .nil)) ( .nil)) .nil)))))))
def d_m_Rig_init : FD := { name := "__init__", qual := "Rig.__init__", own := some 0, ps := ["self", "lines"], N := ["self", "lines", "row", "line"], md := [.io, .bor], body := b_m_Rig_init }
def b_m_Rig_is_told : IB := (
 (.cons (.ite (.cmp .Eq (.idx (.var 1) (.int 0)) (.str "plate")) (
  (.cons (.ret (.meth 0 8 (.var 0) (.cons (.slc (.var 1) (.so (.int 1)) .no) .nil))) .nil)) ( .nil))
 (.cons (.ite (.orr (.cmp .Lt (.blt "len" (.cons (.var 1) .nil)) (.int 2)) (.nt (.call 3 (.cons (.idx (.var 1) (.int 1)) .nil)))) (
  (.cons (.ret (.bl false)) .nil)) ( .nil))
 (.cons (.ite (.cmp .Eq (.idx (.var 1) (.int 0)) (.str "bar")) (
  (.cons (.ret (.meth 0 9 (.var 0) (.cons (.idx (.var 1) (.int 1)) (.cons (.slc (.var 1) (.so (.int 2)) .no) .nil)))) .nil)) ( .nil))
 (.cons (.ite (.cmp .Eq (.idx (.var 1) (.int 0)) (.str "piece")) (
  (.cons (.ret (.meth 0 10 (.var 0) (.cons (.idx (.var 1) (.int 1)) (.cons (.slc (.var 1) (.so (.int 2)) .no) .nil)))) .nil)) ( .nil))
 (.cons (.ret (.an (.cmp .Eq (.idx (.var 1) (.int 0)) (.str "bay")) (.meth 0 11 (.var 0) (.cons (.idx (.var 1) (.int 1)) (.cons (.slc (.var 1) (.so (.int 2)) .no) .nil))))) .nil))))))
def d_m_Rig_is_told : FD := { name := "is_told", qual := "Rig.is_told", own := some 0, ps := ["self", "words"], N := ["self", "words"], md := [.io, .bor], body := b_m_Rig_is_told }
def b_m_Rig_is_plate : IB := (
 (.cons (.setf 2 (.call 5 (.cons (.var 1) (.cons (.lst (.cons (.tup (.cons (.int 1) (.cons (.gv "HEAVIEST") .nil))) .nil)) .nil))))
 (.cons (.ite (.orr (.cmp .Is (.var 2) .non) (.cmp .IsNot (.fld 0 0 (.var 0)) .non)) (
  (.cons (.ret (.bl false)) .nil)) ( .nil))
 (.cons (.seta 0 [] 0 0 (.idx (.var 2) (.int 0)))
 (.cons (.ret (.bl true)) .nil)))))
def d_m_Rig_is_plate : FD := { name := "is_plate", qual := "Rig.is_plate", own := some 0, ps := ["self", "words"], N := ["self", "words", "found"], md := [.io, .bor], body := b_m_Rig_is_plate }
def b_m_Rig_is_bar : IB := (
 (.cons (.setf 3 (.lst (.cons (.tup (.cons (.int 1) (.cons (.gv "FARTHEST") .nil))) (.cons (.tup (.cons (.int 0) (.cons (.gv "FARTHEST") .nil))) (.cons (.tup (.cons (.int 0) (.cons (.gv "FARTHEST") .nil))) (.cons (.tup (.cons (.int 1) (.cons (.int 2) .nil))) (.cons (.tup (.cons (.int 0) (.cons (.gv "STRONGEST") .nil))) (.cons (.tup (.cons (.int 0) (.cons (.gv "STRONGEST") .nil))) .nil))))))))
 (.cons (.setf 4 (.call 5 (.cons (.var 2) (.cons (.var 3) .nil))))
 (.cons (.ite (.orr (.cmp .Is (.var 4) .non) (.orr (.cmp .Gt (.idx (.var 4) (.int 1)) (.idx (.var 4) (.int 0))) (.cmp .Gt (.idx (.var 4) (.int 4)) (.idx (.var 4) (.int 5))))) (
  (.cons (.ret (.bl false)) .nil)) ( .nil))
 (.cons (.ite (.orr (.cmp .In (.var 1) (.fld 0 1 (.var 0))) (.cmp .Eq (.blt "len" (.cons (.fld 0 1 (.var 0)) .nil)) (.gv "MOST_BARS"))) (
  (.cons (.ret (.bl false)) .nil)) ( .nil))
 (.cons (.setp 0 [.f 0 1] (.var 1) (.var 4))
 (.cons (.ret (.bl true)) .nil)))))))
def d_m_Rig_is_bar : FD := { name := "is_bar", qual := "Rig.is_bar", own := some 0, ps := ["self", "name", "words"], N := ["self", "name", "words", "bounds", "found"], md := [.io, .bor, .bor], body := b_m_Rig_is_bar }
def b_m_Rig_is_piece : IB := (
 (.cons (.setf 3 (.call 5 (.cons (.var 2) (.cons (.lst (.cons (.tup (.cons (.int 1) (.cons (.gv "HEAVIEST") .nil))) (.cons (.tup (.cons (.int 0) (.cons (.gv "FARTHEST") .nil))) .nil))) .nil))))
 (.cons (.ite (.orr (.cmp .Is (.var 3) .non) (.orr (.cmp .In (.var 1) (.fld 0 2 (.var 0))) (.cmp .Eq (.blt "len" (.cons (.fld 0 2 (.var 0)) .nil)) (.gv "MOST_PIECES")))) (
  (.cons (.ret (.bl false)) .nil)) ( .nil))
 (.cons (.setp 0 [.f 0 2] (.var 1) (.var 3))
 (.cons (.ret (.bl true)) .nil)))))
def d_m_Rig_is_piece : FD := { name := "is_piece", qual := "Rig.is_piece", own := some 0, ps := ["self", "name", "words"], N := ["self", "name", "words", "found"], md := [.io, .bor, .bor], body := b_m_Rig_is_piece }
def b_m_Rig_is_bay : IB := (
 (.cons (.ite (.orr (.cmp .In (.var 1) (.fld 0 3 (.var 0))) (.orr (.cmp .Eq (.blt "len" (.cons (.fld 0 3 (.var 0)) .nil)) (.gv "MOST_BAYS")) (.nt (.cmp2 .LtE .LtE (.int 2) (.blt "len" (.cons (.var 2) .nil)) (.gv "MOST_BARS"))))) (
  (.cons (.ret (.bl false)) .nil)) ( .nil))
 (.cons (.forr [3] (.seq (.var 2)) (
  (.cons (.ite (.cmp .NotIn (.var 3) (.fld 0 1 (.var 0))) (
   (.cons (.ret (.bl false)) .nil)) ( .nil)) .nil)))
 (.cons (.forr [4] (.rng2 (.int 1) (.blt "len" (.cons (.var 2) .nil))) (
  (.cons (.ite (.cmp .GtE (.idx (.idx (.fld 0 1 (.var 0)) (.idx (.var 2) (.bop .Sub (.var 4) (.int 1)))) (.int 1)) (.idx (.idx (.fld 0 1 (.var 0)) (.idx (.var 2) (.var 4))) (.int 1))) (
   (.cons (.ret (.bl false)) .nil)) ( .nil)) .nil)))
 (.cons (.setp 0 [.f 0 3] (.var 1) (.blt "list" (.cons (.var 2) .nil)))
 (.cons (.ret (.bl true)) .nil))))))
def d_m_Rig_is_bay : FD := { name := "is_bay", qual := "Rig.is_bay", own := some 0, ps := ["self", "name", "words"], N := ["self", "name", "words", "bar", "k"], md := [.io, .bor, .bor], body := b_m_Rig_is_bay }
def b_m_Rig_plate : IB := (
 (.cons (.ret (.fld 0 0 (.var 0))) .nil))
def d_m_Rig_plate : FD := { name := "plate", qual := "Rig.plate", own := some 0, ps := ["self"], N := ["self"], md := [.bor], body := b_m_Rig_plate }
def b_m_Rig_bars : IB := (
 (.cons (.ret (.blt "list" (.cons (.fld 0 1 (.var 0)) .nil))) .nil))
def d_m_Rig_bars : FD := { name := "bars", qual := "Rig.bars", own := some 0, ps := ["self"], N := ["self"], md := [.bor], body := b_m_Rig_bars }
def b_m_Rig_pieces : IB := (
 (.cons (.ret (.blt "list" (.cons (.fld 0 2 (.var 0)) .nil))) .nil))
def d_m_Rig_pieces : FD := { name := "pieces", qual := "Rig.pieces", own := some 0, ps := ["self"], N := ["self"], md := [.bor], body := b_m_Rig_pieces }
def b_m_Rig_bays : IB := (
 (.cons (.ret (.blt "list" (.cons (.fld 0 3 (.var 0)) .nil))) .nil))
def d_m_Rig_bays : FD := { name := "bays", qual := "Rig.bays", own := some 0, ps := ["self"], N := ["self"], md := [.bor], body := b_m_Rig_bays }
def b_m_Rig_bay : IB := (
 (.cons (.ite (.cmp .NotIn (.var 1) (.fld 0 3 (.var 0))) (
  (.cons (.rais 1 true (.cons (.var 1) .nil)) .nil)) ( .nil))
 (.cons (.ret (.blt "list" (.cons (.idx (.fld 0 3 (.var 0)) (.var 1)) .nil))) .nil)))
def d_m_Rig_bay : FD := { name := "bay", qual := "Rig.bay", own := some 0, ps := ["self", "name"], N := ["self", "name"], md := [.bor, .bor], body := b_m_Rig_bay }
def b_m_Rig_of_bar : IB := (
 (.cons (.ite (.cmp .NotIn (.var 1) (.fld 0 1 (.var 0))) (
  (.cons (.rais 1 true (.cons (.var 1) .nil)) .nil)) ( .nil))
 (.cons (.ret (.idx (.idx (.fld 0 1 (.var 0)) (.var 1)) (.var 2))) .nil)))
def d_m_Rig_of_bar : FD := { name := "of_bar", qual := "Rig.of_bar", own := some 0, ps := ["self", "name", "at"], N := ["self", "name", "at"], md := [.bor, .bor, .bor], body := b_m_Rig_of_bar }
def b_m_Rig_of_piece : IB := (
 (.cons (.ite (.cmp .NotIn (.var 1) (.fld 0 2 (.var 0))) (
  (.cons (.rais 1 true (.cons (.var 1) .nil)) .nil)) ( .nil))
 (.cons (.ret (.idx (.idx (.fld 0 2 (.var 0)) (.var 1)) (.var 2))) .nil)))
def d_m_Rig_of_piece : FD := { name := "of_piece", qual := "Rig.of_piece", own := some 0, ps := ["self", "name", "at"], N := ["self", "name", "at"], md := [.bor, .bor, .bor], body := b_m_Rig_of_piece }
def b_m_Rig_at : IB := (
 (.cons (.ret (.meth 0 17 (.var 0) (.cons (.var 1) (.cons (.int 1) .nil)))) .nil))
def d_m_Rig_at : FD := { name := "at", qual := "Rig.at", own := some 0, ps := ["self", "bar"], N := ["self", "bar"], md := [.bor, .bor], body := b_m_Rig_at }
def b_m_Rig_room : IB := (
 (.cons (.ret (.meth 0 17 (.var 0) (.cons (.var 1) (.cons (.int 2) .nil)))) .nil))
def d_m_Rig_room : FD := { name := "room", qual := "Rig.room", own := some 0, ps := ["self", "bar"], N := ["self", "bar"], md := [.bor, .bor], body := b_m_Rig_room }
def b_m_Rig_pull : IB := (
 (.cons (.ret (.meth 0 17 (.var 0) (.cons (.var 1) (.cons (.int 3) .nil)))) .nil))
def d_m_Rig_pull : FD := { name := "pull", qual := "Rig.pull", own := some 0, ps := ["self", "bar"], N := ["self", "bar"], md := [.bor, .bor], body := b_m_Rig_pull }
def b_m_Rig_slack : IB := (
 (.cons (.ret (.meth 0 17 (.var 0) (.cons (.var 1) (.cons (.int 4) .nil)))) .nil))
def d_m_Rig_slack : FD := { name := "slack", qual := "Rig.slack", own := some 0, ps := ["self", "bar"], N := ["self", "bar"], md := [.bor, .bor], body := b_m_Rig_slack }
def b_m_Rig_hold : IB := (
 (.cons (.ret (.meth 0 17 (.var 0) (.cons (.var 1) (.cons (.int 5) .nil)))) .nil))
def d_m_Rig_hold : FD := { name := "hold", qual := "Rig.hold", own := some 0, ps := ["self", "bar"], N := ["self", "bar"], md := [.bor, .bor], body := b_m_Rig_hold }
def b_m_Rig_weight : IB := (
 (.cons (.ret (.meth 0 18 (.var 0) (.cons (.var 1) (.cons (.int 0) .nil)))) .nil))
def d_m_Rig_weight : FD := { name := "weight", qual := "Rig.weight", own := some 0, ps := ["self", "piece"], N := ["self", "piece"], md := [.bor, .bor], body := b_m_Rig_weight }
def b_q_row : IB := (
 (.cons (.setv 1 (.lst (.cons (.blt "int" (.cons (.an (.cmp .Gt (.blt "len" (.cons (.var 0) .nil)) (.int 0)) (.cmp .Eq (.bop .Mod (.idx (.var 0) (.int 0)) (.int 2)) (.int 1))) .nil)) .nil)))
 (.cons (.forr [2, 3] (.enu (.slc (.var 0) .no (.so (.int 63)))) (
  (.cons (.setf 4 (.var 3))
  (.cons (.ite (.cmp .Eq (.var 2) (.int 0)) (
   (.cons (.setf 4 (.bop .FloorDiv (.var 3) (.int 2))) .nil)) ( .nil))
  (.cons (.forr [5] (.rng1 (.bop .Add (.int 1) (.bop .Mult (.int 39) (.idx (.var 1) (.int 0))))) (
   (.cons (.mut "append" 1 (.cons (.bop .Mod (.var 4) (.bop .Pow (.int 10) (.int 12))) .nil))
   (.cons (.setf 4 (.bop .FloorDiv (.var 4) (.bop .Pow (.int 10) (.int 12)))) .nil)))) .nil)))))
 (.cons (.ret (.mov 1)) .nil))))
def d_q_row : FD := { name := "_law_row", qual := "_law_row", own := none, ps := ["_law_script"], N := ["_law_script", "_law_row_here", "_law_j", "_law_cell", "_law_number", "_law_k"], md := [.bor], body := b_q_row }
def b_q_draw : IB := (
 (.cons (.setf 3 (.int 0))
 (.cons (.ite (.cmp .Gt (.blt "len" (.cons (.var 0) .nil)) (.int 1)) (
  (.cons (.setf 3 (.idx (.var 0) (.bop .Add (.int 1) (.bop .Mod (.var 1) (.bop .Sub (.blt "len" (.cons (.var 0) .nil)) (.int 1)))))) .nil)) ( .nil))
 (.cons (.ite (.cmp .Eq (.idx (.var 0) (.int 0)) (.int 0)) (
  (.cons (.setf 3 (.bop .Add (.bop .Mod (.bop .Mult (.bop .Add (.bop .Mod (.var 3) (.int 2147483647)) (.int 3)) (.int 16807)) (.int 2147483647)) (.bop .Mult (.bop .Add (.var 1) (.int 1)) (.int 40692))))
  (.cons (.setf 3 (.bop .Mod (.bop .Mult (.bop .Mod (.bop .Mult (.bop .Add (.bop .Mod (.var 3) (.int 2147483399)) (.int 1)) (.int 39373)) (.int 2147483543)) (.int 30269)) (.int 2147483629))) .nil))) ( .nil))
 (.cons (.ret (.bop .Mod (.var 3) (.var 2))) .nil)))))
def d_q_draw : FD := { name := "_law_draw", qual := "_law_draw", own := none, ps := ["_law_row_here", "_law_k", "_law_many"], N := ["_law_row_here", "_law_k", "_law_many", "_law_number"], md := [.bor, .bor, .bor], body := b_q_draw }
def b_q_great : IB := (
 (.cons (.setf 3 (.int 0))
 (.cons (.forr [4] (.rng1 (.int 6)) (
  (.cons (.setf 3 (.bop .Add (.bop .Mult (.var 3) (.idx (.lst (.cons (.int 1000003) (.cons (.bop .Pow (.int 10) (.int 12)) .nil))) (.idx (.var 0) (.int 0)))) (.call 26 (.cons (.var 0) (.cons (.bop .Add (.var 1) (.var 4)) (.cons (.bop .Pow (.int 10) (.int 12)) .nil)))))) .nil)))
 (.cons (.ret (.bop .Mod (.var 3) (.var 2))) .nil))))
def d_q_great : FD := { name := "_law_great", qual := "_law_great", own := none, ps := ["_law_row_here", "_law_k", "_law_many"], N := ["_law_row_here", "_law_k", "_law_many", "_law_number", "_law_j"], md := [.bor, .bor, .bor], body := b_q_great }
def b_q_alike : IB := (
 (.cons (.ite (.isiN (.var 1) ["tuple", "list"]) (
  (.cons (.ite (.orr (.cmp .NotEq (.isi (.var 1) "tuple") (.isi (.var 0) "tuple")) (.cmp .NotEq (.isi (.var 1) "list") (.isi (.var 0) "list"))) (
   (.cons (.ret (.bl false)) .nil)) ( .nil))
  (.cons (.ite (.cmp .NotEq (.blt "len" (.cons (.var 0) .nil)) (.blt "len" (.cons (.var 1) .nil))) (
   (.cons (.ret (.bl false)) .nil)) ( .nil))
  (.cons (.ret (.blt "all" (.cons (.comp [2] (.rng1 (.blt "len" (.cons (.var 1) .nil))) .no (.call 28 (.cons (.idx (.var 0) (.var 2)) (.cons (.idx (.var 1) (.var 2)) .nil)))) .nil))) .nil)))) ( .nil))
 (.cons (.ite (.orr (.cmp .Is (.var 1) .non) (.cmp .Is (.var 0) .non)) (
  (.cons (.ret (.an (.cmp .Is (.var 1) .non) (.cmp .Is (.var 0) .non))) .nil)) ( .nil))
 (.cons (.ite (.orr (.isi (.var 1) "bool") (.isi (.var 0) "bool")) (
  (.cons (.ret (.an (.isi (.var 1) "bool") (.an (.isi (.var 0) "bool") (.cmp .Eq (.var 0) (.var 1))))) .nil)) ( .nil))
 (.cons (.ite (.isi (.var 1) "str") (
  (.cons (.ret (.an (.isi (.var 0) "str") (.cmp .Eq (.var 0) (.var 1)))) .nil)) ( .nil))
 (.cons (.ret (.an (.isi (.var 0) "int") (.cmp .Eq (.var 0) (.var 1)))) .nil))))))
def d_q_alike : FD := { name := "_law_alike", qual := "_law_alike", own := none, ps := ["_law_found", "_law_due_here"], N := ["_law_found", "_law_due_here", "_law_k"], md := [.bor, .bor], body := b_q_alike }
def b_q_names : IB := (
 (.cons (.setf 3 (.str "abcdefghijklmnopqrstuvwxyz"))
 (.cons (.setf 4 (.call 26 (.cons (.var 0) (.cons (.var 1) (.cons (.int 26) .nil)))))
 (.cons (.setv 5 (.comp [11] (.rng1 (.var 2)) .no (.bop .Mult (.idx (.var 3) (.bop .Mod (.bop .Add (.var 4) (.bop .FloorDiv (.var 11) (.int 8))) (.int 26))) (.bop .Add (.int 1) (.bop .Mod (.var 11) (.int 8))))))
 (.cons (.ite (.cmp .Gt (.call 26 (.cons (.var 0) (.cons (.bop .Add (.var 1) (.int 1)) (.cons (.int 3) .nil)))) (.int 0)) (
  (.cons (.setf 6 (.bop .Add (.int 1) (.call 26 (.cons (.var 0) (.cons (.bop .Add (.var 1) (.int 2)) (.cons (.int 8) .nil))))))
  (.cons (.setf 7 (.smt "join" (.str "") (.cons (.comp [11] (.rng1 (.var 6)) .no (.idx (.var 3) (.call 26 (.cons (.var 0) (.cons (.bop .Add (.bop .Add (.var 1) (.int 3)) (.var 11)) (.cons (.int 26) .nil)))))) .nil)))
  (.cons (.setf 8 (.call 26 (.cons (.var 0) (.cons (.bop .Add (.var 1) (.int 12)) (.cons (.var 6) .nil)))))
  (.cons (.setf 9 (.slc (.var 7) .no (.so (.var 8))))
  (.cons (.setf 10 (.slc (.var 7) (.so (.bop .Add (.var 8) (.int 1))) .no))
  (.cons (.setv 5 (.comp [11] (.rng1 (.var 2)) .no (.bop .Add (.bop .Add (.var 9) (.idx (.var 3) (.bop .Mod (.bop .Add (.var 4) (.bop .Mult (.int 3) (.var 11))) (.int 26)))) (.var 10)))) .nil))))))) ( .nil))
 (.cons (.ite (.cmp .Eq (.call 26 (.cons (.var 0) (.cons (.bop .Add (.var 1) (.int 13)) (.cons (.int 2) .nil)))) (.int 0)) (
  (.cons (.mut "reverse" 5 .nil) .nil)) ( .nil))
 (.cons (.ret (.mov 5)) .nil)))))))
def d_q_names : FD := { name := "_law_names", qual := "_law_names", own := none, ps := ["_law_row_here", "_law_k", "_law_many"], N := ["_law_row_here", "_law_k", "_law_many", "_law_letters", "_law_first", "_law_names_here", "_law_size", "_law_base", "_law_at", "_law_ahead", "_law_behind", "_law_j"], md := [.bor, .bor, .bor], body := b_q_names }
def b_q_bar : IB := (
 (.cons (.setf 3 (.idx (.lst (.cons (.bop .Add (.int 1) (.call 26 (.cons (.var 0) (.cons (.var 1) (.cons (.int 12) .nil))))) (.cons (.int 60) .nil))) (.blt "int" (.cons (.cmp .Eq (.call 26 (.cons (.var 0) (.cons (.bop .Add (.var 1) (.int 1)) (.cons (.int 8) .nil)))) (.int 0)) .nil))))
 (.cons (.setf 4 (.idx (.lst (.cons (.call 26 (.cons (.var 0) (.cons (.bop .Add (.var 1) (.int 3)) (.cons (.int 13) .nil)))) (.cons (.int 60) .nil))) (.blt "int" (.cons (.cmp .Eq (.call 26 (.cons (.var 0) (.cons (.bop .Add (.var 1) (.int 4)) (.cons (.int 8) .nil)))) (.int 0)) .nil))))
 (.cons (.setf 5 (.lst (.cons (.int 0) (.cons (.bop .FloorDiv (.var 2) (.int 2)) (.cons (.bop .Mult (.var 2) (.call 26 (.cons (.var 0) (.cons (.bop .Add (.var 1) (.int 7)) (.cons (.int 4) .nil))))) .nil)))))
 (.cons (.setf 5 (.bop .Add (.var 5) (.lst (.cons (.call 27 (.cons (.var 0) (.cons (.bop .Add (.var 1) (.int 8)) (.cons (.bop .Mult (.int 2) (.var 2)) .nil)))) (.cons (.call 27 (.cons (.var 0) (.cons (.bop .Add (.var 1) (.int 8)) (.cons (.bop .Pow (.int 10) (.int 15)) .nil)))) .nil)))))
 (.cons (.setf 6 (.idx (.var 5) (.call 26 (.cons (.var 0) (.cons (.bop .Add (.var 1) (.int 6)) (.cons (.int 5) .nil))))))
 (.cons (.setf 5 (.lst (.cons (.int 0) (.cons (.bop .Mult (.var 2) (.call 26 (.cons (.var 0) (.cons (.bop .Add (.var 1) (.int 10)) (.cons (.int 5) .nil))))) (.cons (.call 27 (.cons (.var 0) (.cons (.bop .Add (.var 1) (.int 11)) (.cons (.bop .Mult (.int 9) (.var 2)) .nil)))) (.cons (.bop .Pow (.int 10) (.int 15)) .nil))))))
 (.cons (.setf 7 (.blt "min" (.cons (.bop .Pow (.int 10) (.int 15)) (.cons (.bop .Add (.var 6) (.idx (.var 5) (.call 26 (.cons (.var 0) (.cons (.bop .Add (.var 1) (.int 9)) (.cons (.int 4) .nil)))))) .nil))))
 (.cons (.ret (.tup (.cons (.var 3) (.cons (.call 26 (.cons (.var 0) (.cons (.bop .Add (.var 1) (.int 2)) (.cons (.bop .Add (.var 3) (.int 1)) .nil)))) (.cons (.var 4) (.cons (.bop .Add (.int 1) (.call 26 (.cons (.var 0) (.cons (.bop .Add (.var 1) (.int 5)) (.cons (.int 2) .nil))))) (.cons (.var 6) (.cons (.var 7) .nil)))))))) .nil)))))))))
def d_q_bar : FD := { name := "_law_bar", qual := "_law_bar", own := none, ps := ["_law_row_here", "_law_k", "_law_plate"], N := ["_law_row_here", "_law_k", "_law_plate", "_law_top", "_law_room", "_law_some_here", "_law_slack", "_law_hold"], md := [.bor, .bor, .bor], body := b_q_bar }
def b_q_piece : IB := (
 (.cons (.setv 3 (.lst (.cons (.bop .Add (.int 1) (.call 26 (.cons (.var 0) (.cons (.var 1) (.cons (.int 40) .nil))))) (.cons (.bop .Mult (.var 2) (.bop .Add (.int 1) (.call 26 (.cons (.var 0) (.cons (.var 1) (.cons (.int 9) .nil)))))) .nil))))
 (.cons (.mut "append" 3 (.cons (.bop .Add (.int 1) (.call 27 (.cons (.var 0) (.cons (.bop .Add (.var 1) (.int 1)) (.cons (.bop .Pow (.int 10) (.int 12)) .nil))))) .nil))
 (.cons (.setf 4 (.call 26 (.cons (.var 0) (.cons (.bop .Add (.var 1) (.int 3)) (.cons (.int 4) .nil)))))
 (.cons (.ite (.cmp .Eq (.call 26 (.cons (.var 0) (.cons (.bop .Add (.var 1) (.int 5)) (.cons (.int 5) .nil)))) (.int 0)) (
  (.cons (.setf 4 (.call 26 (.cons (.var 0) (.cons (.bop .Add (.var 1) (.int 4)) (.cons (.int 61) .nil))))) .nil)) ( .nil))
 (.cons (.ret (.tup (.cons (.blt "min" (.cons (.bop .Pow (.int 10) (.int 12)) (.cons (.idx (.var 3) (.bop .Mod (.call 26 (.cons (.var 0) (.cons (.bop .Add (.var 1) (.int 2)) (.cons (.int 5) .nil)))) (.int 3))) .nil))) (.cons (.var 4) .nil)))) .nil))))))
def d_q_piece : FD := { name := "_law_piece", qual := "_law_piece", own := none, ps := ["_law_row_here", "_law_k", "_law_plate"], N := ["_law_row_here", "_law_k", "_law_plate", "_law_some_here", "_law_drop"], md := [.bor, .bor, .bor], body := b_q_piece }
def b_q_bay : IB := (
 (.cons (.setf 3 (.blt "sorted" (.cons (.comp [6] (.keys 2 []) .no (.tup (.cons (.idx (.idx (.var 2) (.var 6)) (.int 1)) (.cons (.var 6) .nil)))) .nil)))
 (.cons (.setv 4 (.lst .nil))
 (.cons (.forr [5] (.rng1 (.blt "len" (.cons (.var 3) .nil))) (
  (.cons (.ite (.an (.cmp .Gt (.call 26 (.cons (.var 0) (.cons (.bop .Add (.var 1) (.var 5)) (.cons (.int 4) .nil)))) (.int 0)) (.orr (.cmp .Eq (.var 4) (.lst .nil)) (.cmp .Lt (.idx (.idx (.var 2) (.idx (.var 4) (.neg (.int 1)))) (.int 1)) (.idx (.idx (.var 3) (.var 5)) (.int 0))))) (
   (.cons (.mut "append" 4 (.cons (.idx (.idx (.var 3) (.var 5)) (.int 1)) .nil)) .nil)) ( .nil)) .nil)))
 (.cons (.ret (.mov 4)) .nil)))))
def d_q_bay : FD := { name := "_law_bay", qual := "_law_bay", own := none, ps := ["_law_row_here", "_law_k", "_law_bars"], N := ["_law_row_here", "_law_k", "_law_bars", "_law_rising", "_law_chosen", "_law_j", "_law_name"], md := [.bor, .bor, .bor], body := b_q_bay }
def b_q_lines : IB := (
 (.cons (.setv 2 (.comp [3] (.keys 1 [.ks "bars"]) .no (.smt "join" (.str " ") (.cons (.bop .Add (.lst (.cons (.str "bar") (.cons (.var 3) .nil))) (.comp [10] (.seq (.idx (.idx (.var 1) (.str "bars")) (.var 3))) .no (.blt "str" (.cons (.var 10) .nil)))) .nil))))
 (.cons (.forr [3] (.keys 1 [.ks "bays"]) (
  (.cons (.setf 4 (.blt "max" (.cons (.comp [9] (.seq (.idx (.idx (.var 1) (.str "bays")) (.var 3))) .no (.lmt "index" (.blt "list" (.cons (.idx (.var 1) (.str "bars")) .nil)) (.cons (.var 9) .nil))) .nil)))
  (.cons (.setf 5 (.comp [8] (.rng1 (.blt "len" (.cons (.var 2) .nil))) (.so (.smt "startswith" (.idx (.var 2) (.var 8)) (.cons (.str "bar ") .nil))) (.var 8)))
  (.cons (.setf 6 (.bop .Add (.idx (.var 5) (.var 4)) (.int 1)))
  (.cons (.setf 6 (.bop .Add (.var 6) (.call 26 (.cons (.var 0) (.cons (.bop .Add (.int 300) (.blt "len" (.cons (.var 2) .nil))) (.cons (.bop .Add (.bop .Sub (.blt "len" (.cons (.var 2) .nil)) (.var 6)) (.int 1)) .nil))))))
  (.cons (.mut "insert" 2 (.cons (.var 6) (.cons (.smt "join" (.str " ") (.cons (.bop .Add (.lst (.cons (.str "bay") (.cons (.var 3) .nil))) (.idx (.idx (.var 1) (.str "bays")) (.var 3))) .nil)) .nil))) .nil)))))))
 (.cons (.forr [3] (.keys 1 [.ks "pieces"]) (
  (.cons (.setf 7 (.smt "join" (.str " ") (.cons (.bop .Add (.lst (.cons (.str "piece") (.cons (.var 3) .nil))) (.comp [10] (.seq (.idx (.idx (.var 1) (.str "pieces")) (.var 3))) .no (.blt "str" (.cons (.var 10) .nil)))) .nil)))
  (.cons (.mut "insert" 2 (.cons (.call 26 (.cons (.var 0) (.cons (.bop .Add (.int 340) (.blt "len" (.cons (.var 2) .nil))) (.cons (.bop .Add (.blt "len" (.cons (.var 2) .nil)) (.int 1)) .nil)))) (.cons (.var 7) .nil))) .nil))))
 (.cons (.mut "insert" 2 (.cons (.call 26 (.cons (.var 0) (.cons (.int 390) (.cons (.bop .Add (.blt "len" (.cons (.var 2) .nil)) (.int 1)) .nil)))) (.cons (.bop .Add (.str "plate ") (.blt "str" (.cons (.idx (.var 1) (.str "plate")) .nil))) .nil)))
 (.cons (.ret (.mov 2)) .nil))))))
def d_q_lines : FD := { name := "_law_lines", qual := "_law_lines", own := none, ps := ["_law_row_here", "_law_rig_here"], N := ["_law_row_here", "_law_rig_here", "_law_lines_here", "_law_name", "_law_last", "_law_seen", "_law_at", "_law_line", "_law_k", "_law_bar_here", "_law_one"], md := [.bor, .bor], body := b_q_lines }
def b_q_rig : IB := (
 (.cons (.setf 1 (.idx (.lst (.cons (.bop .Add (.int 1) (.call 26 (.cons (.var 0) (.cons (.int 0) (.cons (.int 5) .nil))))) (.cons (.int 8) .nil))) (.blt "int" (.cons (.cmp .Eq (.call 26 (.cons (.var 0) (.cons (.int 1) (.cons (.int 9) .nil)))) (.int 0)) .nil))))
 (.cons (.setf 2 (.idx (.lst (.cons (.call 26 (.cons (.var 0) (.cons (.int 2) (.cons (.int 7) .nil)))) (.cons (.int 12) .nil))) (.blt "int" (.cons (.cmp .Eq (.call 26 (.cons (.var 0) (.cons (.int 3) (.cons (.int 9) .nil)))) (.int 0)) .nil))))
 (.cons (.setf 3 (.idx (.lst (.cons (.bop .Add (.int 1) (.call 26 (.cons (.var 0) (.cons (.int 5) (.cons (.int 9) .nil))))) (.cons (.bop .Add (.int 1) (.call 27 (.cons (.var 0) (.cons (.int 6) (.cons (.bop .Pow (.int 10) (.int 12)) .nil))))) .nil))) (.blt "int" (.cons (.cmp .Eq (.call 26 (.cons (.var 0) (.cons (.int 4) (.cons (.int 4) .nil)))) (.int 0)) .nil))))
 (.cons (.setf 4 (.call 29 (.cons (.var 0) (.cons (.int 20) (.cons (.int 12) .nil)))))
 (.cons (.setf 5 (.call 29 (.cons (.var 0) (.cons (.idx (.lst (.cons (.int 20) (.cons (.int 40) .nil))) (.call 26 (.cons (.var 0) (.cons (.int 7) (.cons (.int 2) .nil))))) (.cons (.int 12) .nil)))))
 (.cons (.setv 6 (.dct ["plate", "bars", "pieces", "bays"] (.cons (.var 3) (.cons (.dct [] .nil) (.cons (.dct [] .nil) (.cons (.dct [] .nil) .nil))))))
 (.cons (.forr [7] (.rng1 (.var 1)) (
  (.cons (.setp 6 [.ks "bars"] (.idx (.var 4) (.var 7)) (.call 30 (.cons (.var 0) (.cons (.bop .Add (.int 60) (.bop .Mult (.int 14) (.var 7))) (.cons (.var 3) .nil))))) .nil)))
 (.cons (.forr [7] (.rng1 (.var 2)) (
  (.cons (.setp 6 [.ks "pieces"] (.idx (.var 5) (.var 7)) (.call 31 (.cons (.var 0) (.cons (.bop .Add (.int 180) (.bop .Mult (.int 7) (.var 7))) (.cons (.var 3) .nil))))) .nil)))
 (.cons (.forr [7] (.rng1 (.idx (.lst (.cons (.call 26 (.cons (.var 0) (.cons (.int 8) (.cons (.int 5) .nil)))) (.cons (.int 12) .nil))) (.blt "int" (.cons (.cmp .Eq (.call 26 (.cons (.var 0) (.cons (.int 9) (.cons (.int 9) .nil)))) (.int 0)) .nil)))) (
  (.cons (.setf 8 (.call 32 (.cons (.var 0) (.cons (.bop .Add (.int 270) (.bop .Mult (.int 9) (.var 7))) (.cons (.idx (.var 6) (.str "bars")) .nil)))))
  (.cons (.ite (.cmp .Gt (.blt "len" (.cons (.var 8) .nil)) (.int 1)) (
   (.cons (.setp 6 [.ks "bays"] (.idx (.var 4) (.bop .Sub (.int 11) (.var 7))) (.var 8)) .nil)) ( .nil)) .nil))))
 (.cons (.setp 6 [] (.str "lines") (.call 33 (.cons (.var 0) (.cons (.var 6) .nil))))
 (.cons (.ret (.mov 6)) .nil))))))))))))
def d_q_rig : FD := { name := "_law_rig", qual := "_law_rig", own := none, ps := ["_law_row_here"], N := ["_law_row_here", "_law_many", "_law_parts", "_law_plate", "_law_names_here", "_law_others", "_law_rig_here", "_law_j", "_law_chosen"], md := [.bor], body := b_q_rig }
def b_q_some : IB := (
 (.cons (.setv 3 (.lst .nil))
 (.cons (.forr [4, 5] (.enuK 2 [.ks "pieces"]) (
  (.cons (.ite (.cmp .Eq (.call 26 (.cons (.var 0) (.cons (.bop .Add (.var 1) (.bop .Mult (.int 2) (.var 4))) (.cons (.int 2) .nil)))) (.int 0)) (
   (.cons (.mut "insert" 3 (.cons (.call 26 (.cons (.var 0) (.cons (.bop .Add (.bop .Add (.var 1) (.bop .Mult (.int 2) (.var 4))) (.int 1)) (.cons (.bop .Add (.blt "len" (.cons (.var 3) .nil)) (.int 1)) .nil)))) (.cons (.var 5) .nil))) .nil)) ( .nil)) .nil)))
 (.cons (.ret (.mov 3)) .nil))))
def d_q_some : FD := { name := "_law_some", qual := "_law_some", own := none, ps := ["_law_row_here", "_law_k", "_law_drawn"], N := ["_law_row_here", "_law_k", "_law_drawn", "_law_found", "_law_j", "_law_name"], md := [.bor, .bor, .bor], body := b_q_some }
def b_q_lean : IB := (
 (.cons (.setf 4 (.blt "sum" (.cons (.comp [5] (.seq (.var 2)) .no (.idx (.idx (.idx (.var 0) (.str "pieces")) (.var 5)) (.int 0))) .nil)))
 (.cons (.ret (.bop .Sub (.bop .Mult (.idx (.idx (.idx (.var 0) (.str "bars")) (.var 1)) (.int 3)) (.var 4)) (.bop .Mult (.var 3) (.idx (.var 0) (.str "plate"))))) .nil)))
def d_q_lean : FD := { name := "_law_lean", qual := "_law_lean", own := none, ps := ["_law_drawn", "_law_bar_here", "_law_pieces", "_law_plates"], N := ["_law_drawn", "_law_bar_here", "_law_pieces", "_law_plates", "_law_load", "_law_piece_here"], md := [.bor, .bor, .bor, .bor], body := b_q_lean }
def b_q_asked : IB := (
 (.cons (.setf 3 .non)
 (.cons (.setf 4 .non)
 (.cons (.tryx (
  (.cons (.setf 3 (.call 2 (.cons (.var 0) (.cons (.var 1) (.cons (.var 2) .nil))))) .nil)) (.base) (some 5) (
  (.cons (.setf 4 (.tup (.cons (.str "") (.cons (.str "") (.cons (.str "") .nil)))))
  (.cons (.ite (.an (.isx (.var 5) [.own 2]) (.an (.nt (.isx (.var 5) [.own 3])) (.nt (.isx (.var 5) [.own 4])))) (
   (.cons (.setf 4 (.tup (.cons (.xfl (.var 5) "bar") (.cons (.xfl (.var 5) "why") (.cons (.xfl (.var 5) "lacks") .nil))))) .nil)) ( .nil)) .nil))))
 (.cons (.ret (.ite (.cmp .Is (.var 4) .non) (.var 3) (.var 4))) .nil)))))
def d_q_asked : FD := { name := "_law_asked", qual := "_law_asked", own := none, ps := ["_law_rig_here", "_law_bar_here", "_law_pieces"], N := ["_law_rig_here", "_law_bar_here", "_law_pieces", "_law_found", "_law_due_here", "e"], md := [.bor, .bor, .bor], body := b_q_asked }
def b_q_due : IB := (
 (.cons (.setf 3 (.idx (.idx (.var 0) (.str "bars")) (.var 1)))
 (.cons (.setf 4 (.idx (.var 0) (.str "plate")))
 (.cons (.setf 5 (.call 36 (.cons (.var 0) (.cons (.var 1) (.cons (.var 2) (.cons (.int 0) .nil))))))
 (.cons (.setf 6 (.bop .FloorDiv (.var 5) (.var 4)))
 (.cons (.setf 7 (.blt "min" (.cons (.bop .Sub (.var 5) (.bop .Mult (.var 6) (.var 4))) (.cons (.bop .Sub (.bop .Mult (.bop .Add (.var 6) (.int 1)) (.var 4)) (.var 5)) .nil))))
 (.cons (.ite (.cmp .Gt (.var 7) (.idx (.var 3) (.int 4))) (
  (.cons (.ret (.tup (.cons (.var 1) (.cons (.str "plate") (.cons (.bop .Sub (.var 7) (.idx (.var 3) (.int 4))) .nil))))) .nil)) ( .nil))
 (.cons (.setf 8 (.blt "max" (.cons (.int 0) (.cons (.bop .FloorDiv (.bop .Sub (.bop .Add (.bop .Sub (.var 5) (.idx (.var 3) (.int 4))) (.var 4)) (.int 1)) (.var 4)) .nil))))
 (.cons (.ite (.cmp .Gt (.var 8) (.idx (.var 3) (.int 2))) (
  (.cons (.ret (.tup (.cons (.var 1) (.cons (.str "room") (.cons (.bop .Sub (.var 8) (.idx (.var 3) (.int 2))) .nil))))) .nil)) ( .nil))
 (.cons (.ret .non) .nil))))))))))
def d_q_due : FD := { name := "_law_due", qual := "_law_due", own := none, ps := ["_law_drawn", "_law_bar_here", "_law_pieces"], N := ["_law_drawn", "_law_bar_here", "_law_pieces", "_law_told_here", "_law_plate", "_law_pull", "_law_below", "_law_off", "_law_least"], md := [.bor, .bor, .bor], body := b_q_due }
def b_law : IB := (
 (.cons (.setf 1 (.call 25 (.cons (.var 0) .nil)))
 (.cons (.setf 2 (.call 34 (.cons (.var 1) .nil)))
 (.cons (.setf 3 (.new 0 6 (.cons (.blt "list" (.cons (.idx (.var 2) (.str "lines")) .nil)) .nil)))
 (.cons (.forr [4, 5] (.enuK 2 [.ks "bars"]) (
  (.cons (.forr [6] (.rng1 (.int 3)) (
   (.cons (.setf 7 (.call 35 (.cons (.var 1) (.cons (.bop .Add (.bop .Add (.int 400) (.bop .Mult (.int 90) (.var 4))) (.bop .Mult (.int 30) (.var 6))) (.cons (.var 2) .nil)))))
   (.cons (.setf 8 (.call 37 (.cons (.var 3) (.cons (.var 5) (.cons (.blt "list" (.cons (.var 7) .nil)) .nil)))))
   (.cons (.setf 9 (.call 38 (.cons (.var 2) (.cons (.var 5) (.cons (.var 7) .nil)))))
   (.cons (.ite (.cmp .Is (.var 9) .non) (
    (.cons (.ite (.orr (.nt (.isi (.var 8) "tuple")) (.cmp .NotEq (.blt "len" (.cons (.var 8) .nil)) (.int 2))) (
     (.cons (.ret (.bl false)) .nil)) ( .nil)) .nil)) (
    (.cons (.ite (.nt (.call 28 (.cons (.var 8) (.cons (.var 9) .nil)))) (
     (.cons (.ret (.bl false)) .nil)) ( .nil)) .nil))) .nil)))))) .nil)))
 (.cons (.ret (.bl true)) .nil))))))
def d_law : FD := { name := "law", qual := "law", own := none, ps := ["_law_script"], N := ["_law_script", "_law_row_here", "_law_drawn", "_law_rig_here", "_law_j", "_law_bar_here", "_law_turn", "_law_pieces", "_law_found", "_law_due_here"], md := [.bor], body := b_law }
@[irreducible] def PL : Pg := ⟨[d_load_of, d_pull_of, d_counts_of, d_is_name, d_number_of, d_numbers_in, d_m_Rig_init, d_m_Rig_is_told, d_m_Rig_is_plate, d_m_Rig_is_bar, d_m_Rig_is_piece, d_m_Rig_is_bay, d_m_Rig_plate, d_m_Rig_bars, d_m_Rig_pieces, d_m_Rig_bays, d_m_Rig_bay, d_m_Rig_of_bar, d_m_Rig_of_piece, d_m_Rig_at, d_m_Rig_room, d_m_Rig_pull, d_m_Rig_slack, d_m_Rig_hold, d_m_Rig_weight, d_q_row, d_q_draw, d_q_great, d_q_alike, d_q_names, d_q_bar, d_q_piece, d_q_bay, d_q_lines, d_q_rig, d_q_some, d_q_lean, d_q_asked, d_q_due, d_law], [("FARTHEST", .int 60), ("FIGURES", .str "0123456789"), ("HEAVIEST", .int 1000000000000), ("LETTERS", .str "abcdefghijklmnopqrstuvwxyz"), ("LONGEST_NAME", .int 8), ("MOST_BARS", .int 8), ("MOST_BAYS", .int 12), ("MOST_FIGURES", .int 16), ("MOST_PIECES", .int 12), ("STRONGEST", .int 1000000000000000)], [{ name := "Rig", init := 6, fl := ["iron", "bars_told", "pieces_told", "bays_told"] }], [{ name := "NoRig", fl := ["row"], kp := true }, { name := "NoName", fl := ["name"], kp := true }, { name := "Unbalanced", fl := ["bar", "why", "lacks"], kp := true }, { name := "TooHeavy", fl := ["bar", "what"], kp := true }, { name := "Unheld", fl := ["bar", "over"], kp := true }], some "LoftError"⟩
instance : XfIs PL 0 ["row"] := ⟨by unfold PL; rfl, by unfold PL; rfl⟩
instance : XfIs PL 1 ["name"] := ⟨by unfold PL; rfl, by unfold PL; rfl⟩
instance : XfIs PL 2 ["bar", "why", "lacks"] := ⟨by unfold PL; rfl, by unfold PL; rfl⟩
instance : XfIs PL 3 ["bar", "what"] := ⟨by unfold PL; rfl, by unfold PL; rfl⟩
instance : XfIs PL 4 ["bar", "over"] := ⟨by unfold PL; rfl, by unfold PL; rfl⟩
theorem oki_NoRig : FnScope ["self", "row"] ["self", "row"] (defScope (inC (top 3) 0)) ∧ ckIni "LoftError" ["self", "row"] (defScope (inC (top 3) 0)) ["row"] (defBody (inC (top 3) 0)) = true := ⟨⟨rfl, rfl, rfl, by decide +kernel, rfl, by decide +kernel, by decide +kernel⟩, by decide +kernel⟩
theorem okb_NoRig : ∀ (kV doc pm : Value) (an : Option Addr) (cdv ct : Value) (us : List Value), us.length = (["self", "row"] : List Str).length → bindArgs (PySem.W.fnOf "__init__" "NoRig.__init__" (defArgs (inC (top 3) 0)) (defBody (inC (top 3) 0)) (defScope (inC (top 3) 0)) .none kV doc pm an cdv ct) ⟨us, []⟩ = pure ((["self", "row"] : List Str).zip us) := fun _ _ _ _ _ _ us hl => match us, hl with | [_, _], _ => rfl
theorem oki_NoName : FnScope ["self", "name"] ["self", "name"] (defScope (inC (top 4) 0)) ∧ ckIni "LoftError" ["self", "name"] (defScope (inC (top 4) 0)) ["name"] (defBody (inC (top 4) 0)) = true := ⟨⟨rfl, rfl, rfl, by decide +kernel, rfl, by decide +kernel, by decide +kernel⟩, by decide +kernel⟩
theorem okb_NoName : ∀ (kV doc pm : Value) (an : Option Addr) (cdv ct : Value) (us : List Value), us.length = (["self", "name"] : List Str).length → bindArgs (PySem.W.fnOf "__init__" "NoName.__init__" (defArgs (inC (top 4) 0)) (defBody (inC (top 4) 0)) (defScope (inC (top 4) 0)) .none kV doc pm an cdv ct) ⟨us, []⟩ = pure ((["self", "name"] : List Str).zip us) := fun _ _ _ _ _ _ us hl => match us, hl with | [_, _], _ => rfl
theorem oki_Unbalanced : FnScope ["self", "bar", "why", "lacks"] ["self", "bar", "why", "lacks"] (defScope (inC (top 5) 0)) ∧ ckIni "LoftError" ["self", "bar", "why", "lacks"] (defScope (inC (top 5) 0)) ["bar", "why", "lacks"] (defBody (inC (top 5) 0)) = true := ⟨⟨rfl, rfl, rfl, by decide +kernel, rfl, by decide +kernel, by decide +kernel⟩, by decide +kernel⟩
theorem okb_Unbalanced : ∀ (kV doc pm : Value) (an : Option Addr) (cdv ct : Value) (us : List Value), us.length = (["self", "bar", "why", "lacks"] : List Str).length → bindArgs (PySem.W.fnOf "__init__" "Unbalanced.__init__" (defArgs (inC (top 5) 0)) (defBody (inC (top 5) 0)) (defScope (inC (top 5) 0)) .none kV doc pm an cdv ct) ⟨us, []⟩ = pure ((["self", "bar", "why", "lacks"] : List Str).zip us) := fun _ _ _ _ _ _ us hl => match us, hl with | [_, _, _, _], _ => rfl
theorem oki_TooHeavy : FnScope ["self", "bar", "what"] ["self", "bar", "what"] (defScope (inC (top 6) 0)) ∧ ckIni "LoftError" ["self", "bar", "what"] (defScope (inC (top 6) 0)) ["bar", "what"] (defBody (inC (top 6) 0)) = true := ⟨⟨rfl, rfl, rfl, by decide +kernel, rfl, by decide +kernel, by decide +kernel⟩, by decide +kernel⟩
theorem okb_TooHeavy : ∀ (kV doc pm : Value) (an : Option Addr) (cdv ct : Value) (us : List Value), us.length = (["self", "bar", "what"] : List Str).length → bindArgs (PySem.W.fnOf "__init__" "TooHeavy.__init__" (defArgs (inC (top 6) 0)) (defBody (inC (top 6) 0)) (defScope (inC (top 6) 0)) .none kV doc pm an cdv ct) ⟨us, []⟩ = pure ((["self", "bar", "what"] : List Str).zip us) := fun _ _ _ _ _ _ us hl => match us, hl with | [_, _, _], _ => rfl
theorem oki_Unheld : FnScope ["self", "bar", "over"] ["self", "bar", "over"] (defScope (inC (top 7) 0)) ∧ ckIni "LoftError" ["self", "bar", "over"] (defScope (inC (top 7) 0)) ["bar", "over"] (defBody (inC (top 7) 0)) = true := ⟨⟨rfl, rfl, rfl, by decide +kernel, rfl, by decide +kernel, by decide +kernel⟩, by decide +kernel⟩
theorem okb_Unheld : ∀ (kV doc pm : Value) (an : Option Addr) (cdv ct : Value) (us : List Value), us.length = (["self", "bar", "over"] : List Str).length → bindArgs (PySem.W.fnOf "__init__" "Unheld.__init__" (defArgs (inC (top 7) 0)) (defBody (inC (top 7) 0)) (defScope (inC (top 7) 0)) .none kV doc pm an cdv ct) ⟨us, []⟩ = pure ((["self", "bar", "over"] : List Str).zip us) := fun _ _ _ _ _ _ us hl => match us, hl with | [_, _, _], _ => rfl
instance : GvIs PL "FARTHEST" (.int 60) := ⟨by unfold PL; kernel_rfl⟩
instance : GvIs PL "FIGURES" (.str "0123456789") := ⟨by unfold PL; kernel_rfl⟩
instance : GvIs PL "HEAVIEST" (.int 1000000000000) := ⟨by unfold PL; kernel_rfl⟩
instance : GvIs PL "LETTERS" (.str "abcdefghijklmnopqrstuvwxyz") := ⟨by unfold PL; kernel_rfl⟩
instance : GvIs PL "LONGEST_NAME" (.int 8) := ⟨by unfold PL; kernel_rfl⟩
instance : GvIs PL "MOST_BARS" (.int 8) := ⟨by unfold PL; kernel_rfl⟩
instance : GvIs PL "MOST_BAYS" (.int 12) := ⟨by unfold PL; kernel_rfl⟩
instance : GvIs PL "MOST_FIGURES" (.int 16) := ⟨by unfold PL; kernel_rfl⟩
instance : GvIs PL "MOST_PIECES" (.int 12) := ⟨by unfold PL; kernel_rfl⟩
instance : GvIs PL "STRONGEST" (.int 1000000000000000) := ⟨by unfold PL; kernel_rfl⟩
theorem ok_load_of : DOk (nmOf PL) (top 9) d_load_of := ⟨⟨rfl, rfl, rfl, by decide +kernel, rfl, by decide +kernel, by decide +kernel⟩, by decide +kernel, by decide +kernel, rfl, fun _ _ _ _ _ _ us hl => match us, hl with | [_, _], _ => rfl⟩
theorem ok_pull_of : DOk (nmOf PL) (top 10) d_pull_of := ⟨⟨rfl, rfl, rfl, by decide +kernel, rfl, by decide +kernel, by decide +kernel⟩, by decide +kernel, by decide +kernel, rfl, fun _ _ _ _ _ _ us hl => match us, hl with | [_, _, _], _ => rfl⟩
theorem ok_counts_of : DOk (nmOf PL) (top 12) d_counts_of := ⟨⟨rfl, rfl, rfl, by decide +kernel, rfl, by decide +kernel, by decide +kernel⟩, by decide +kernel, by decide +kernel, rfl, fun _ _ _ _ _ _ us hl => match us, hl with | [_, _, _], _ => rfl⟩
theorem ok_is_name : DOk (nmOf PL) (top 18) d_is_name := ⟨⟨rfl, rfl, rfl, by decide +kernel, rfl, by decide +kernel, by decide +kernel⟩, by decide +kernel, by decide +kernel, rfl, fun _ _ _ _ _ _ us hl => match us, hl with | [_], _ => rfl⟩
theorem ok_number_of : DOk (nmOf PL) (top 19) d_number_of := ⟨⟨rfl, rfl, rfl, by decide +kernel, rfl, by decide +kernel, by decide +kernel⟩, by decide +kernel, by decide +kernel, rfl, fun _ _ _ _ _ _ us hl => match us, hl with | [_], _ => rfl⟩
theorem ok_numbers_in : DOk (nmOf PL) (top 27) d_numbers_in := ⟨⟨rfl, rfl, rfl, by decide +kernel, rfl, by decide +kernel, by decide +kernel⟩, by decide +kernel, by decide +kernel, rfl, fun _ _ _ _ _ _ us hl => match us, hl with | [_, _], _ => rfl⟩
theorem ok_m_Rig_init : DOk (nmOf PL) (inC (top 28) 0) d_m_Rig_init := ⟨⟨rfl, rfl, rfl, by decide +kernel, rfl, by decide +kernel, by decide +kernel⟩, by decide +kernel, by decide +kernel, rfl, fun _ _ _ _ _ _ us hl => match us, hl with | [_, _], _ => rfl⟩
theorem ok_m_Rig_is_told : DOk (nmOf PL) (inC (top 28) 1) d_m_Rig_is_told := ⟨⟨rfl, rfl, rfl, by decide +kernel, rfl, by decide +kernel, by decide +kernel⟩, by decide +kernel, by decide +kernel, rfl, fun _ _ _ _ _ _ us hl => match us, hl with | [_, _], _ => rfl⟩
theorem ok_m_Rig_is_plate : DOk (nmOf PL) (inC (top 28) 2) d_m_Rig_is_plate := ⟨⟨rfl, rfl, rfl, by decide +kernel, rfl, by decide +kernel, by decide +kernel⟩, by decide +kernel, by decide +kernel, rfl, fun _ _ _ _ _ _ us hl => match us, hl with | [_, _], _ => rfl⟩
theorem ok_m_Rig_is_bar : DOk (nmOf PL) (inC (top 28) 3) d_m_Rig_is_bar := ⟨⟨rfl, rfl, rfl, by decide +kernel, rfl, by decide +kernel, by decide +kernel⟩, by decide +kernel, by decide +kernel, rfl, fun _ _ _ _ _ _ us hl => match us, hl with | [_, _, _], _ => rfl⟩
theorem ok_m_Rig_is_piece : DOk (nmOf PL) (inC (top 28) 4) d_m_Rig_is_piece := ⟨⟨rfl, rfl, rfl, by decide +kernel, rfl, by decide +kernel, by decide +kernel⟩, by decide +kernel, by decide +kernel, rfl, fun _ _ _ _ _ _ us hl => match us, hl with | [_, _, _], _ => rfl⟩
theorem ok_m_Rig_is_bay : DOk (nmOf PL) (inC (top 28) 5) d_m_Rig_is_bay := ⟨⟨rfl, rfl, rfl, by decide +kernel, rfl, by decide +kernel, by decide +kernel⟩, by decide +kernel, by decide +kernel, rfl, fun _ _ _ _ _ _ us hl => match us, hl with | [_, _, _], _ => rfl⟩
theorem ok_m_Rig_plate : DOk (nmOf PL) (inC (top 28) 6) d_m_Rig_plate := ⟨⟨rfl, rfl, rfl, by decide +kernel, rfl, by decide +kernel, by decide +kernel⟩, by decide +kernel, by decide +kernel, rfl, fun _ _ _ _ _ _ us hl => match us, hl with | [_], _ => rfl⟩
theorem ok_m_Rig_bars : DOk (nmOf PL) (inC (top 28) 7) d_m_Rig_bars := ⟨⟨rfl, rfl, rfl, by decide +kernel, rfl, by decide +kernel, by decide +kernel⟩, by decide +kernel, by decide +kernel, rfl, fun _ _ _ _ _ _ us hl => match us, hl with | [_], _ => rfl⟩
theorem ok_m_Rig_pieces : DOk (nmOf PL) (inC (top 28) 8) d_m_Rig_pieces := ⟨⟨rfl, rfl, rfl, by decide +kernel, rfl, by decide +kernel, by decide +kernel⟩, by decide +kernel, by decide +kernel, rfl, fun _ _ _ _ _ _ us hl => match us, hl with | [_], _ => rfl⟩
theorem ok_m_Rig_bays : DOk (nmOf PL) (inC (top 28) 9) d_m_Rig_bays := ⟨⟨rfl, rfl, rfl, by decide +kernel, rfl, by decide +kernel, by decide +kernel⟩, by decide +kernel, by decide +kernel, rfl, fun _ _ _ _ _ _ us hl => match us, hl with | [_], _ => rfl⟩
theorem ok_m_Rig_bay : DOk (nmOf PL) (inC (top 28) 10) d_m_Rig_bay := ⟨⟨rfl, rfl, rfl, by decide +kernel, rfl, by decide +kernel, by decide +kernel⟩, by decide +kernel, by decide +kernel, rfl, fun _ _ _ _ _ _ us hl => match us, hl with | [_, _], _ => rfl⟩
theorem ok_m_Rig_of_bar : DOk (nmOf PL) (inC (top 28) 11) d_m_Rig_of_bar := ⟨⟨rfl, rfl, rfl, by decide +kernel, rfl, by decide +kernel, by decide +kernel⟩, by decide +kernel, by decide +kernel, rfl, fun _ _ _ _ _ _ us hl => match us, hl with | [_, _, _], _ => rfl⟩
theorem ok_m_Rig_of_piece : DOk (nmOf PL) (inC (top 28) 12) d_m_Rig_of_piece := ⟨⟨rfl, rfl, rfl, by decide +kernel, rfl, by decide +kernel, by decide +kernel⟩, by decide +kernel, by decide +kernel, rfl, fun _ _ _ _ _ _ us hl => match us, hl with | [_, _, _], _ => rfl⟩
theorem ok_m_Rig_at : DOk (nmOf PL) (inC (top 28) 14) d_m_Rig_at := ⟨⟨rfl, rfl, rfl, by decide +kernel, rfl, by decide +kernel, by decide +kernel⟩, by decide +kernel, by decide +kernel, rfl, fun _ _ _ _ _ _ us hl => match us, hl with | [_, _], _ => rfl⟩
theorem ok_m_Rig_room : DOk (nmOf PL) (inC (top 28) 15) d_m_Rig_room := ⟨⟨rfl, rfl, rfl, by decide +kernel, rfl, by decide +kernel, by decide +kernel⟩, by decide +kernel, by decide +kernel, rfl, fun _ _ _ _ _ _ us hl => match us, hl with | [_, _], _ => rfl⟩
theorem ok_m_Rig_pull : DOk (nmOf PL) (inC (top 28) 16) d_m_Rig_pull := ⟨⟨rfl, rfl, rfl, by decide +kernel, rfl, by decide +kernel, by decide +kernel⟩, by decide +kernel, by decide +kernel, rfl, fun _ _ _ _ _ _ us hl => match us, hl with | [_, _], _ => rfl⟩
theorem ok_m_Rig_slack : DOk (nmOf PL) (inC (top 28) 17) d_m_Rig_slack := ⟨⟨rfl, rfl, rfl, by decide +kernel, rfl, by decide +kernel, by decide +kernel⟩, by decide +kernel, by decide +kernel, rfl, fun _ _ _ _ _ _ us hl => match us, hl with | [_, _], _ => rfl⟩
theorem ok_m_Rig_hold : DOk (nmOf PL) (inC (top 28) 18) d_m_Rig_hold := ⟨⟨rfl, rfl, rfl, by decide +kernel, rfl, by decide +kernel, by decide +kernel⟩, by decide +kernel, by decide +kernel, rfl, fun _ _ _ _ _ _ us hl => match us, hl with | [_, _], _ => rfl⟩
theorem ok_m_Rig_weight : DOk (nmOf PL) (inC (top 28) 19) d_m_Rig_weight := ⟨⟨rfl, rfl, rfl, by decide +kernel, rfl, by decide +kernel, by decide +kernel⟩, by decide +kernel, by decide +kernel, rfl, fun _ _ _ _ _ _ us hl => match us, hl with | [_, _], _ => rfl⟩
theorem ok_q_row : DOk (nmOf PL) (top 30) d_q_row := ⟨⟨rfl, rfl, rfl, by decide +kernel, rfl, by decide +kernel, by decide +kernel⟩, by decide +kernel, by decide +kernel, rfl, fun _ _ _ _ _ _ us hl => match us, hl with | [_], _ => rfl⟩
theorem ok_q_draw : DOk (nmOf PL) (top 31) d_q_draw := ⟨⟨rfl, rfl, rfl, by decide +kernel, rfl, by decide +kernel, by decide +kernel⟩, by decide +kernel, by decide +kernel, rfl, fun _ _ _ _ _ _ us hl => match us, hl with | [_, _, _], _ => rfl⟩
theorem ok_q_great : DOk (nmOf PL) (top 32) d_q_great := ⟨⟨rfl, rfl, rfl, by decide +kernel, rfl, by decide +kernel, by decide +kernel⟩, by decide +kernel, by decide +kernel, rfl, fun _ _ _ _ _ _ us hl => match us, hl with | [_, _, _], _ => rfl⟩
theorem ok_q_alike : DOk (nmOf PL) (top 33) d_q_alike := ⟨⟨rfl, rfl, rfl, by decide +kernel, rfl, by decide +kernel, by decide +kernel⟩, by decide +kernel, by decide +kernel, rfl, fun _ _ _ _ _ _ us hl => match us, hl with | [_, _], _ => rfl⟩
theorem ok_q_names : DOk (nmOf PL) (top 34) d_q_names := ⟨⟨rfl, rfl, rfl, by decide +kernel, rfl, by decide +kernel, by decide +kernel⟩, by decide +kernel, by decide +kernel, rfl, fun _ _ _ _ _ _ us hl => match us, hl with | [_, _, _], _ => rfl⟩
theorem ok_q_bar : DOk (nmOf PL) (top 35) d_q_bar := ⟨⟨rfl, rfl, rfl, by decide +kernel, rfl, by decide +kernel, by decide +kernel⟩, by decide +kernel, by decide +kernel, rfl, fun _ _ _ _ _ _ us hl => match us, hl with | [_, _, _], _ => rfl⟩
theorem ok_q_piece : DOk (nmOf PL) (top 36) d_q_piece := ⟨⟨rfl, rfl, rfl, by decide +kernel, rfl, by decide +kernel, by decide +kernel⟩, by decide +kernel, by decide +kernel, rfl, fun _ _ _ _ _ _ us hl => match us, hl with | [_, _, _], _ => rfl⟩
theorem ok_q_bay : DOk (nmOf PL) (top 37) d_q_bay := ⟨⟨rfl, rfl, rfl, by decide +kernel, rfl, by decide +kernel, by decide +kernel⟩, by decide +kernel, by decide +kernel, rfl, fun _ _ _ _ _ _ us hl => match us, hl with | [_, _, _], _ => rfl⟩
theorem ok_q_lines : DOk (nmOf PL) (top 38) d_q_lines := ⟨⟨rfl, rfl, rfl, by decide +kernel, rfl, by decide +kernel, by decide +kernel⟩, by decide +kernel, by decide +kernel, rfl, fun _ _ _ _ _ _ us hl => match us, hl with | [_, _], _ => rfl⟩
theorem ok_q_rig : DOk (nmOf PL) (top 40) d_q_rig := ⟨⟨rfl, rfl, rfl, by decide +kernel, rfl, by decide +kernel, by decide +kernel⟩, by decide +kernel, by decide +kernel, rfl, fun _ _ _ _ _ _ us hl => match us, hl with | [_], _ => rfl⟩
theorem ok_q_some : DOk (nmOf PL) (top 41) d_q_some := ⟨⟨rfl, rfl, rfl, by decide +kernel, rfl, by decide +kernel, by decide +kernel⟩, by decide +kernel, by decide +kernel, rfl, fun _ _ _ _ _ _ us hl => match us, hl with | [_, _, _], _ => rfl⟩
theorem ok_q_lean : DOk (nmOf PL) (top 42) d_q_lean := ⟨⟨rfl, rfl, rfl, by decide +kernel, rfl, by decide +kernel, by decide +kernel⟩, by decide +kernel, by decide +kernel, rfl, fun _ _ _ _ _ _ us hl => match us, hl with | [_, _, _, _], _ => rfl⟩
theorem ok_q_asked : DOk (nmOf PL) (top 43) d_q_asked := ⟨⟨rfl, rfl, rfl, by decide +kernel, rfl, by decide +kernel, by decide +kernel⟩, by decide +kernel, by decide +kernel, rfl, fun _ _ _ _ _ _ us hl => match us, hl with | [_, _, _], _ => rfl⟩
theorem ok_q_due : DOk (nmOf PL) (top 44) d_q_due := ⟨⟨rfl, rfl, rfl, by decide +kernel, rfl, by decide +kernel, by decide +kernel⟩, by decide +kernel, by decide +kernel, rfl, fun _ _ _ _ _ _ us hl => match us, hl with | [_, _, _], _ => rfl⟩
theorem ok_law : DOk (nmOf PL) (top 45) d_law := ⟨⟨rfl, rfl, rfl, by decide +kernel, rfl, by decide +kernel, by decide +kernel⟩, by decide +kernel, by decide +kernel, rfl, fun _ _ _ _ _ _ us hl => match us, hl with | [_], _ => rfl⟩
instance : MdIs PL 0 [.bor, .bor] := ⟨by unfold PL; rfl⟩
instance : MdOf d_load_of [.bor, .bor] := ⟨rfl⟩
abbrev f_load_of : Nat := 0
theorem en_load_of {n : Nat} {a0 a1 : T} {Q : T → List T → Prop} {E : Xn → List T → Prop} (h : PostS (EndX d_load_of E) (exB (Iof PL n) b_load_of [some a0, some a1, none]) (EndK d_load_of Q .non) (EndK d_load_of Q)) : CIs ((Iof PL (n + 1)).run f_load_of [a0, a1]) Q E := enter (by unfold PL; rfl) rfl rfl h
instance : MdIs PL 1 [.bor, .bor, .bor] := ⟨by unfold PL; rfl⟩
instance : MdOf d_pull_of [.bor, .bor, .bor] := ⟨rfl⟩
abbrev f_pull_of : Nat := 1
theorem en_pull_of {n : Nat} {a0 a1 a2 : T} {Q : T → List T → Prop} {E : Xn → List T → Prop} (h : PostS (EndX d_pull_of E) (exB (Iof PL n) b_pull_of [some a0, some a1, some a2]) (EndK d_pull_of Q .non) (EndK d_pull_of Q)) : CIs ((Iof PL (n + 1)).run f_pull_of [a0, a1, a2]) Q E := enter (by unfold PL; rfl) rfl rfl h
instance : MdIs PL 2 [.bor, .bor, .bor] := ⟨by unfold PL; rfl⟩
instance : MdOf d_counts_of [.bor, .bor, .bor] := ⟨rfl⟩
abbrev f_counts_of : Nat := 2
theorem en_counts_of {n : Nat} {a0 a1 a2 : T} {Q : T → List T → Prop} {E : Xn → List T → Prop} (h : PostS (EndX d_counts_of E) (exB (Iof PL n) b_counts_of [some a0, some a1, some a2, none, none, none, none, none, none]) (EndK d_counts_of Q .non) (EndK d_counts_of Q)) : CIs ((Iof PL (n + 1)).run f_counts_of [a0, a1, a2]) Q E := enter (by unfold PL; rfl) rfl rfl h
instance : MdIs PL 3 [.bor] := ⟨by unfold PL; rfl⟩
instance : MdOf d_is_name [.bor] := ⟨rfl⟩
abbrev f_is_name : Nat := 3
theorem en_is_name {n : Nat} {a0 : T} {Q : T → List T → Prop} {E : Xn → List T → Prop} (h : PostS (EndX d_is_name E) (exB (Iof PL n) b_is_name [some a0, none]) (EndK d_is_name Q .non) (EndK d_is_name Q)) : CIs ((Iof PL (n + 1)).run f_is_name [a0]) Q E := enter (by unfold PL; rfl) rfl rfl h
instance : MdIs PL 4 [.bor] := ⟨by unfold PL; rfl⟩
instance : MdOf d_number_of [.bor] := ⟨rfl⟩
abbrev f_number_of : Nat := 4
theorem en_number_of {n : Nat} {a0 : T} {Q : T → List T → Prop} {E : Xn → List T → Prop} (h : PostS (EndX d_number_of E) (exB (Iof PL n) b_number_of [some a0, none]) (EndK d_number_of Q .non) (EndK d_number_of Q)) : CIs ((Iof PL (n + 1)).run f_number_of [a0]) Q E := enter (by unfold PL; rfl) rfl rfl h
instance : MdIs PL 5 [.bor, .bor] := ⟨by unfold PL; rfl⟩
instance : MdOf d_numbers_in [.bor, .bor] := ⟨rfl⟩
abbrev f_numbers_in : Nat := 5
theorem en_numbers_in {n : Nat} {a0 a1 : T} {Q : T → List T → Prop} {E : Xn → List T → Prop} (h : PostS (EndX d_numbers_in E) (exB (Iof PL n) b_numbers_in [some a0, some a1, none, none, none]) (EndK d_numbers_in Q .non) (EndK d_numbers_in Q)) : CIs ((Iof PL (n + 1)).run f_numbers_in [a0, a1]) Q E := enter (by unfold PL; rfl) rfl rfl h
instance : MdIs PL 6 [.io, .bor] := ⟨by unfold PL; rfl⟩
instance : MdOf d_m_Rig_init [.io, .bor] := ⟨rfl⟩
abbrev f_m_Rig_init : Nat := 6
theorem en_m_Rig_init {n : Nat} {a0 a1 : T} {Q : T → List T → Prop} {E : Xn → List T → Prop} (h : PostS (EndX d_m_Rig_init E) (exB (Iof PL n) b_m_Rig_init [some a0, some a1, none, none]) (EndK d_m_Rig_init Q .non) (EndK d_m_Rig_init Q)) : CIs ((Iof PL (n + 1)).run f_m_Rig_init [a0, a1]) Q E := enter (by unfold PL; rfl) rfl rfl h
instance : MdIs PL 7 [.io, .bor] := ⟨by unfold PL; rfl⟩
instance : MdOf d_m_Rig_is_told [.io, .bor] := ⟨rfl⟩
abbrev f_m_Rig_is_told : Nat := 7
theorem en_m_Rig_is_told {n : Nat} {a0 a1 : T} {Q : T → List T → Prop} {E : Xn → List T → Prop} (h : PostS (EndX d_m_Rig_is_told E) (exB (Iof PL n) b_m_Rig_is_told [some a0, some a1]) (EndK d_m_Rig_is_told Q .non) (EndK d_m_Rig_is_told Q)) : CIs ((Iof PL (n + 1)).run f_m_Rig_is_told [a0, a1]) Q E := enter (by unfold PL; rfl) rfl rfl h
instance : MdIs PL 8 [.io, .bor] := ⟨by unfold PL; rfl⟩
instance : MdOf d_m_Rig_is_plate [.io, .bor] := ⟨rfl⟩
abbrev f_m_Rig_is_plate : Nat := 8
theorem en_m_Rig_is_plate {n : Nat} {a0 a1 : T} {Q : T → List T → Prop} {E : Xn → List T → Prop} (h : PostS (EndX d_m_Rig_is_plate E) (exB (Iof PL n) b_m_Rig_is_plate [some a0, some a1, none]) (EndK d_m_Rig_is_plate Q .non) (EndK d_m_Rig_is_plate Q)) : CIs ((Iof PL (n + 1)).run f_m_Rig_is_plate [a0, a1]) Q E := enter (by unfold PL; rfl) rfl rfl h
instance : MdIs PL 9 [.io, .bor, .bor] := ⟨by unfold PL; rfl⟩
instance : MdOf d_m_Rig_is_bar [.io, .bor, .bor] := ⟨rfl⟩
abbrev f_m_Rig_is_bar : Nat := 9
theorem en_m_Rig_is_bar {n : Nat} {a0 a1 a2 : T} {Q : T → List T → Prop} {E : Xn → List T → Prop} (h : PostS (EndX d_m_Rig_is_bar E) (exB (Iof PL n) b_m_Rig_is_bar [some a0, some a1, some a2, none, none]) (EndK d_m_Rig_is_bar Q .non) (EndK d_m_Rig_is_bar Q)) : CIs ((Iof PL (n + 1)).run f_m_Rig_is_bar [a0, a1, a2]) Q E := enter (by unfold PL; rfl) rfl rfl h
instance : MdIs PL 10 [.io, .bor, .bor] := ⟨by unfold PL; rfl⟩
instance : MdOf d_m_Rig_is_piece [.io, .bor, .bor] := ⟨rfl⟩
abbrev f_m_Rig_is_piece : Nat := 10
theorem en_m_Rig_is_piece {n : Nat} {a0 a1 a2 : T} {Q : T → List T → Prop} {E : Xn → List T → Prop} (h : PostS (EndX d_m_Rig_is_piece E) (exB (Iof PL n) b_m_Rig_is_piece [some a0, some a1, some a2, none]) (EndK d_m_Rig_is_piece Q .non) (EndK d_m_Rig_is_piece Q)) : CIs ((Iof PL (n + 1)).run f_m_Rig_is_piece [a0, a1, a2]) Q E := enter (by unfold PL; rfl) rfl rfl h
instance : MdIs PL 11 [.io, .bor, .bor] := ⟨by unfold PL; rfl⟩
instance : MdOf d_m_Rig_is_bay [.io, .bor, .bor] := ⟨rfl⟩
abbrev f_m_Rig_is_bay : Nat := 11
theorem en_m_Rig_is_bay {n : Nat} {a0 a1 a2 : T} {Q : T → List T → Prop} {E : Xn → List T → Prop} (h : PostS (EndX d_m_Rig_is_bay E) (exB (Iof PL n) b_m_Rig_is_bay [some a0, some a1, some a2, none, none]) (EndK d_m_Rig_is_bay Q .non) (EndK d_m_Rig_is_bay Q)) : CIs ((Iof PL (n + 1)).run f_m_Rig_is_bay [a0, a1, a2]) Q E := enter (by unfold PL; rfl) rfl rfl h
instance : MdIs PL 12 [.bor] := ⟨by unfold PL; rfl⟩
instance : MdOf d_m_Rig_plate [.bor] := ⟨rfl⟩
abbrev f_m_Rig_plate : Nat := 12
theorem en_m_Rig_plate {n : Nat} {a0 : T} {Q : T → List T → Prop} {E : Xn → List T → Prop} (h : PostS (EndX d_m_Rig_plate E) (exB (Iof PL n) b_m_Rig_plate [some a0]) (EndK d_m_Rig_plate Q .non) (EndK d_m_Rig_plate Q)) : CIs ((Iof PL (n + 1)).run f_m_Rig_plate [a0]) Q E := enter (by unfold PL; rfl) rfl rfl h
instance : MdIs PL 13 [.bor] := ⟨by unfold PL; rfl⟩
instance : MdOf d_m_Rig_bars [.bor] := ⟨rfl⟩
abbrev f_m_Rig_bars : Nat := 13
theorem en_m_Rig_bars {n : Nat} {a0 : T} {Q : T → List T → Prop} {E : Xn → List T → Prop} (h : PostS (EndX d_m_Rig_bars E) (exB (Iof PL n) b_m_Rig_bars [some a0]) (EndK d_m_Rig_bars Q .non) (EndK d_m_Rig_bars Q)) : CIs ((Iof PL (n + 1)).run f_m_Rig_bars [a0]) Q E := enter (by unfold PL; rfl) rfl rfl h
instance : MdIs PL 14 [.bor] := ⟨by unfold PL; rfl⟩
instance : MdOf d_m_Rig_pieces [.bor] := ⟨rfl⟩
abbrev f_m_Rig_pieces : Nat := 14
theorem en_m_Rig_pieces {n : Nat} {a0 : T} {Q : T → List T → Prop} {E : Xn → List T → Prop} (h : PostS (EndX d_m_Rig_pieces E) (exB (Iof PL n) b_m_Rig_pieces [some a0]) (EndK d_m_Rig_pieces Q .non) (EndK d_m_Rig_pieces Q)) : CIs ((Iof PL (n + 1)).run f_m_Rig_pieces [a0]) Q E := enter (by unfold PL; rfl) rfl rfl h
instance : MdIs PL 15 [.bor] := ⟨by unfold PL; rfl⟩
instance : MdOf d_m_Rig_bays [.bor] := ⟨rfl⟩
abbrev f_m_Rig_bays : Nat := 15
theorem en_m_Rig_bays {n : Nat} {a0 : T} {Q : T → List T → Prop} {E : Xn → List T → Prop} (h : PostS (EndX d_m_Rig_bays E) (exB (Iof PL n) b_m_Rig_bays [some a0]) (EndK d_m_Rig_bays Q .non) (EndK d_m_Rig_bays Q)) : CIs ((Iof PL (n + 1)).run f_m_Rig_bays [a0]) Q E := enter (by unfold PL; rfl) rfl rfl h
instance : MdIs PL 16 [.bor, .bor] := ⟨by unfold PL; rfl⟩
instance : MdOf d_m_Rig_bay [.bor, .bor] := ⟨rfl⟩
abbrev f_m_Rig_bay : Nat := 16
theorem en_m_Rig_bay {n : Nat} {a0 a1 : T} {Q : T → List T → Prop} {E : Xn → List T → Prop} (h : PostS (EndX d_m_Rig_bay E) (exB (Iof PL n) b_m_Rig_bay [some a0, some a1]) (EndK d_m_Rig_bay Q .non) (EndK d_m_Rig_bay Q)) : CIs ((Iof PL (n + 1)).run f_m_Rig_bay [a0, a1]) Q E := enter (by unfold PL; rfl) rfl rfl h
instance : MdIs PL 17 [.bor, .bor, .bor] := ⟨by unfold PL; rfl⟩
instance : MdOf d_m_Rig_of_bar [.bor, .bor, .bor] := ⟨rfl⟩
abbrev f_m_Rig_of_bar : Nat := 17
theorem en_m_Rig_of_bar {n : Nat} {a0 a1 a2 : T} {Q : T → List T → Prop} {E : Xn → List T → Prop} (h : PostS (EndX d_m_Rig_of_bar E) (exB (Iof PL n) b_m_Rig_of_bar [some a0, some a1, some a2]) (EndK d_m_Rig_of_bar Q .non) (EndK d_m_Rig_of_bar Q)) : CIs ((Iof PL (n + 1)).run f_m_Rig_of_bar [a0, a1, a2]) Q E := enter (by unfold PL; rfl) rfl rfl h
instance : MdIs PL 18 [.bor, .bor, .bor] := ⟨by unfold PL; rfl⟩
instance : MdOf d_m_Rig_of_piece [.bor, .bor, .bor] := ⟨rfl⟩
abbrev f_m_Rig_of_piece : Nat := 18
theorem en_m_Rig_of_piece {n : Nat} {a0 a1 a2 : T} {Q : T → List T → Prop} {E : Xn → List T → Prop} (h : PostS (EndX d_m_Rig_of_piece E) (exB (Iof PL n) b_m_Rig_of_piece [some a0, some a1, some a2]) (EndK d_m_Rig_of_piece Q .non) (EndK d_m_Rig_of_piece Q)) : CIs ((Iof PL (n + 1)).run f_m_Rig_of_piece [a0, a1, a2]) Q E := enter (by unfold PL; rfl) rfl rfl h
instance : MdIs PL 19 [.bor, .bor] := ⟨by unfold PL; rfl⟩
instance : MdOf d_m_Rig_at [.bor, .bor] := ⟨rfl⟩
abbrev f_m_Rig_at : Nat := 19
theorem en_m_Rig_at {n : Nat} {a0 a1 : T} {Q : T → List T → Prop} {E : Xn → List T → Prop} (h : PostS (EndX d_m_Rig_at E) (exB (Iof PL n) b_m_Rig_at [some a0, some a1]) (EndK d_m_Rig_at Q .non) (EndK d_m_Rig_at Q)) : CIs ((Iof PL (n + 1)).run f_m_Rig_at [a0, a1]) Q E := enter (by unfold PL; rfl) rfl rfl h
instance : MdIs PL 20 [.bor, .bor] := ⟨by unfold PL; rfl⟩
instance : MdOf d_m_Rig_room [.bor, .bor] := ⟨rfl⟩
abbrev f_m_Rig_room : Nat := 20
theorem en_m_Rig_room {n : Nat} {a0 a1 : T} {Q : T → List T → Prop} {E : Xn → List T → Prop} (h : PostS (EndX d_m_Rig_room E) (exB (Iof PL n) b_m_Rig_room [some a0, some a1]) (EndK d_m_Rig_room Q .non) (EndK d_m_Rig_room Q)) : CIs ((Iof PL (n + 1)).run f_m_Rig_room [a0, a1]) Q E := enter (by unfold PL; rfl) rfl rfl h
instance : MdIs PL 21 [.bor, .bor] := ⟨by unfold PL; rfl⟩
instance : MdOf d_m_Rig_pull [.bor, .bor] := ⟨rfl⟩
abbrev f_m_Rig_pull : Nat := 21
theorem en_m_Rig_pull {n : Nat} {a0 a1 : T} {Q : T → List T → Prop} {E : Xn → List T → Prop} (h : PostS (EndX d_m_Rig_pull E) (exB (Iof PL n) b_m_Rig_pull [some a0, some a1]) (EndK d_m_Rig_pull Q .non) (EndK d_m_Rig_pull Q)) : CIs ((Iof PL (n + 1)).run f_m_Rig_pull [a0, a1]) Q E := enter (by unfold PL; rfl) rfl rfl h
instance : MdIs PL 22 [.bor, .bor] := ⟨by unfold PL; rfl⟩
instance : MdOf d_m_Rig_slack [.bor, .bor] := ⟨rfl⟩
abbrev f_m_Rig_slack : Nat := 22
theorem en_m_Rig_slack {n : Nat} {a0 a1 : T} {Q : T → List T → Prop} {E : Xn → List T → Prop} (h : PostS (EndX d_m_Rig_slack E) (exB (Iof PL n) b_m_Rig_slack [some a0, some a1]) (EndK d_m_Rig_slack Q .non) (EndK d_m_Rig_slack Q)) : CIs ((Iof PL (n + 1)).run f_m_Rig_slack [a0, a1]) Q E := enter (by unfold PL; rfl) rfl rfl h
instance : MdIs PL 23 [.bor, .bor] := ⟨by unfold PL; rfl⟩
instance : MdOf d_m_Rig_hold [.bor, .bor] := ⟨rfl⟩
abbrev f_m_Rig_hold : Nat := 23
theorem en_m_Rig_hold {n : Nat} {a0 a1 : T} {Q : T → List T → Prop} {E : Xn → List T → Prop} (h : PostS (EndX d_m_Rig_hold E) (exB (Iof PL n) b_m_Rig_hold [some a0, some a1]) (EndK d_m_Rig_hold Q .non) (EndK d_m_Rig_hold Q)) : CIs ((Iof PL (n + 1)).run f_m_Rig_hold [a0, a1]) Q E := enter (by unfold PL; rfl) rfl rfl h
instance : MdIs PL 24 [.bor, .bor] := ⟨by unfold PL; rfl⟩
instance : MdOf d_m_Rig_weight [.bor, .bor] := ⟨rfl⟩
abbrev f_m_Rig_weight : Nat := 24
theorem en_m_Rig_weight {n : Nat} {a0 a1 : T} {Q : T → List T → Prop} {E : Xn → List T → Prop} (h : PostS (EndX d_m_Rig_weight E) (exB (Iof PL n) b_m_Rig_weight [some a0, some a1]) (EndK d_m_Rig_weight Q .non) (EndK d_m_Rig_weight Q)) : CIs ((Iof PL (n + 1)).run f_m_Rig_weight [a0, a1]) Q E := enter (by unfold PL; rfl) rfl rfl h
instance : MdIs PL 25 [.bor] := ⟨by unfold PL; rfl⟩
instance : MdOf d_q_row [.bor] := ⟨rfl⟩
abbrev f_q_row : Nat := 25
theorem en_q_row {n : Nat} {a0 : T} {Q : T → List T → Prop} {E : Xn → List T → Prop} (h : PostS (EndX d_q_row E) (exB (Iof PL n) b_q_row [some a0, none, none, none, none, none]) (EndK d_q_row Q .non) (EndK d_q_row Q)) : CIs ((Iof PL (n + 1)).run f_q_row [a0]) Q E := enter (by unfold PL; rfl) rfl rfl h
instance : MdIs PL 26 [.bor, .bor, .bor] := ⟨by unfold PL; rfl⟩
instance : MdOf d_q_draw [.bor, .bor, .bor] := ⟨rfl⟩
abbrev f_q_draw : Nat := 26
theorem en_q_draw {n : Nat} {a0 a1 a2 : T} {Q : T → List T → Prop} {E : Xn → List T → Prop} (h : PostS (EndX d_q_draw E) (exB (Iof PL n) b_q_draw [some a0, some a1, some a2, none]) (EndK d_q_draw Q .non) (EndK d_q_draw Q)) : CIs ((Iof PL (n + 1)).run f_q_draw [a0, a1, a2]) Q E := enter (by unfold PL; rfl) rfl rfl h
instance : MdIs PL 27 [.bor, .bor, .bor] := ⟨by unfold PL; rfl⟩
instance : MdOf d_q_great [.bor, .bor, .bor] := ⟨rfl⟩
abbrev f_q_great : Nat := 27
theorem en_q_great {n : Nat} {a0 a1 a2 : T} {Q : T → List T → Prop} {E : Xn → List T → Prop} (h : PostS (EndX d_q_great E) (exB (Iof PL n) b_q_great [some a0, some a1, some a2, none, none]) (EndK d_q_great Q .non) (EndK d_q_great Q)) : CIs ((Iof PL (n + 1)).run f_q_great [a0, a1, a2]) Q E := enter (by unfold PL; rfl) rfl rfl h
instance : MdIs PL 28 [.bor, .bor] := ⟨by unfold PL; rfl⟩
instance : MdOf d_q_alike [.bor, .bor] := ⟨rfl⟩
abbrev f_q_alike : Nat := 28
theorem en_q_alike {n : Nat} {a0 a1 : T} {Q : T → List T → Prop} {E : Xn → List T → Prop} (h : PostS (EndX d_q_alike E) (exB (Iof PL n) b_q_alike [some a0, some a1, none]) (EndK d_q_alike Q .non) (EndK d_q_alike Q)) : CIs ((Iof PL (n + 1)).run f_q_alike [a0, a1]) Q E := enter (by unfold PL; rfl) rfl rfl h
instance : MdIs PL 29 [.bor, .bor, .bor] := ⟨by unfold PL; rfl⟩
instance : MdOf d_q_names [.bor, .bor, .bor] := ⟨rfl⟩
abbrev f_q_names : Nat := 29
theorem en_q_names {n : Nat} {a0 a1 a2 : T} {Q : T → List T → Prop} {E : Xn → List T → Prop} (h : PostS (EndX d_q_names E) (exB (Iof PL n) b_q_names [some a0, some a1, some a2, none, none, none, none, none, none, none, none, none]) (EndK d_q_names Q .non) (EndK d_q_names Q)) : CIs ((Iof PL (n + 1)).run f_q_names [a0, a1, a2]) Q E := enter (by unfold PL; rfl) rfl rfl h
instance : MdIs PL 30 [.bor, .bor, .bor] := ⟨by unfold PL; rfl⟩
instance : MdOf d_q_bar [.bor, .bor, .bor] := ⟨rfl⟩
abbrev f_q_bar : Nat := 30
theorem en_q_bar {n : Nat} {a0 a1 a2 : T} {Q : T → List T → Prop} {E : Xn → List T → Prop} (h : PostS (EndX d_q_bar E) (exB (Iof PL n) b_q_bar [some a0, some a1, some a2, none, none, none, none, none]) (EndK d_q_bar Q .non) (EndK d_q_bar Q)) : CIs ((Iof PL (n + 1)).run f_q_bar [a0, a1, a2]) Q E := enter (by unfold PL; rfl) rfl rfl h
instance : MdIs PL 31 [.bor, .bor, .bor] := ⟨by unfold PL; rfl⟩
instance : MdOf d_q_piece [.bor, .bor, .bor] := ⟨rfl⟩
abbrev f_q_piece : Nat := 31
theorem en_q_piece {n : Nat} {a0 a1 a2 : T} {Q : T → List T → Prop} {E : Xn → List T → Prop} (h : PostS (EndX d_q_piece E) (exB (Iof PL n) b_q_piece [some a0, some a1, some a2, none, none]) (EndK d_q_piece Q .non) (EndK d_q_piece Q)) : CIs ((Iof PL (n + 1)).run f_q_piece [a0, a1, a2]) Q E := enter (by unfold PL; rfl) rfl rfl h
instance : MdIs PL 32 [.bor, .bor, .bor] := ⟨by unfold PL; rfl⟩
instance : MdOf d_q_bay [.bor, .bor, .bor] := ⟨rfl⟩
abbrev f_q_bay : Nat := 32
theorem en_q_bay {n : Nat} {a0 a1 a2 : T} {Q : T → List T → Prop} {E : Xn → List T → Prop} (h : PostS (EndX d_q_bay E) (exB (Iof PL n) b_q_bay [some a0, some a1, some a2, none, none, none, none]) (EndK d_q_bay Q .non) (EndK d_q_bay Q)) : CIs ((Iof PL (n + 1)).run f_q_bay [a0, a1, a2]) Q E := enter (by unfold PL; rfl) rfl rfl h
instance : MdIs PL 33 [.bor, .bor] := ⟨by unfold PL; rfl⟩
instance : MdOf d_q_lines [.bor, .bor] := ⟨rfl⟩
abbrev f_q_lines : Nat := 33
theorem en_q_lines {n : Nat} {a0 a1 : T} {Q : T → List T → Prop} {E : Xn → List T → Prop} (h : PostS (EndX d_q_lines E) (exB (Iof PL n) b_q_lines [some a0, some a1, none, none, none, none, none, none, none, none, none]) (EndK d_q_lines Q .non) (EndK d_q_lines Q)) : CIs ((Iof PL (n + 1)).run f_q_lines [a0, a1]) Q E := enter (by unfold PL; rfl) rfl rfl h
instance : MdIs PL 34 [.bor] := ⟨by unfold PL; rfl⟩
instance : MdOf d_q_rig [.bor] := ⟨rfl⟩
abbrev f_q_rig : Nat := 34
theorem en_q_rig {n : Nat} {a0 : T} {Q : T → List T → Prop} {E : Xn → List T → Prop} (h : PostS (EndX d_q_rig E) (exB (Iof PL n) b_q_rig [some a0, none, none, none, none, none, none, none, none]) (EndK d_q_rig Q .non) (EndK d_q_rig Q)) : CIs ((Iof PL (n + 1)).run f_q_rig [a0]) Q E := enter (by unfold PL; rfl) rfl rfl h
instance : MdIs PL 35 [.bor, .bor, .bor] := ⟨by unfold PL; rfl⟩
instance : MdOf d_q_some [.bor, .bor, .bor] := ⟨rfl⟩
abbrev f_q_some : Nat := 35
theorem en_q_some {n : Nat} {a0 a1 a2 : T} {Q : T → List T → Prop} {E : Xn → List T → Prop} (h : PostS (EndX d_q_some E) (exB (Iof PL n) b_q_some [some a0, some a1, some a2, none, none, none]) (EndK d_q_some Q .non) (EndK d_q_some Q)) : CIs ((Iof PL (n + 1)).run f_q_some [a0, a1, a2]) Q E := enter (by unfold PL; rfl) rfl rfl h
instance : MdIs PL 36 [.bor, .bor, .bor, .bor] := ⟨by unfold PL; rfl⟩
instance : MdOf d_q_lean [.bor, .bor, .bor, .bor] := ⟨rfl⟩
abbrev f_q_lean : Nat := 36
theorem en_q_lean {n : Nat} {a0 a1 a2 a3 : T} {Q : T → List T → Prop} {E : Xn → List T → Prop} (h : PostS (EndX d_q_lean E) (exB (Iof PL n) b_q_lean [some a0, some a1, some a2, some a3, none, none]) (EndK d_q_lean Q .non) (EndK d_q_lean Q)) : CIs ((Iof PL (n + 1)).run f_q_lean [a0, a1, a2, a3]) Q E := enter (by unfold PL; rfl) rfl rfl h
instance : MdIs PL 37 [.bor, .bor, .bor] := ⟨by unfold PL; rfl⟩
instance : MdOf d_q_asked [.bor, .bor, .bor] := ⟨rfl⟩
abbrev f_q_asked : Nat := 37
theorem en_q_asked {n : Nat} {a0 a1 a2 : T} {Q : T → List T → Prop} {E : Xn → List T → Prop} (h : PostS (EndX d_q_asked E) (exB (Iof PL n) b_q_asked [some a0, some a1, some a2, none, none, none]) (EndK d_q_asked Q .non) (EndK d_q_asked Q)) : CIs ((Iof PL (n + 1)).run f_q_asked [a0, a1, a2]) Q E := enter (by unfold PL; rfl) rfl rfl h
instance : MdIs PL 38 [.bor, .bor, .bor] := ⟨by unfold PL; rfl⟩
instance : MdOf d_q_due [.bor, .bor, .bor] := ⟨rfl⟩
abbrev f_q_due : Nat := 38
theorem en_q_due {n : Nat} {a0 a1 a2 : T} {Q : T → List T → Prop} {E : Xn → List T → Prop} (h : PostS (EndX d_q_due E) (exB (Iof PL n) b_q_due [some a0, some a1, some a2, none, none, none, none, none, none]) (EndK d_q_due Q .non) (EndK d_q_due Q)) : CIs ((Iof PL (n + 1)).run f_q_due [a0, a1, a2]) Q E := enter (by unfold PL; rfl) rfl rfl h
instance : MdIs PL 39 [.bor] := ⟨by unfold PL; rfl⟩
instance : MdOf d_law [.bor] := ⟨rfl⟩
abbrev f_law : Nat := 39
theorem en_law {n : Nat} {a0 : T} {Q : T → List T → Prop} {E : Xn → List T → Prop} (h : PostS (EndX d_law E) (exB (Iof PL n) b_law [some a0, none, none, none, none, none, none, none, none, none]) (EndK d_law Q .non) (EndK d_law Q)) : CIs ((Iof PL (n + 1)).run f_law [a0]) Q E := enter (by unfold PL; rfl) rfl rfl h

/-- steps -/
local macro_rules
| `(tactic| fail) => `(tactic| first
  | ((with_reducible show PostS _ _ _ _); first
    | with_reducible refine s_cons (s := .setf _ _) ?_
    | with_reducible refine s_cons (s := .setv _ _) ?_
    | with_reducible refine s_cons (s := .mut _ _ _) ?_
    | with_reducible refine s_cons (s := .ret _) ?_
    | with_reducible refine s_cons (s := .ite _ _ _) (r := .nil) ?_
    | with_reducible refine s_cons (s := .ite _ (.cons (.ret _) .nil) .nil) ?_
    | with_reducible refine s_cons (s := .ite _ (.cons .bad .nil) .nil) ?_
    | with_reducible refine s_cons (s := .ite _ (.cons (.rais _ _ _) .nil) .nil) ?_
    | with_reducible refine s_cons (s := .ite _ (.cons .retN .nil) .nil) ?_
    | with_reducible refine s_cons (s := .forr _ _ _) ?_
    | with_reducible refine s_cons (s := .seti _ _ _) ?_
    | with_reducible refine s_cons (s := .expr _) ?_
    | with_reducible refine s_cons (s := .retN) ?_
    | with_reducible refine s_nil ?_
    | with_reducible refine s_setf ?_
    | with_reducible refine s_setv ?_
    | with_reducible refine s_ite ?_
    | with_reducible refine s_ret ?_
    | with_reducible refine s_retN ?_
    | ((with_reducible show PostS _ (exS _ (.mut _ _ _) _) _ _); (with_reducible refine' q_mut ?a ?h); (case a => exact rfl))
    | with_reducible refine s_for ?_
    | with_reducible refine s_expr ?_
    | with_reducible refine s_seti ?_
    | with_reducible refine s_cons (s := .setp _ _ _ _) ?_
    | with_reducible refine s_cons (s := .seta _ _ _ _ _) ?_
    | with_reducible refine s_cons (s := .mutp _ _ _ _) ?_
    | with_reducible refine s_cons (s := .unp _ _) ?_
    | with_reducible refine s_cons (s := .pass) ?_
    | with_reducible refine s_pass ?_
    | with_reducible refine s_cons (s := .rais _ _ _) ?_
    | with_reducible refine s_rais ?_
    | with_reducible refine s_cons (s := .tryx _ _ _ _) (r := .nil) ?_
    | with_reducible refine s_try ?_
    | with_reducible refine s_unp ?_
    | with_reducible refine q_setp ?_
    | with_reducible refine q_seta ?_
    | with_reducible refine q_mutp ?_)
  | ((with_reducible show Post _ _ _); first
    | with_reducible refine p_int ?_
    | ((with_reducible show Post _ (evE _ (.var _) _) _); (with_reducible refine' q_var ?a ?b ?h); (case a => exact rfl); (case b => infer_instance))
    | with_reducible refine p_bop ?_
    | with_reducible refine p_cmp ?_
    | with_reducible refine p_lcons ?_
    | with_reducible refine p_lnil ?_
    | with_reducible refine p_blt ?_
    | with_reducible refine p_idx ?_
    | with_reducible refine p_lst ?_
    | with_reducible refine p_tup ?_
    | with_reducible refine p_an ?_
    | with_reducible refine p_orr ?_
    | with_reducible refine p_ite ?_
    | with_reducible refine p_nt ?_
    | with_reducible refine p_neg ?_
    | with_reducible refine p_bl ?_
    | with_reducible refine p_non ?_
    | with_reducible refine p_str ?_
    | ((with_reducible show Post _ (evE _ (.mov _) _) _); (with_reducible refine' q_mov ?a ?b ?h); (case a => exact rfl); (case b => (dsimp only [List.set] <;> exact rfl)))
    | with_reducible refine i_rng1 ?_
    | with_reducible refine i_rng2 ?_
    | with_reducible refine i_seq ?_
    | with_reducible refine i_enu ?_
    | with_reducible refine i_zip ?_
    | ((with_reducible show Post _ (evE _ (.call _ _) _) _); (with_reducible refine' q_call0 ?a ?b ?h); (case a => infer_instance); (case b => exact rfl))
    | ((with_reducible show Post _ (evE _ (.call _ _) _) _); (with_reducible refine' q_call ?a ?h); (case a => infer_instance))
    | with_reducible refine p_abor ?_
    | with_reducible refine p_afrz ?_
    | ((with_reducible show Post _ (evA _ (.io :: _) _ _) _); (with_reducible refine' p_aio ?a ?h); (case a => exact rfl))
    | with_reducible refine p_anil ?_
    | with_reducible refine p_comp ?_
    | with_reducible refine p_cno ?_
    | with_reducible refine p_cso ?_
    | with_reducible refine p_isi ?_
    | with_reducible refine p_slc ?_
    | with_reducible refine p_no ?_
    | with_reducible refine p_so ?_
    | with_reducible refine p_cmp2 ?_
    | with_reducible refine p_isiN ?_
    | with_reducible refine p_mxd ?_
    | with_reducible refine p_smt ?_
    | ((with_reducible show Post _ (evE _ (.gv _) _) _); (with_reducible refine' q_gv ?a ?h); (case a => infer_instance))
    | ((with_reducible refine' q_isxT ?a ?b ?h); (case a => exact rfl); (case b => exact rfl))
    | ((with_reducible refine' q_isxF ?a ?b ?h); (case a => exact rfl); (case b => exact rfl))
    | ((with_reducible show Post _ (evE _ (.isx _ _) _) _); (with_reducible refine' q_isx ?a ?b ?h); (case a => exact rfl); (case b => exact rfl))
    | ((with_reducible show Post _ (evE _ (.xfl _ _) _) _); (with_reducible refine' q_xfl ?a ?k ?b ?c ?h); (case a => exact rfl); (case k => infer_instance); (case b => exact rfl); (case c => exact rfl))
    | with_reducible refine p_fld ?_
    | with_reducible refine p_lmt ?_
    | with_reducible refine q_dct ?_
    | ((with_reducible show Post _ (evE _ (.meth _ _ (.var _) _) _) _); (with_reducible refine' q_methio ?a ?b ?h); (case a => infer_instance); (case b => exact rfl))
    | ((with_reducible show Post _ (evE _ (.meth _ _ _ _) _) _); (with_reducible refine' q_meth ?a ?h); (case a => infer_instance))
    | ((with_reducible show Post _ (evE _ (.new _ _ _) _) _); (with_reducible refine' q_new ?a ?h); (case a => infer_instance))
    | ((with_reducible show Post _ (evIT _ (.keys _ _) _) _); (with_reducible refine' q_keys ?a ?b ?c ?d ?h); (case a => exact rfl); (case b => exact rfl); (case c => exact rfl); (case d => exact rfl))
    | ((with_reducible show Post _ (evIT _ (.enuK _ _) _) _); (with_reducible refine' q_enuK ?a ?b ?c ?d ?h); (case a => exact rfl); (case b => exact rfl); (case c => exact rfl); (case d => exact rfl)))
  | ((with_reducible show Gd _ _ _); first
    | ((with_reducible refine q_gl ?_ ?_); infer_instance)
    | ((with_reducible refine' q_gpE ?a ?h); (case a => infer_instance))
    | ((with_reducible refine' q_gpL ?a ?h); (case a => infer_instance))
    | ((with_reducible refine' q_gpO ?a ?b ?h); (case a => infer_instance); (case b => infer_instance))
    | ((with_reducible refine gk_r ?_ ?_); exact rfl))
  | ((with_reducible show OpK _ _); first
    | with_reducible refine o_add ?_
    | with_reducible refine o_sub ?_
    | with_reducible refine o_mul ?_ ?_
    | with_reducible refine o_mod ?_ ?_
    | with_reducible refine o_div ?_ ?_
    | with_reducible refine o_pow ?_ ?_
    | with_reducible refine x_hd ?_
    | ((with_reducible show OpK (idxT _ _) _); (with_reducible refine' x_rfl ?a ?h); (case a => exact rfl))
    | with_reducible refine k_lenm ?_
    | with_reducible refine k_lenl ?_
    | with_reducible refine k_lent ?_
    | with_reducible refine k_lensc ?_
    | with_reducible refine k_abs ?_
    | with_reducible refine k_max2 ?_
    | with_reducible refine k_min2 ?_
    | with_reducible refine k_all ?_
    | with_reducible refine k_sum ?_
    | with_reducible refine k_list ?_
    | with_reducible refine k_listt ?_
    | with_reducible refine k_inti ?_
    | with_reducible refine k_intb ?_
    | with_reducible refine o_app1 ?_ ?_
    | with_reducible refine o_appi ?_ ?_
    | with_reducible refine o_rep1 ?_ ?_
    | with_reducible refine q_seti ?_ ?_ ?_
    | ((with_reducible show OpK (slcT (.scr _) _ _) _); (with_reducible refine' l_scr' ?a ?b ?h); (case a => exact rfl); (case b => exact rfl))
    | ((with_reducible show OpK (slcT (.lst _ _) _ _) _); (with_reducible refine' l_map' ?a ?b ?h); (case a => exact rfl); (case b => exact rfl))
    | with_reducible refine k_mxdi ?_
    | with_reducible refine k_max3 ?_
    | with_reducible refine k_strI ?_ ?_
    | with_reducible refine k_strS ?_
    | with_reducible refine k_tupl ?_
    | with_reducible refine k_lens ?_ ?_
    | with_reducible refine o_cat ?_ ?_
    | with_reducible refine o_repS ?_ ?_
    | ((with_reducible show OpK (slcT (.str _) _ _) _); (with_reducible refine' l_str ?a ?b ?c ?h); (case a => exact rfl); (case b => exact rfl))
    | with_reducible refine k_tupt ?_
    | ((with_reducible show OpK (fldT _ _ _) _); (with_reducible refine' o_fld ?a ?h); (case a => exact rfl))
    | ((with_reducible show OpK (setF _ _ _ _) _); (with_reducible refine' x_setF ?a ?h); (case a => exact rfl))
    | with_reducible refine x_mutL ?_
    | with_reducible refine k_lenE ?_
    | with_reducible refine k_listD ?_)
  | ((with_reducible show OpB _ _); first
    | with_reducible refine c_eqi ?_
    | with_reducible refine c_lt ?_
    | with_reducible refine c_le ?_
    | with_reducible refine c_gt ?_
    | with_reducible refine c_ge ?_
    | with_reducible refine c_nei ?_
    | with_reducible refine c_eqs ?_
    | with_reducible refine c_eqb ?_
    | with_reducible refine c_neb ?_
    | with_reducible refine c_nes ?_
    | with_reducible refine c_ini ?_
    | with_reducible refine c_nini ?_
    | ((with_reducible refine c_eqq ?_ ?_ ?_ ?_); decide; decide; exact rfl)
    | ((with_reducible refine c_neq ?_ ?_ ?_ ?_); decide; decide; exact rfl)
    | with_reducible refine is_ii ?_
    | with_reducible refine is_ib ?_
    | with_reducible refine is_tt ?_
    | with_reducible refine is_ll ?_
    | with_reducible refine is_lt ?_
    | with_reducible refine is_tl ?_
    | with_reducible refine is_il ?_
    | with_reducible refine is_is ?_
    | with_reducible refine is_it ?_
    | with_reducible refine is_ti ?_
    | with_reducible refine is_bi ?_
    | with_reducible refine is_bb ?_
    | with_reducible refine is_ss ?_
    | with_reducible refine is_ni ?_
    | with_reducible refine is_nl ?_
    | with_reducible refine is_nt ?_
    | with_reducible refine is_ns ?_
    | ((with_reducible show OpB (cmpT .Is _ _) _); (with_reducible refine' c_isx ?a ?h); (case a => exact rfl))
    | ((with_reducible show OpB (cmpT .IsNot _ _) _); (with_reducible refine' c_isnx ?a ?h); (case a => exact rfl))
    | with_reducible refine in_cons ?_
    | with_reducible refine in_nil ?_
    | with_reducible refine c_inS ?_
    | with_reducible refine c_ninS ?_
    | with_reducible refine c_inE ?_
    | with_reducible refine c_ninE ?_
    | with_reducible refine c_inb ?_
    | with_reducible refine c_ninb ?_
    | ((with_reducible show OpB (isiT _ _) _); (with_reducible refine' is_rfl ?a ?h); (case a => exact rfl))
    | with_reducible refine c_ind ?_
    | with_reducible refine c_nind ?_)
  | ((with_reducible show FreK _ _); first
    | ((with_reducible refine' q_fre ?a ?h); (case a => infer_instance)))
  | ((with_reducible show PutV _ _ _ _); first
    | ((with_reducible refine' q_put ?a ?b ?c ?h); (case a => infer_instance); (case b => (dsimp only [List.set] <;> exact rfl)); (case c => exact rfl)))
  | ((with_reducible show CondK _ _ _); first
    | with_reducible refine q_dec (fun _ => ?_) (fun _ => ?_)
    | with_reducible refine q_ndec (fun _ => ?_) (fun _ => ?_)
    | with_reducible refine q_true ?_
    | with_reducible refine q_false ?_
    | with_reducible refine q_not ?_
    | with_reducible refine q_and ?_
    | with_reducible refine q_or ?_
    | with_reducible refine condK (fun _ => ?_) (fun _ => ?_))
  | ((with_reducible show VL _ _); first
    | ((with_reducible refine q_vl0 ?_ ?_ ?_); infer_instance; exact rfl)
    | ((with_reducible refine q_vl ?_ ?_ ?_); infer_instance))
  | ((with_reducible show MutK _ _); first
    | with_reducible refine m_appi ?_ ?_
    | with_reducible refine m_app ?_ ?_
    | with_reducible refine m_clear ?_
    | with_reducible refine m_rev ?_
    | with_reducible refine m_pop ?_ ?_
    | ((with_reducible refine' m_insE ?a ?b ?c ?d ?h); (case a => infer_instance)))
  | ((with_reducible show ItK _ _); first
    | with_reducible refine q_itl ?_
    | with_reducible refine q_itt ?_
    | with_reducible refine q_its ?_
    | with_reducible refine q_itS ?_)
  | ((with_reducible show CallG _ _ _); first
    | ((with_reducible refine cg_l ?_ ?_); exact rfl)
    | ((with_reducible refine cg_r ?_ ?_); exact rfl)
    | ((with_reducible refine' q_cgr ?a ?h); (case a => infer_instance)))
  | ((with_reducible show PrepK _ _ _ _ _); first
    | ((with_reducible show PrepK (.bor :: _) _ _ _ _); (with_reducible refine' q_bor ?a ?h); (case a => infer_instance))
    | ((with_reducible refine' q_frz ?a ?b ?h); (case a => infer_instance); (case b => infer_instance))
    | ((with_reducible show PrepK (.io :: _) _ _ _ _); (with_reducible refine' pk_io ?a ?b ?h); (case a => exact rfl); (case b => (dsimp only [List.set] <;> exact rfl)))
    | with_reducible refine pk_nil ?_)
  | ((with_reducible show PutK _ _ _ _ _); first
    | with_reducible refine pu_nil ?_
    | with_reducible refine pu_bor ?_
    | with_reducible refine pu_frz ?_
    | ((with_reducible show PutK (.io :: _) _ _ _ _); (with_reducible refine' q_uio ?a ?b ?c ?h); (case a => infer_instance); (case b => infer_instance); (case c => (dsimp only [List.set] <;> exact rfl))))
  | ((with_reducible show BindK _ _ _ _); first
    | ((with_reducible show BindK [_] _ _ _); (with_reducible refine' q_one ?a ?b ?c ?h); (case a => infer_instance); (case b => (dsimp only [List.set] <;> exact rfl)); (case c => exact rfl))
    | ((with_reducible show BindK (_ :: _ :: _) _ _ _); (with_reducible refine' q_many ?a ?b ?c ?d ?h); (case a => infer_instance); (case b => (dsimp only [List.set, List.zip, List.zipWith, List.foldl] <;> exact rfl)); (case c => exact rfl); (case d => exact rfl)))
  | ((with_reducible show EndK _ _ _ _); first
    | ((with_reducible refine' q_end ?a ?b ?c ?h); (case a => infer_instance); (case b => infer_instance); (case c => exact rfl))
    | ((with_reducible refine' q_endI ?a ?b ?c ?d ?h); (case a => infer_instance); (case b => infer_instance); (case c => infer_instance); (case d => infer_instance)))
  | ((with_reducible show DctK _ _ _); first
    | ((with_reducible refine' q_dctk ?a ?b ?c ?d ?h); (case a => infer_instance); (case b => exact rfl); (case c => decide +kernel); (case d => exact rfl)))
  | ((with_reducible show CallT _ _ _ _ _ _ _ _ _); first
    | ((with_reducible refine' q_callT0 ?a ?b ?h); (case a => infer_instance); (case b => exact rfl))
    | with_reducible refine q_callT ?_)
  | ((with_reducible show NewK _ _ _ _ _ _ _ _ _ _); first
    | ((with_reducible refine' q_newB ?a ?b ?h); (case a => exact rfl); (case b => infer_instance)))
  | ((with_reducible show LendK _ _); first
    | ((with_reducible refine' q_lend ?a ?h); (case a => infer_instance)))
  | ((with_reducible show SetE _ _ _ _); first
    | ((with_reducible refine' q_setE ?a ?h); (case a => (dsimp only [List.set] <;> exact rfl))))
  | ((with_reducible show RaisK _ _ _ _ _); first
    | ((with_reducible refine' q_rais ?a ?b ?c ?h); (case a => infer_instance); (case b => exact rfl); (case c => exact rfl)))
  | ((with_reducible show TryK _ _ _ _ _ _ _ _ _ _); first
    | ((with_reducible refine' q_tryk ?a ?b ?c ?d ?h); (case a => infer_instance); (case b => exact rfl); (case c => (dsimp only [List.set] <;> exact rfl)); (case d => exact Nat.le_of_ble_eq_true rfl))
    | ((with_reducible refine' q_tryn ?a ?b ?h); (case a => infer_instance); (case b => exact rfl)))
  | ((with_reducible show SufN _ _ _); first
    | ((with_reducible refine' q_sufN ?a ?b ?h); (case a => (dsimp only [List.set] <;> exact rfl)); (case b => infer_instance)))
  | ((with_reducible show SufR _ _ _ _); first
    | ((with_reducible refine' q_sufR ?a ?b ?c ?d ?h); (case a => (dsimp only [List.set] <;> exact rfl)); (case b => infer_instance); (case c => infer_instance); (case d => infer_instance)))
  | ((with_reducible show AtP _ _ _ _ _); first
    | ((with_reducible refine' q_at0 ?a ?h); (case a => exact rfl))
    | ((with_reducible refine' q_atF ?a ?b ?h); (case a => exact rfl); (case b => exact rfl))
    | ((with_reducible refine' q_atK ?a ?b ?c ?h); (case a => exact rfl); (case b => exact rfl); (case c => exact rfl)))
  | ((with_reducible refine q_vw ?_ ?_); infer_instance)
  | ((with_reducible refine q_vw2 ?_ ?_ ?_); infer_instance; infer_instance)
  | ((with_reducible refine q_len ?_ ?_); exact rfl)
  | with_reducible refine q_bl ?_
  | with_reducible refine q_int2 ?_
  | with_reducible refine q_int ?_
  | with_reducible refine q_zip ?_
  | with_reducible refine q_lst ?_
  | ((with_reducible refine' q_got ?a ?h); (case a => exact rfl))
  | ((with_reducible refine' q_got0 ?a ?h); (case a => exact rfl))
  | ((with_reducible refine' q_gotT ?a ?h); (case a => exact rfl))
  | ((with_reducible refine' q_isC ?a ?h); (case a => exact rfl))
  | ((with_reducible refine' q_cln ?a ?h); (case a => infer_instance))
  | ((with_reducible show (0 : Int) < _); decide)
  | ((with_reducible show CDivW _ _); exact divB (by decide) (by decide))
  | ((with_reducible show CPow _ _); unfold CPow; decide))

def lowerL : List Nat := ("abcdefghijklmnopqrstuvwxyz" : Str).cps.toList
def digL : List Nat := ("0123456789" : Str).cps.toList
theorem dig_eq : digL = [48, 49, 50, 51, 52, 53, 54, 55, 56, 57] := by decide +kernel
theorem dig_iff (c : Nat) : c ∈ digL ↔ 48 ≤ c ∧ c ≤ 57 := by
  rw [dig_eq]
  simp only [List.mem_cons, List.not_mem_nil, or_false]
  omega
def nameOk (s : Str) : Bool := decide (1 ≤ s.length) && (decide (s.length ≤ 8) && s.cps.toList.all fun c => decide (c ∈ lowerL))
def numBad (s : Str) : Bool := decide (s.length < 1) || (decide (16 < s.length) || (!(s.cps.toList.all fun c => decide (c ∈ digL)) || (decide (s.cps.toList.head? = some 48) && !decide (s = "0"))))
def num? (s : Str) : Option Int := if numBad s = true then none else some (NumText.digitsVal s.cps.toList : Nat)
def oI : Option Int → T | none => .non | some i => .int i
def numT (s : Str) : T := oI (num? s)
theorem len_tl (s : Str) : s.cps.toList.length = s.length := Array.length_toList
theorem all_map {α : Type} (xs : List α) (f : α → Bool) : (((xs.filter fun _ => true).map f).all id) = xs.all f := by
  rw [List.filter_eq_self.mpr (fun _ _ => rfl), List.all_map]; rfl
theorem s_is_name (n : Nat) (s : Str) (hs : s.length ≤ LIM) : CIs ((Iof PL (n + 1)).run f_is_name [.str s]) fun t ios => t = .bl (nameOk s) := by
  refine en_is_name ?_
  unfold b_is_name
  repeat' fail
  · exact hs
  · rename_i h; rw [show nameOk s = false by unfold nameOk; rw [decide_eq_false (by omega)]; rfl]
  · exact hs
  · rename_i h h2; rw [show nameOk s = false by unfold nameOk; rw [decide_eq_true (by omega), decide_eq_false (by omega)]; rfl]
  · rename_i h h2
    refine l_map (env := [some (.str s), none]) eC T.bl s.cps.toList (fun _ => true) (fun c => decide (c ∈ lowerL)) (by rw [len_tl]; exact hs) (fun x _ => ?_) ?_
    · repeat' fail
      refine ⟨rfl, fun _ => ?_, fun h => nomatch h⟩
      repeat' fail
      exact ⟨rfl, rfl, rfl⟩
    · repeat' fail
      rw [all_map, show nameOk s = s.cps.toList.all fun c => decide (c ∈ lowerL) by unfold nameOk; rw [decide_eq_true (by omega), decide_eq_true (by omega)]; rfl]
theorem one_cps {s : Str} {c : Nat} : s.cps.toList = [c] → s = ⟨#[c]⟩ := fun h => by
  cases s with
  | mk a => congr 1; exact Array.toList_inj.mp h
theorem at0 {c : Nat} {r : List Nat} : L2.atI (c :: r) (0 : Int) = some c := VI.atI_nat (xs := c :: r) (k := 0) (Nat.succ_pos _)
theorem numT_at {s : Str} (ha : (s.cps.toList.all fun c => decide (c ∈ digL)) = true) (h1 : 1 ≤ s.length) (h2 : s.length ≤ 16) : ∃ c r, s.cps.toList = c :: r ∧ (((⟨#[c]⟩ : Str) = "0") ↔ c = 48) ∧
    (¬ (c = 48 ∧ s ≠ "0") → T.int ((NumText.digitsVal s.cps.toList : Nat) : Int) = numT s) ∧ (c = 48 → s ≠ "0" → T.non = numT s) := by
  obtain ⟨c, r, hcr⟩ : ∃ c r, s.cps.toList = c :: r := by
    cases e : s.cps.toList with
    | nil => have := len_tl s; rw [e] at this; simp at this; omega
    | cons c r => exact ⟨c, r, rfl⟩
  refine ⟨c, r, hcr, ⟨fun e => ?_, fun h => by rw [h]; decide +kernel⟩, fun h => ?_, fun e ne => ?_⟩
  · have := congrArg (fun z : Str => z.cps.toList) e
    have e0 : ("0" : Str).cps.toList = [48] := by decide +kernel
    simp only [e0] at this
    simpa using this
  · unfold numT num?
    rw [if_neg]
    · rfl
    unfold numBad
    rw [ha, decide_eq_false (by omega), decide_eq_false (by omega), hcr]
    simp only [Bool.not_true, Bool.false_or, List.head?_cons, Bool.and_eq_true, decide_eq_true_eq, Option.some.injEq, Bool.not_eq_true', decide_eq_false_iff_not]
    exact h
  · unfold numT num?
    rw [if_pos]
    · rfl
    unfold numBad
    rw [hcr, e, decide_eq_false ne]
    simp
theorem s_number_of (n : Nat) (s : Str) (hs : s.length ≤ LIM) : CIs ((Iof PL (n + 1)).run f_number_of [.str s]) fun t ios => t = numT s := by
  refine en_number_of ?_
  unfold b_number_of
  have bad : numBad s = true → T.non = numT s := fun h => by unfold numT num?; rw [if_pos h]; rfl
  repeat' fail
  · exact hs
  · rename_i h; exact bad (by unfold numBad; rw [decide_eq_true (by omega)]; rfl)
  · exact hs
  · rename_i h h2; exact bad (by unfold numBad; rw [decide_eq_true (show 16 < s.length by omega)]; simp)
  · rename_i h h2
    refine l_map (env := [some (.str s), none]) eC T.bl s.cps.toList (fun _ => true) (fun c => decide (c ∈ digL)) (by rw [len_tl]; exact hs) (fun x _ => ?_) ?_
    · repeat' fail
      refine ⟨rfl, fun _ => ?_, fun h => nomatch h⟩
      repeat' fail
      exact ⟨rfl, rfl, rfl⟩
    · repeat' fail
      · rename_i ha
        rw [all_map] at ha
        obtain ⟨c, r, hcr, zero, good, badz⟩ := numT_at ha (by omega) (by omega)
        have iv := intText_digits (x := s) (fun c hc => (dig_iff c).mp (of_decide_eq_true (List.all_eq_true.mp ha c hc))) (by rw [hcr]; simp) (by omega)
        refine x_str (c := c) hs (by rw [hcr]; exact at0) ?_
        repeat' fail
        · rename_i h3 h4; exact badz (zero.mp h3) h4
        · rename_i h3 h4
          refine k_intS iv (by omega) ?_
          repeat' fail
          exact good fun z => z.2 h4
        · rename_i h3
          refine k_intS iv (by omega) ?_
          repeat' fail
          exact good fun z => h3 (zero.mpr z.1)
      · rename_i ha
        rw [all_map] at ha
        exact bad (by unfold numBad; rw [ha]; simp)
def inB (x : Int) (b : Int × Int) : Bool := decide (b.1 ≤ x) && decide (x ≤ b.2)
def numsIn : List Str → List (Int × Int) → Option (List Int)
  | [], [] => some []
  | w :: ws, b :: bs => match num? w with | some x => if inB x b = true then (numsIn ws bs).map (x :: ·) else none | none => none
  | _, _ => none
theorem numsIn_len : ∀ {ws : List Str} {bs : List (Int × Int)} {xs : List Int}, numsIn ws bs = some xs → xs.length = bs.length ∧ ws.length = bs.length
  | [], [], xs, h => by cases h; exact ⟨rfl, rfl⟩
  | w :: ws, b :: bs, xs, h => by
    rw [numsIn] at h
    split at h
    · split at h
      · obtain ⟨ys, hy, rfl⟩ := Option.map_eq_some_iff.mp h
        have := numsIn_len hy
        simp [this]
      · cases h
    · cases h
  | [], _ :: _, xs, h => by cases h
  | _ :: _, [], xs, h => by cases h
theorem numsIn_ne : ∀ {ws : List Str} {bs : List (Int × Int)}, ws.length ≠ bs.length → numsIn ws bs = none := fun {ws bs} h => by
  cases e : numsIn ws bs with
  | none => rfl
  | some xs => exact absurd (numsIn_len e).2 h
def oL (f : Fl) : Option (List Int) → T | none => .non | some xs => .lst f (xs.map T.int)
abbrev eB (b : Int × Int) : T := .tup [.int b.1, .int b.2]
theorem num_c (s : Str) : (num? s = none ∧ numT s = .non) ∨ ∃ k : Int, num? s = some k ∧ numT s = .int k := by
  unfold numT
  cases e : num? s with
  | none => exact .inl ⟨rfl, rfl⟩
  | some k => exact .inr ⟨k, rfl, rfl⟩
theorem s_numbers_in (n : Nat) (f g : Fl) [f.Ro] [g.Ro] (ws : List Str) (bs : List (Int × Int)) (hw : ∀ w ∈ ws, w.length ≤ LIM) (hl : ws.length ≤ LIM) (hb : bs.length ≤ LIM) : CIs ((Iof PL (n + 2)).run f_numbers_in [.lst f (ws.map T.str), .lst g (bs.map eB)]) fun t ios => t = oL .own (numsIn ws bs) := by
  refine en_numbers_in ?_
  unfold b_numbers_in
  repeat' fail
  · rename_i h
    rw [numsIn_ne (fun z => h (by rw [z]))]; rfl
  · rename_i h
    refine ⟨by unfold int62; simp only [LIM] at hb hl; omega, ?_⟩
    have hlen : ws.length = bs.length := by omega
    refine l_rng (fun k e => ∃ (xs : List Int) (u v : Option T), e = [some (.lst f (ws.map T.str)), some (.lst g (bs.map eB)), some (.lst .own (xs.map T.int)), u, v] ∧ xs.length = k ∧ numsIn ws bs = (numsIn (ws.drop k) (bs.drop k)).map (xs ++ ·)) ?_ ?_ ?_
    · exact ⟨[], _, _, rfl, rfl, by rw [List.drop_zero, List.drop_zero]; cases numsIn ws bs <;> rfl⟩
    · rintro k _ hk ⟨xs, u, v, rfl, hx, he⟩
      have hk1 : k < ws.length := by omega
      have hk2 : k < bs.length := by omega
      have ek : ((0 : Int) + (k : Nat)).toNat = k := by omega
      have step : numsIn (ws.drop k) (bs.drop k) = match num? ws[k] with | some x => if inB x bs[k] = true then (numsIn (ws.drop (k + 1)) (bs.drop (k + 1))).map (x :: ·) else none | none => none := by
        rw [List.drop_eq_getElem_cons hk1, List.drop_eq_getElem_cons hk2, numsIn]
      rw [step] at he
      have sn := s_number_of n ws[k] (hw _ (List.getElem_mem hk1))
      repeat' fail
      refine x_lst (by omega) (by rw [ek]; exact hk1) ?_
      simp only [ek]
      repeat' fail
      refine CIs.imp sn ?_
      rintro _ _ rfl
      rcases num_c ws[k] with ⟨e1, e2⟩ | ⟨x, e1, e2⟩
      · rw [e2]
        rw [e1] at he
        repeat' fail
        rw [he]; rfl
      · rw [e2]
        rw [e1] at he
        dsimp only at he
        repeat' fail
        refine x_lst (by omega) (by rw [ek]; exact hk2) ?_
        simp only [ek]
        repeat' fail
        · rename_i hlt
          rw [if_neg (by unfold inB; rw [decide_eq_false (by omega)]; simp)] at he
          rw [he]; rfl
        · refine x_lst (by omega) (by rw [ek]; exact hk2) ?_
          simp only [ek]
          repeat' fail
          · rename_i hlt hgt
            rw [if_neg (by unfold inB; rw [decide_eq_false (show ¬ x ≤ bs[k].2 by omega)]; simp)] at he
            rw [he]; rfl
          · simp only [LIM] at hl ⊢; omega
          · rename_i hlt hgt
            rw [if_pos (by unfold inB; rw [decide_eq_true (by omega), decide_eq_true (by omega)]; rfl)] at he
            refine ⟨xs ++ [x], _, _, rfl, by simp [hx], ?_⟩
            rw [he]
            cases numsIn (ws.drop (k + 1)) (bs.drop (k + 1)) <;> simp
    · rintro _ ⟨xs, u, v, rfl, hx, he⟩
      have e0 : ((ws.length : Int) - 0).toNat = ws.length := by omega
      rw [e0, List.drop_length, hlen, List.drop_length] at he
      repeat' fail
      rw [he]; simp [numsIn, oL]
structure RigS where
  iron : Option Int
  bars : List (Str × List Int)
  pieces : List (Str × List Int)
  bays : List (Str × List Str)
/-- lists of ints, of texts, in a rig -/
def eI (l : List Int) : T := .lst .frz (l.map T.int)
instance {l : List Int} : Nv (eI l) := inferInstanceAs (Nv (.lst .frz (l.map T.int)))
instance {l : List Int} : Nb (eI l) := inferInstanceAs (Nb (.lst .frz (l.map T.int)))
instance {l : List Int} : Nx (eI l) := inferInstanceAs (Nx (.lst .frz (l.map T.int)))
theorem map_ints {g : Fl → Fl} {l : List Int} : T.mapFL g (l.map T.int) = l.map T.int := by rw [mapFL_eq, List.map_map]; rfl
theorem map_strs {g : Fl → Fl} {l : List Str} : T.mapFL g (l.map T.str) = l.map T.str := by rw [mapFL_eq, List.map_map]; rfl
instance {f : Fl → Fl} {l : List Int} [k : FlTo f .frz .frz] : MapTo f (eI l) (eI l) := ⟨by unfold eI; rw [T.mapF, map_ints, k.h]⟩
abbrev eS (f : Fl) (l : List Str) : T := .lst f (l.map T.str)
/-- a list of texts, in a dict -/
def eT (f : Fl) (l : List Str) : T := .lst f (l.map T.str)
instance {f : Fl} [f.Ro] {l : List Str} : Nv (eT f l) := inferInstanceAs (Nv (.lst f (l.map T.str)))
instance {l : List Str} : Nv (eT .own l) := inferInstanceAs (Nv (.lst .own (l.map T.str)))
instance {f : Fl} {l : List Str} : Nx (eT f l) := inferInstanceAs (Nx (.lst f (l.map T.str)))
instance {l : List Str} : Nb (eT .own l) := inferInstanceAs (Nb (.lst .own (l.map T.str)))
instance {l : List Str} : Nb (eT .frz l) := inferInstanceAs (Nb (.lst .frz (l.map T.str)))
instance {g : Fl → Fl} {f f' : Fl} {l : List Str} [k : FlTo g f f'] : MapTo g (eT f l) (eT f' l) := ⟨by unfold eT; rw [T.mapF, map_strs, k.h]⟩
abbrev eR (f : Fl) (R : RigS) : T := .ins f 0 [oI R.iron, eD f eI R.bars, eD f eI R.pieces, eD f (eT f) R.bays]
theorem oI_map {g : Fl → Fl} {o : Option Int} : (oI o).mapF g = oI o := by cases o <;> rfl
instance {g : Fl → Fl} {o : Option Int} : MapTo g (oI o) (oI o) := ⟨oI_map⟩
instance {o : Option Int} : Nv (oI o) := by cases o <;> exact ⟨rfl⟩
instance {o : Option Int} : Nb (oI o) := by cases o <;> exact ⟨rfl⟩
instance {o : Option Int} : Nx (oI o) := by cases o <;> exact ⟨rfl⟩
def barB : List (Int × Int) := [(1, 60), (0, 60), (0, 60), (1, 2), (0, 1000000000000000), (0, 1000000000000000)]
def atOf (bars : List (Str × List Int)) (s : Str) : Int := ((bars.lookup s).getD []).getD 1 0
def rises (bars : List (Str × List Int)) : List Str → Bool
  | a :: b :: r => decide (atOf bars a < atOf bars b) && rises bars (b :: r)
  | _ => true
def stepPlate (R : RigS) (ws : List Str) : Option RigS := match numsIn ws [(1, 1000000000000)], R.iron with
  | some xs, none => some { R with iron := some (xs.getD 0 0) }
  | _, _ => none
def stepBar (R : RigS) (nm : Str) (ws : List Str) : Option RigS := match numsIn ws barB with
  | some xs => if xs.getD 1 0 > xs.getD 0 0 ∨ xs.getD 4 0 > xs.getD 5 0 then none
    else if (R.bars.lookup nm).isSome = true ∨ R.bars.length = 8 then none
    else some { R with bars := R.bars ++ [(nm, xs)] }
  | none => none
def stepPiece (R : RigS) (nm : Str) (ws : List Str) : Option RigS := match numsIn ws [(1, 1000000000000), (0, 60)] with
  | some xs => if (R.pieces.lookup nm).isSome = true ∨ R.pieces.length = 12 then none
    else some { R with pieces := R.pieces ++ [(nm, xs)] }
  | none => none
def stepBay (R : RigS) (nm : Str) (ws : List Str) : Option RigS :=
  if (R.bays.lookup nm).isSome = true ∨ R.bays.length = 12 ∨ ¬ (2 ≤ ws.length ∧ ws.length ≤ 8) then none
  else if (ws.all fun b => (R.bars.lookup b).isSome) = true ∧ rises R.bars ws = true then some { R with bays := R.bays ++ [(nm, ws)] }
  else none
def stepRig (R : RigS) : List Str → Option RigS
  | [] => none
  | w0 :: r => if w0 = "plate" then stepPlate R r else match r with
    | [] => none
    | nm :: q => if nameOk nm = true then (if w0 = "bar" then stepBar R nm q else if w0 = "piece" then stepPiece R nm q else if w0 = "bay" then stepBay R nm q else none) else none
theorem numsIn_bd : ∀ {ws : List Str} {bs : List (Int × Int)} {xs : List Int}, numsIn ws bs = some xs → ∀ p ∈ xs.zip bs, p.2.1 ≤ p.1 ∧ p.1 ≤ p.2.2
  | [], [], xs, h => by cases h; simp
  | w :: ws, b :: bs, xs, h => by
    rw [numsIn] at h
    split at h
    · split at h
      · rename_i x _ hb
        obtain ⟨ys, hy, rfl⟩ := Option.map_eq_some_iff.mp h
        intro p hp
        rw [List.zip_cons_cons] at hp
        rcases List.mem_cons.mp hp with rfl | hp
        · unfold inB at hb
          rw [Bool.and_eq_true, decide_eq_true_iff, decide_eq_true_iff] at hb
          exact hb
        · exact numsIn_bd hy p hp
      · cases h
    · cases h
  | [], _ :: _, xs, h => by cases h
  | _ :: _, [], xs, h => by cases h
/-- a bar's numbers, a piece's -/
def Bar6 (l : List Int) : Prop := ∃ a b c d u v, l = [a, b, c, d, u, v] ∧ (1 ≤ a ∧ a ≤ 60) ∧ (0 ≤ b ∧ b ≤ a) ∧ (0 ≤ c ∧ c ≤ 60) ∧ (1 ≤ d ∧ d ≤ 2) ∧ (0 ≤ u ∧ u ≤ v) ∧ v ≤ 1000000000000000
def Pc2 (l : List Int) : Prop := ∃ w d, l = [w, d] ∧ (1 ≤ w ∧ w ≤ 1000000000000) ∧ (0 ≤ d ∧ d ≤ 60)
theorem len6 {xs : List Int} (h : xs.length = 6) : ∃ a b c d e f, xs = [a, b, c, d, e, f] := by
  match xs, h with
  | [a, b, c, d, e, f], _ => exact ⟨a, b, c, d, e, f, rfl⟩
theorem len2 {xs : List Int} (h : xs.length = 2) : ∃ a b, xs = [a, b] := by
  match xs, h with
  | [a, b], _ => exact ⟨a, b, rfl⟩
/-- what keeps of a rig -/
structure RigS.Ok (R : RigS) : Prop where
  ib : ∀ p, R.iron = some p → 1 ≤ p ∧ p ≤ 1000000000000
  bb : ∀ p ∈ R.bars, Bar6 p.2
  pb : ∀ p ∈ R.pieces, Pc2 p.2
  nb : R.bars.length ≤ 8
  np : R.pieces.length ≤ 12
  ny : R.bays.length ≤ 12
  yb : ∀ y ∈ R.bays, ∀ b ∈ y.2, (R.bars.lookup b).isSome = true
  yl : ∀ y ∈ R.bays, y.2.length ≤ 8
def RigS.zero : RigS := ⟨none, [], [], []⟩
theorem RigS.Ok.b6 {R : RigS} (k : R.Ok) : ∀ p ∈ R.bars, p.2.length = 6 := fun p hp => by obtain ⟨a, b, c, d, u, v, e, _⟩ := k.bb p hp; rw [e]; rfl
theorem zero_ok : RigS.zero.Ok := ⟨by simp [RigS.zero], by simp [RigS.zero], by simp [RigS.zero], by simp [RigS.zero], by simp [RigS.zero], by simp [RigS.zero], by simp [RigS.zero], by simp [RigS.zero]⟩
theorem look_mem {α : Type} : ∀ {xs : List (Str × α)} {s : Str} {a : α}, xs.lookup s = some a → (s, a) ∈ xs
  | (t, b) :: r, s, a, h => by
    rw [List.lookup_cons] at h
    by_cases e : s = t
    · subst e; simp at h; subst h; exact List.mem_cons_self
    · have e' : (s == t) = false := by simpa using e
      rw [e'] at h
      exact List.mem_cons_of_mem _ (look_mem h)
theorem look_append {α : Type} : ∀ {xs ys : List (Str × α)} {s : Str}, (xs ++ ys).lookup s = (xs.lookup s).or (ys.lookup s)
  | [], ys, s => by simp
  | (t, b) :: r, ys, s => by
    rw [List.cons_append, List.lookup_cons, List.lookup_cons]
    by_cases e : s = t
    · subst e; simp
    · have e' : (s == t) = false := by simpa using e
      rw [e']; exact look_append
theorem look_none {α : Type} {xs : List (Str × α)} {s : Str} (h : ¬ (xs.lookup s).isSome = true) : xs.lookup s = none := by
  cases e : xs.lookup s with
  | none => rfl
  | some _ => rw [e] at h; exact absurd rfl h
theorem stepBar_ok {R R' : RigS} {nm : Str} {ws : List Str} (k : R.Ok) (h : stepBar R nm ws = some R') : R'.Ok := by
  unfold stepBar at h
  split at h
  · rename_i xs hx
    split at h
    · cases h
    · rename_i h1
      split at h
      · cases h
      · rename_i h2
        cases h
        have := k.nb
        refine ⟨k.ib, fun p hp => ?_, k.pb, by simp at h2 ⊢; omega, k.np, k.ny, fun y hy b hb => ?_, k.yl⟩
        · rcases List.mem_append.mp hp with hp | hp
          · exact k.bb p hp
          · rw [List.mem_singleton.mp hp]
            obtain ⟨a, b, c, d, u, v, rfl⟩ := len6 (numsIn_len hx).1
            have hz := numsIn_bd hx
            simp [barB] at hz h1
            exact ⟨a, b, c, d, u, v, rfl, by omega, by omega, by omega, by omega, by omega, by omega⟩
        · show (List.lookup b (R.bars ++ [(nm, xs)])).isSome = true
          rw [look_append]
          have := k.yb y hy b hb
          cases e : R.bars.lookup b with
          | none => rw [e] at this; cases this
          | some _ => rfl
  · cases h
theorem stepPiece_ok {R R' : RigS} {nm : Str} {ws : List Str} (k : R.Ok) (h : stepPiece R nm ws = some R') : R'.Ok := by
  unfold stepPiece at h
  split at h
  · rename_i xs hx
    split at h
    · cases h
    · rename_i h2
      cases h
      have := k.np
      refine ⟨k.ib, k.bb, fun p hp => ?_, k.nb, by simp at h2 ⊢; omega, k.ny, k.yb, k.yl⟩
      rcases List.mem_append.mp hp with hp | hp
      · exact k.pb p hp
      · rw [List.mem_singleton.mp hp]
        obtain ⟨a, b, rfl⟩ := len2 (numsIn_len hx).1
        have hz := numsIn_bd hx
        simp at hz
        exact ⟨a, b, rfl, by omega, by omega⟩
  · cases h
theorem stepBay_ok {R R' : RigS} {nm : Str} {ws : List Str} (k : R.Ok) (h : stepBay R nm ws = some R') : R'.Ok := by
  unfold stepBay at h
  split at h
  · cases h
  · rename_i h1
    split at h
    · rename_i h2
      cases h
      have := k.ny
      refine ⟨k.ib, k.bb, k.pb, k.nb, k.np, by simp at h1 ⊢; omega, fun y hy b hb => ?_, fun y hy => ?_⟩
      · rcases List.mem_append.mp hy with hy | hy
        · exact k.yb y hy b hb
        · rw [List.mem_singleton.mp hy] at hb; exact List.all_eq_true.mp h2.1 b hb
      · rcases List.mem_append.mp hy with hy | hy
        · exact k.yl y hy
        · rw [List.mem_singleton.mp hy]; show ws.length ≤ 8; omega
    · cases h
theorem stepRig_ok {R R' : RigS} {ws : List Str} (k : R.Ok) (h : stepRig R ws = some R') : R'.Ok := by
  unfold stepRig at h
  split at h
  · cases h
  · split at h
    · unfold stepPlate at h
      split at h
      · rename_i xs hx _
        cases h
        refine ⟨fun p hp => ?_, k.bb, k.pb, k.nb, k.np, k.ny, k.yb, k.yl⟩
        obtain ⟨x, rfl⟩ : ∃ x, xs = [x] := List.length_eq_one_iff.mp (numsIn_len hx).1
        have hz := numsIn_bd hx
        simp at hz
        cases hp
        exact hz
      · cases h
    · split at h
      · cases h
      · split at h
        · split at h
          · exact stepBar_ok k h
          · split at h
            · exact stepPiece_ok k h
            · split at h
              · exact stepBay_ok k h
              · cases h
        · cases h
theorem oL_some {f : Fl} {xs : List Int} : oL f (some xs) = .lst f (xs.map T.int) := rfl
theorem oL_none {f : Fl} : oL f none = .non := rfl
theorem s_is_plate (n : Nat) (f : Fl) [f.Ro] (R : RigS) (ws : List Str) (hw : ∀ w ∈ ws, w.length ≤ LIM) (hl : ws.length ≤ LIM) : CIs ((Iof PL (n + 3)).run f_m_Rig_is_plate [eR .own R, eS f ws]) fun t ios => match stepPlate R ws with
    | some R' => t = .bl true ∧ ios = [eR .own R']
    | none => t = .bl false ∧ ios = [eR .own R] := by
  refine en_m_Rig_is_plate ?_
  unfold b_m_Rig_is_plate
  repeat' fail
  refine CIs.imp (s_numbers_in n f .brw ws [(1, 1000000000000)] hw hl (by decide)) ?_
  rintro _ _ rfl
  unfold stepPlate
  cases e : numsIn ws [(1, 1000000000000)] with
  | none =>
    simp only [oL_none]
    repeat' fail
    exact ⟨rfl, rfl⟩
  | some xs =>
    have hlen := (numsIn_len e).1
    obtain ⟨x, rfl⟩ : ∃ x, xs = [x] := List.length_eq_one_iff.mp hlen
    simp only [oL_some]
    obtain ⟨ir, ba, pi, by_⟩ := R
    cases ir with
    | some v =>
      repeat' fail
      exact ⟨rfl, rfl⟩
    | none =>
      repeat' fail
      exact ⟨rfl, rfl⟩
theorem s_is_bar (n : Nat) (f : Fl) [f.Ro] (R : RigS) (hR : R.Ok) (nm : Str) (ws : List Str) (hw : ∀ w ∈ ws, w.length ≤ LIM) (hl : ws.length ≤ LIM) : CIs ((Iof PL (n + 3)).run f_m_Rig_is_bar [eR .own R, .str nm, eS f ws]) fun t ios => match stepBar R nm ws with
    | some R' => t = .bl true ∧ ios = [eR .own R']
    | none => t = .bl false ∧ ios = [eR .own R] := by
  refine en_m_Rig_is_bar ?_
  unfold b_m_Rig_is_bar
  repeat' fail
  refine CIs.imp (s_numbers_in n f .frz ws barB hw hl (by decide)) ?_
  rintro _ _ rfl
  unfold stepBar
  cases e : numsIn ws barB with
  | none =>
    dsimp only
    simp only [oL_none]
    repeat' fail
    exact ⟨rfl, rfl⟩
  | some xs =>
    obtain ⟨a, b, c, d, u, v, rfl⟩ := len6 (numsIn_len e).1
    dsimp only
    simp only [oL_some]
    have e1 : ([a, b, c, d, u, v] : List Int).getD 1 0 = b := rfl
    have e0 : ([a, b, c, d, u, v] : List Int).getD 0 0 = a := rfl
    have e4 : ([a, b, c, d, u, v] : List Int).getD 4 0 = u := rfl
    have e5 : ([a, b, c, d, u, v] : List Int).getD 5 0 = v := rfl
    rw [e1, e0, e4, e5]
    repeat' fail
    · rename_i h
      rw [if_pos (.inl (by omega))]
      exact ⟨rfl, rfl⟩
    · rename_i h h2
      rw [if_pos (.inr (by omega))]
      exact ⟨rfl, rfl⟩
    · rename_i h h2 h3
      rw [if_neg (by omega), if_pos (.inl h3)]
      exact ⟨rfl, rfl⟩
    · rename_i h h2 h3 h4
      rw [if_neg (by omega), if_pos (.inr (by omega))]
      exact ⟨rfl, rfl⟩
    · rename_i h h2 h3 h4
      have := hR.nb
      refine d_add (enc := eI) (a := [a, b, c, d, u, v]) (look_none (by rw [h3]; simp)) (by simp only [LIM]; omega) ?_
      repeat' fail
      rw [if_neg (by omega), if_neg (by rw [h3]; simp; omega)]
      exact ⟨rfl, rfl⟩
theorem s_is_piece (n : Nat) (f : Fl) [f.Ro] (R : RigS) (hR : R.Ok) (nm : Str) (ws : List Str) (hw : ∀ w ∈ ws, w.length ≤ LIM) (hl : ws.length ≤ LIM) : CIs ((Iof PL (n + 3)).run f_m_Rig_is_piece [eR .own R, .str nm, eS f ws]) fun t ios => match stepPiece R nm ws with
    | some R' => t = .bl true ∧ ios = [eR .own R']
    | none => t = .bl false ∧ ios = [eR .own R] := by
  refine en_m_Rig_is_piece ?_
  unfold b_m_Rig_is_piece
  repeat' fail
  refine CIs.imp (s_numbers_in n f .brw ws [(1, 1000000000000), (0, 60)] hw hl (by decide)) ?_
  rintro _ _ rfl
  unfold stepPiece
  cases e : numsIn ws [(1, 1000000000000), (0, 60)] with
  | none =>
    dsimp only
    simp only [oL_none]
    repeat' fail
    exact ⟨rfl, rfl⟩
  | some xs =>
    dsimp only
    simp only [oL_some]
    repeat' fail
    · rename_i h
      rw [if_pos (.inl h)]
      exact ⟨rfl, rfl⟩
    · rename_i h h2
      rw [if_pos (.inr (by omega))]
      exact ⟨rfl, rfl⟩
    · rename_i h h2
      have := hR.np
      refine d_add (enc := eI) (a := xs) (look_none (by rw [h]; simp)) (by simp only [LIM]; omega) ?_
      repeat' fail
      rw [if_neg (by rw [h]; simp; omega)]
      exact ⟨rfl, rfl⟩
theorem rises_iff {bars : List (Str × List Int)} : ∀ {ws : List Str}, rises bars ws = true ↔ ∀ j, (h : j + 1 < ws.length) → atOf bars ws[j] < atOf bars ws[j + 1]
  | [] => ⟨fun _ j h => by simp at h, fun _ => rfl⟩
  | [a] => ⟨fun _ j h => by simp at h, fun _ => rfl⟩
  | a :: b :: r => by
    rw [rises, Bool.and_eq_true, decide_eq_true_iff, rises_iff (ws := b :: r)]
    constructor
    · rintro ⟨h1, h2⟩ j hj
      cases j with
      | zero => exact h1
      | succ j => exact h2 j (by simpa using hj)
    · intro h
      exact ⟨h 0 (by simp), fun j hj => h (j + 1) (by simpa using hj)⟩
theorem at_of {R : RigS} (hR : R.Ok) {s : Str} (h : (R.bars.lookup s).isSome = true) : ∃ a b c d u v, R.bars.lookup s = some [a, b, c, d, u, v] ∧ atOf R.bars s = b := by
  cases e : R.bars.lookup s with
  | none => rw [e] at h; cases h
  | some xs =>
    obtain ⟨a, b, c, d, u, v, rfl⟩ := len6 (hR.b6 _ (look_mem e))
    exact ⟨a, b, c, d, u, v, rfl, by unfold atOf; rw [e]; rfl⟩
theorem s_is_bay (n : Nat) (f : Fl) [f.Ro] (R : RigS) (hR : R.Ok) (nm : Str) (ws : List Str) : CIs ((Iof PL (n + 3)).run f_m_Rig_is_bay [eR .own R, .str nm, eS f ws]) fun t ios => match stepBay R nm ws with
    | some R' => t = .bl true ∧ ios = [eR .own R']
    | none => t = .bl false ∧ ios = [eR .own R] := by
  refine en_m_Rig_is_bay ?_
  unfold b_m_Rig_is_bay
  unfold stepBay
  repeat' fail
  · rename_i h
    rw [if_pos (.inl h)]
    exact ⟨rfl, rfl⟩
  · rename_i h h2
    rw [if_pos (.inr (.inl (by omega)))]
    exact ⟨rfl, rfl⟩
  · rename_i h h2
    refine ⟨fun h3 => gk_r rfl ?_, fun h3 => ?_⟩
    · have h3 := of_decide_eq_true h3
      repeat' fail
      · rename_i h4
        rw [if_pos (.inr (.inr (by omega)))]
        exact ⟨rfl, rfl⟩
      · rename_i h4
        rw [if_neg (by rw [h]; simp; omega)]
        refine l_for T.str ws (fun d r e => ∃ u v, e = [some (eR .own R), some (.str nm), some (eS f ws), u, v] ∧ ∀ b ∈ d, (R.bars.lookup b).isSome = true) ?_ ?_ ?_
        · exact ⟨_, _, rfl, by simp⟩
        · rintro d b r _ hd ⟨u, v, rfl, hi⟩
          repeat' fail
          · rename_i h5
            refine ⟨_, _, rfl, fun x hx => ?_⟩
            rcases List.mem_append.mp hx with hx | hx
            · exact hi x hx
            · rw [List.mem_singleton.mp hx]; exact h5
          · rename_i h5
            rw [if_neg]
            · exact ⟨rfl, rfl⟩
            · rintro ⟨z, _⟩
              have := List.all_eq_true.mp z b (by rw [hd]; simp)
              rw [this] at h5
              cases h5
        · rintro _ ⟨u, v, rfl, hi⟩
          repeat' fail
          refine ⟨by unfold int62; omega, ?_⟩
          refine l_rng (fun k e => ∃ u v, e = [some (eR .own R), some (.str nm), some (eS f ws), u, v] ∧ ∀ j, j < k → (h : j + 1 < ws.length) → atOf R.bars ws[j] < atOf R.bars ws[j + 1]) ?_ ?_ ?_
          · exact ⟨_, _, rfl, fun j hj => by omega⟩
          · rintro k _ hk ⟨u, v, rfl, hj⟩
            have k0 : k < ws.length := by omega
            have k1 : k + 1 < ws.length := by omega
            obtain ⟨a1, b1, c1, d1, u1, v1, l1, t1⟩ := at_of hR (hi ws[k] (List.getElem_mem k0))
            obtain ⟨a2, b2, c2, d2, u2, v2, l2, t2⟩ := at_of hR (hi ws[k + 1] (List.getElem_mem k1))
            have q1 : ((1 : Int) + (k : Nat) - 1).toNat = k := by omega
            have q2 : ((1 : Int) + (k : Nat)).toNat = k + 1 := by omega
            repeat' fail
            refine x_lst (by omega) (by rw [q1]; exact k0) ?_
            simp only [q1]
            repeat' fail
            refine x_dic l1 ?_
            repeat' fail
            refine x_lst (by omega) (by rw [q2]; exact k1) ?_
            simp only [q2]
            repeat' fail
            refine x_dic l2 ?_
            repeat' fail
            · rename_i h5
              rw [if_neg]
              · exact ⟨rfl, rfl⟩
              · rintro ⟨_, z⟩
                have := rises_iff.mp z k k1
                omega
            · rename_i h5
              refine ⟨_, _, rfl, fun j hj' hl => ?_⟩
              by_cases e : j = k
              · subst e; omega
              · exact hj j (by omega) hl
          · rintro _ ⟨u, v, rfl, hj⟩
            repeat' fail
            have := hR.ny
            refine d_add (enc := eT .own) (a := ws) (look_none (by rw [h]; simp)) (by simp only [LIM]; omega) ?_
            repeat' fail
            rw [if_pos ⟨List.all_eq_true.mpr hi, rises_iff.mpr fun j hj' => hj j (by omega) hj'⟩]
            exact ⟨rfl, rfl⟩
    · have h3 := of_decide_eq_false h3
      repeat' fail
      rw [if_pos (.inr (.inr (by omega)))]
      exact ⟨rfl, rfl⟩
theorem cut1 {α : Type} {a : α} {r : List α} : cutA (a :: r) (some 1) none = r := cutA_drop (k := 1)
theorem cut2 {α : Type} {a b : α} {r : List α} : cutA (a :: b :: r) (some 2) none = r := cutA_drop (k := 2)
theorem s_is_told (n : Nat) (f : Fl) [f.Ro] (R : RigS) (hR : R.Ok) (ws : List Str) (h0 : ws ≠ []) (hw : ∀ w ∈ ws, w.length ≤ LIM) (hl : ws.length ≤ LIM) : CIs ((Iof PL (n + 4)).run f_m_Rig_is_told [eR .own R, eS f ws]) fun t ios => match stepRig R ws with
    | some R' => t = .bl true ∧ ios = [eR .own R']
    | none => t = .bl false ∧ ios = [eR .own R] := by
  refine en_m_Rig_is_told ?_
  unfold b_m_Rig_is_told
  obtain ⟨w0, r, rfl⟩ := List.exists_cons_of_ne_nil h0
  have hr : ∀ w ∈ r, w.length ≤ LIM := fun w h => hw w (List.mem_cons_of_mem _ h)
  have lr : r.length ≤ LIM := by simp at hl; omega
  repeat' fail
  · rename_i h
    rw [cut1]
    refine CIs.imp (s_is_plate n .brw R r hr lr) ?_
    intro t ios hq
    have e : stepRig R (w0 :: r) = stepPlate R r := by show (if _ then _ else _) = _; rw [if_pos h]
    rw [e]
    cases e2 : stepPlate R r with
    | none => rw [e2] at hq; obtain ⟨rfl, rfl⟩ := hq; (repeat' fail); exact ⟨rfl, rfl⟩
    | some R' => rw [e2] at hq; obtain ⟨rfl, rfl⟩ := hq; (repeat' fail); exact ⟨rfl, rfl⟩
  · rename_i h h1
    have e : stepRig R (w0 :: r) = none := by
      cases r with
      | nil => show (if _ then _ else _) = _; rw [if_neg h]
      | cons _ _ => simp at h1; omega
    rw [e]
    exact ⟨rfl, rfl⟩
  · rename_i h h1
    obtain ⟨nm, q, rfl⟩ : ∃ nm q, r = nm :: q := by
      cases r with
      | nil => simp at h1
      | cons a b => exact ⟨a, b, rfl⟩
    have hq : ∀ w ∈ q, w.length ≤ LIM := fun w h => hr w (List.mem_cons_of_mem _ h)
    have lq : q.length ≤ LIM := by simp at lr; omega
    have e : stepRig R (w0 :: nm :: q) = if nameOk nm = true then (if w0 = "bar" then stepBar R nm q else if w0 = "piece" then stepPiece R nm q else if w0 = "bay" then stepBay R nm q else none) else none := by show (if _ then _ else _) = _; rw [if_neg h]
    rw [e]
    have at1 : ∀ {K : T → Prop}, K (.str nm) → OpK (idxT (.lst f ((w0 :: nm :: q).map T.str)) (.int 1)) K := fun h => x_lst (e := T.str) (xs := w0 :: nm :: q) (i := 1) (by decide) (by simp) h
    refine at1 ?_
    repeat' fail
    refine CIs.imp (s_is_name (n + 2) nm (hw nm (by simp))) ?_
    rintro _ _ rfl
    cases hn : nameOk nm with
    | false =>
      repeat' fail
      exact ⟨rfl, rfl⟩
    | true =>
      rw [if_pos rfl]
      repeat' fail
      · rename_i h2
        rw [if_pos h2]
        refine at1 ?_
        repeat' fail
        rw [cut2]
        refine CIs.imp (s_is_bar n .brw R hR nm q hq lq) ?_
        intro t ios hq
        cases e2 : stepBar R nm q with
        | none => rw [e2] at hq; obtain ⟨rfl, rfl⟩ := hq; (repeat' fail); exact ⟨rfl, rfl⟩
        | some R' => rw [e2] at hq; obtain ⟨rfl, rfl⟩ := hq; (repeat' fail); exact ⟨rfl, rfl⟩
      · rename_i h2 h3
        rw [if_neg h2, if_pos h3]
        refine at1 ?_
        repeat' fail
        rw [cut2]
        refine CIs.imp (s_is_piece n .brw R hR nm q hq lq) ?_
        intro t ios hq
        cases e2 : stepPiece R nm q with
        | none => rw [e2] at hq; obtain ⟨rfl, rfl⟩ := hq; (repeat' fail); exact ⟨rfl, rfl⟩
        | some R' => rw [e2] at hq; obtain ⟨rfl, rfl⟩ := hq; (repeat' fail); exact ⟨rfl, rfl⟩
      · rename_i h2 h3 h4
        rw [if_neg h2, if_neg h3, if_pos h4]
        refine at1 ?_
        repeat' fail
        rw [cut2]
        refine CIs.imp (s_is_bay n .brw R hR nm q) ?_
        intro t ios hq
        cases e2 : stepBay R nm q with
        | none => rw [e2] at hq; obtain ⟨rfl, rfl⟩ := hq; (repeat' fail); exact ⟨rfl, rfl⟩
        | some R' => rw [e2] at hq; obtain ⟨rfl, rfl⟩ := hq; (repeat' fail); exact ⟨rfl, rfl⟩
      · rename_i h2 h3 h4
        rw [if_neg h2, if_neg h3, if_neg h4]
        exact ⟨rfl, rfl⟩
/-- the words of a line -/
def wordsOf (s : Str) : List Str := Txt.split s " "
def foldRig : RigS → List Str → Option RigS
  | R, [] => some R
  | R, l :: r => match stepRig R (wordsOf l) with | some R' => foldRig R' r | none => none
theorem foldRig_append {R : RigS} : ∀ {a b : List Str}, foldRig R (a ++ b) = (foldRig R a).bind fun R' => foldRig R' b := fun {a} => by
  induction a generalizing R with
  | nil => intro b; rfl
  | cons l r ih =>
    intro b
    rw [List.cons_append, foldRig, foldRig]
    cases stepRig R (wordsOf l) with
    | none => rfl
    | some R' => exact ih
theorem foldRig_ok {R R' : RigS} (k : R.Ok) : ∀ {a : List Str}, foldRig R a = some R' → R'.Ok := fun {a} => by
  induction a generalizing R with
  | nil => intro h; cases h; exact k
  | cons l r ih =>
    intro h
    rw [foldRig] at h
    cases e : stepRig R (wordsOf l) with
    | none => rw [e] at h; cases h
    | some R1 => rw [e] at h; exact ih (stepRig_ok k e) h
section
open SX
theorem spl_sz {s : Nat} : ∀ (l acc : List Nat), TL.spl [s] 0 acc l ≠ [] ∧ (TL.spl [s] 0 acc l).length ≤ l.length + 1 ∧ ∀ p ∈ TL.spl [s] 0 acc l, p.length ≤ acc.length + l.length
  | [], acc => by
    rw [TL.spl_nil]
    refine ⟨by simp, by simp, fun p hp => ?_⟩
    rw [List.mem_singleton.mp hp]; simp
  | c :: r, acc => by
    cases h : TL.pre [s] (c :: r) with
    | true =>
      rw [TL.spl_hit h]
      obtain ⟨a, b, d⟩ := spl_sz (s := s) r []
      have e1 : [s].length - 1 = 0 := rfl
      rw [e1]
      refine ⟨by simp, by simp only [List.length_cons] at b ⊢; omega, fun p hp => ?_⟩
      rcases List.mem_cons.mp hp with rfl | hp
      · omega
      · have := d p (by simpa using hp)
        simp at this ⊢; omega
    | false =>
      rw [TL.spl_miss h]
      obtain ⟨a, b, d⟩ := spl_sz (s := s) r (acc ++ [c])
      refine ⟨a, by simp only [List.length_cons]; omega, fun p hp => ?_⟩
      have := d p hp
      simp at this ⊢; omega
theorem blank_eq : (" " : Str) = S [32] := by decide +kernel
theorem words_S (a : List Nat) : wordsOf (S a) = (TL.spl [32] 0 [] a).map S := by
  unfold wordsOf
  rw [blank_eq, split_S (by simp) (by decide)]
theorem words_sz (s : Str) : wordsOf s ≠ [] ∧ (wordsOf s).length ≤ s.length + 1 ∧ ∀ w ∈ wordsOf s, w.length ≤ s.length := by
  rw [← S_tl s, words_S]
  obtain ⟨a, b, d⟩ := spl_sz (s := 32) s.cps.toList []
  refine ⟨by simpa using a, by rw [List.length_map, S_len]; exact b, fun w hw => ?_⟩
  obtain ⟨p, hp, rfl⟩ := List.mem_map.mp hw
  rw [S_len, S_len]
  simpa using d p hp
theorem map_S (ws : List Str) : (ws.map fun w => w.cps.toList).map S = ws := by
  rw [List.map_map]
  conv => rhs; rw [← List.map_id ws]
  exact List.map_congr_left fun w _ => S_tl w
theorem words_join {ws : List Str} (h0 : ws ≠ []) (h : ∀ w ∈ ws, 32 ∉ w.cps.toList) : wordsOf (Txt.join " " ws) = ws := by
  rw [blank_eq, ← map_S ws, join_S, words_S, spl_join (by simpa using h0) ?_]
  intro p hp
  obtain ⟨w, hw, rfl⟩ := List.mem_map.mp hp
  exact h w hw
theorem num_toString {i : Int} (h0 : 0 ≤ i) (h1 : i < 10000000000000000) : num? (toString i) = some i := by
  obtain ⟨n, rfl⟩ := Int.eq_ofNat_of_zero_le h0
  have e : (Str.ofString (toString ((n : Nat) : Int))) = S (TL.numL n) := num_S n
  rw [e]
  have hd := TL.numL_digits n
  have hne := TL.numL_ne n
  have hl : (TL.numL n).length ≤ 16 := TL.numL_len (k := 16) (by decide) (by omega)
  have e2 : (S (TL.numL n)).cps.toList = TL.numL n := rfl
  unfold num?
  rw [if_neg, e2, TL.numL_val]
  unfold numBad
  rw [S_len, e2]
  have h1 : 1 ≤ (TL.numL n).length := List.length_pos_iff.mpr hne
  rw [decide_eq_false (by omega), decide_eq_false (by omega)]
  have ha : ((TL.numL n).all fun c => decide (c ∈ digL)) = true := List.all_eq_true.mpr fun c hc => decide_eq_true ((dig_iff c).mpr (hd c hc))
  rw [ha]
  simp only [Bool.not_true, Bool.false_or, Bool.and_eq_true, decide_eq_true_eq, Bool.not_eq_true', decide_eq_false_iff_not, not_and, Decidable.not_not]
  intro hh
  have key : ∀ n : Nat, (TL.numL n).head? = some 48 → n = 0 := fun n => by
    induction n using Nat.strongRecOn with
    | _ n ih =>
      intro hh
      by_cases h : n < 10
      · rw [TL.numL_lt h] at hh
        simp at hh
        omega
      · rw [TL.numL_step (by omega)] at hh
        have hne := TL.numL_ne (n / 10)
        cases e : TL.numL (n / 10) with
        | nil => exact absurd e hne
        | cons a b =>
          have := ih (n / 10) (by omega) (by rw [e] at hh ⊢; simpa using hh)
          omega
  have := key n hh
  subst this
  decide +kernel
end
theorem k_split {s b : Str} {Q : T → Prop} (hb : (b.length == 0) = false) (hl : s.length + 2 ≤ LIM) (h : Q (.lst .own ((Txt.split s b).map T.str))) : OpK (smtT "split" (.str s) [.str b]) Q := OpK.of (by
  unfold smtT
  dsimp only
  rw [if_neg (by decide), if_pos rfl, if_pos ⟨hb, hl⟩]) h
theorem s_Rig_init (n : Nat) (f : Fl) [f.Ro] (ls : List Str) (R : RigS) (hl : ls.length ≤ LIM) (hw : ∀ l ∈ ls, l.length + 2 ≤ LIM) (h : foldRig .zero ls = some R) (hi : R.iron.isSome = true) (hb : R.bars ≠ []) :
    CIs ((Iof PL (n + 5)).run f_m_Rig_init [.ins .own 0 [], eS f ls]) fun t ios => t = .non ∧ ios = [eR .own R] := by
  refine en_m_Rig_init ?_
  unfold b_m_Rig_init
  repeat' fail
  rw [enuT_map]
  refine l_for (fun p : Str × Nat => .tup [.int (p.2 : Nat), .str p.1]) (ls.zipIdx 0) (fun d r e => ∃ R1 u v, e = [some (eR .own R1), some (eS f ls), u, v] ∧ foldRig .zero (d.map (·.1)) = some R1) ?_ ?_ ?_
  · exact ⟨.zero, _, _, rfl, rfl⟩
  · rintro d ⟨l, j⟩ r _ hd ⟨R1, u, v, rfl, hf⟩
    have hs : ls = (d.map (·.1)) ++ l :: (r.map (·.1)) := by
      have := congrArg (List.map (·.1)) hd
      simpa using this
    have hwl := hw l (by rw [hs]; simp)
    obtain ⟨z1, z2, z3⟩ := words_sz l
    have hR1 := foldRig_ok zero_ok hf
    rw [hs, foldRig_append, hf, Option.bind_some, foldRig] at h
    repeat' fail
    refine k_split (by decide +kernel) hwl ?_
    repeat' fail
    refine CIs.imp (s_is_told n .brw R1 hR1 (wordsOf l) z1 (fun w h => by have := z3 w h; omega) (by omega)) ?_
    intro t ios hq
    cases e : stepRig R1 (wordsOf l) with
    | none => rw [e] at h; cases h
    | some R2 =>
      rw [e] at hq
      obtain ⟨rfl, rfl⟩ := hq
      repeat' fail
      refine ⟨R2, _, _, rfl, ?_⟩
      rw [List.map_append, foldRig_append, hf, Option.bind_some]
      show foldRig R1 [l] = _
      rw [foldRig, e]; rfl
  · rintro _ ⟨R1, u, v, rfl, hf⟩
    rw [List.zipIdx_map_fst, h] at hf
    cases hf
    obtain ⟨i, hi⟩ := Option.isSome_iff_exists.mp hi
    have hpos := List.length_pos_iff.mpr hb
    obtain ⟨ir, ba, pi, by_⟩ := R
    dsimp only at hi hpos
    subst hi
    repeat' fail
    · rename_i h; dsimp only at h; omega
    · exact ⟨rfl, rfl⟩
theorem s_plate (n : Nat) (f : Fl) [f.Ro] (R : RigS) {p : Int} (h : R.iron = some p) : CIs ((Iof PL (n + 1)).run f_m_Rig_plate [eR f R]) fun t ios => t = .int p := by
  refine en_m_Rig_plate ?_
  unfold b_m_Rig_plate
  repeat' fail
  rw [h]; rfl
theorem s_bars (n : Nat) (f : Fl) [f.Ro] (R : RigS) : CIs ((Iof PL (n + 1)).run f_m_Rig_bars [eR f R]) fun t ios => t = .lst .own ((R.bars.map (·.1)).map T.str) := by
  refine en_m_Rig_bars ?_
  unfold b_m_Rig_bars
  repeat' fail
  rfl
theorem s_pieces (n : Nat) (f : Fl) [f.Ro] (R : RigS) : CIs ((Iof PL (n + 1)).run f_m_Rig_pieces [eR f R]) fun t ios => t = .lst .own ((R.pieces.map (·.1)).map T.str) := by
  refine en_m_Rig_pieces ?_
  unfold b_m_Rig_pieces
  repeat' fail
  rfl
theorem s_bays (n : Nat) (f : Fl) [f.Ro] (R : RigS) : CIs ((Iof PL (n + 1)).run f_m_Rig_bays [eR f R]) fun t ios => t = .lst .own ((R.bays.map (·.1)).map T.str) := by
  refine en_m_Rig_bays ?_
  unfold b_m_Rig_bays
  repeat' fail
  rfl
theorem s_bay (n : Nat) (f : Fl) [f.Ro] (R : RigS) {s : Str} {l : List Str} (h : R.bays.lookup s = some l) : CIs ((Iof PL (n + 1)).run f_m_Rig_bay [eR f R, .str s]) fun t ios => t = .lst .own (l.map T.str) := by
  refine en_m_Rig_bay ?_
  unfold b_m_Rig_bay
  repeat' fail
  · refine x_dic h ?_
    unfold eT
    repeat' fail
    rfl
  · rename_i z; rw [h] at z; cases z
theorem s_of_bar (n : Nat) (f : Fl) [f.Ro] (R : RigS) {s : Str} {l : List Int} {k : Int} {x : Int} (h : R.bars.lookup s = some l) (k0 : 0 ≤ k) (hk : l[k.toNat]? = some x) : CIs ((Iof PL (n + 1)).run f_m_Rig_of_bar [eR f R, .str s, .int k]) fun t ios => t = .int x := by
  refine en_m_Rig_of_bar ?_
  unfold b_m_Rig_of_bar
  repeat' fail
  · refine x_dic h ?_
    obtain ⟨hl, he⟩ := List.getElem?_eq_some_iff.mp hk
    unfold eI
    repeat' fail
    refine x_lst (e := T.int) k0 hl ?_
    rw [he]
    repeat' fail
    rfl
  · rename_i z; rw [h] at z; cases z
theorem s_of_piece (n : Nat) (f : Fl) [f.Ro] (R : RigS) {s : Str} {l : List Int} {k : Int} {x : Int} (h : R.pieces.lookup s = some l) (k0 : 0 ≤ k) (hk : l[k.toNat]? = some x) : CIs ((Iof PL (n + 1)).run f_m_Rig_of_piece [eR f R, .str s, .int k]) fun t ios => t = .int x := by
  refine en_m_Rig_of_piece ?_
  unfold b_m_Rig_of_piece
  repeat' fail
  · refine x_dic h ?_
    obtain ⟨hl, he⟩ := List.getElem?_eq_some_iff.mp hk
    unfold eI
    repeat' fail
    refine x_lst (e := T.int) k0 hl ?_
    rw [he]
    repeat' fail
    rfl
  · rename_i z; rw [h] at z; cases z
theorem s_at (n : Nat) (f : Fl) [f.Ro] (R : RigS) {s : Str} {a b c d u v : Int} (h : R.bars.lookup s = some [a, b, c, d, u, v]) : CIs ((Iof PL (n + 2)).run f_m_Rig_at [eR f R, .str s]) fun t ios => t = .int b := by
  refine en_m_Rig_at ?_
  unfold b_m_Rig_at
  repeat' fail
  refine CIs.imp (s_of_bar n f R h (by decide) rfl) ?_
  rintro _ _ rfl
  repeat' fail
  rfl
theorem s_room (n : Nat) (f : Fl) [f.Ro] (R : RigS) {s : Str} {a b c d u v : Int} (h : R.bars.lookup s = some [a, b, c, d, u, v]) : CIs ((Iof PL (n + 2)).run f_m_Rig_room [eR f R, .str s]) fun t ios => t = .int c := by
  refine en_m_Rig_room ?_
  unfold b_m_Rig_room
  repeat' fail
  refine CIs.imp (s_of_bar n f R h (by decide) rfl) ?_
  rintro _ _ rfl
  repeat' fail
  rfl
theorem s_pull (n : Nat) (f : Fl) [f.Ro] (R : RigS) {s : Str} {a b c d u v : Int} (h : R.bars.lookup s = some [a, b, c, d, u, v]) : CIs ((Iof PL (n + 2)).run f_m_Rig_pull [eR f R, .str s]) fun t ios => t = .int d := by
  refine en_m_Rig_pull ?_
  unfold b_m_Rig_pull
  repeat' fail
  refine CIs.imp (s_of_bar n f R h (by decide) rfl) ?_
  rintro _ _ rfl
  repeat' fail
  rfl
theorem s_slack (n : Nat) (f : Fl) [f.Ro] (R : RigS) {s : Str} {a b c d u v : Int} (h : R.bars.lookup s = some [a, b, c, d, u, v]) : CIs ((Iof PL (n + 2)).run f_m_Rig_slack [eR f R, .str s]) fun t ios => t = .int u := by
  refine en_m_Rig_slack ?_
  unfold b_m_Rig_slack
  repeat' fail
  refine CIs.imp (s_of_bar n f R h (by decide) rfl) ?_
  rintro _ _ rfl
  repeat' fail
  rfl
theorem s_hold (n : Nat) (f : Fl) [f.Ro] (R : RigS) {s : Str} {a b c d u v : Int} (h : R.bars.lookup s = some [a, b, c, d, u, v]) : CIs ((Iof PL (n + 2)).run f_m_Rig_hold [eR f R, .str s]) fun t ios => t = .int v := by
  refine en_m_Rig_hold ?_
  unfold b_m_Rig_hold
  repeat' fail
  refine CIs.imp (s_of_bar n f R h (by decide) rfl) ?_
  rintro _ _ rfl
  repeat' fail
  rfl
theorem s_weight (n : Nat) (f : Fl) [f.Ro] (R : RigS) {s : Str} {a b : Int} (h : R.pieces.lookup s = some [a, b]) : CIs ((Iof PL (n + 2)).run f_m_Rig_weight [eR f R, .str s]) fun t ios => t = .int a := by
  refine en_m_Rig_weight ?_
  unfold b_m_Rig_weight
  repeat' fail
  refine CIs.imp (s_of_piece n f R h (by decide) rfl) ?_
  rintro _ _ rfl
  repeat' fail
  rfl
def wOf (R : RigS) (s : Str) : Int := ((R.pieces.lookup s).getD []).getD 0 0
def dOf (R : RigS) (s : Str) : Int := ((R.pieces.lookup s).getD []).getD 1 0
def barN (R : RigS) (b : Str) (k : Nat) : Int := ((R.bars.lookup b).getD []).getD k 0
def Knows (R : RigS) (ps : List Str) : Prop := ∀ p ∈ ps, (R.pieces.lookup p).isSome = true
def loadOf (R : RigS) (ps : List Str) : Int := (ps.map (wOf R)).sum
def dropOf (R : RigS) (ps : List Str) : Int := (ps.map (dOf R)).foldl max 0
def pullOf (R : RigS) (b : Str) (ps : List Str) : Int := barN R b 3 * loadOf R ps
def leanOf (R : RigS) (b : Str) (ps : List Str) (k p : Int) : Int := pullOf R b ps - k * p
theorem pc_of {R : RigS} (hR : R.Ok) {s : Str} (h : (R.pieces.lookup s).isSome = true) : R.pieces.lookup s = some [wOf R s, dOf R s] ∧ (1 ≤ wOf R s ∧ wOf R s ≤ 1000000000000) ∧ (0 ≤ dOf R s ∧ dOf R s ≤ 60) := by
  cases e : R.pieces.lookup s with
  | none => rw [e] at h; cases h
  | some l =>
    obtain ⟨w, d, e2, h1, h2⟩ := hR.pb _ (look_mem e)
    dsimp only at e2
    subst e2
    unfold wOf dOf
    rw [e]
    exact ⟨rfl, h1, h2⟩
theorem br_of {R : RigS} (hR : R.Ok) {s : Str} (h : (R.bars.lookup s).isSome = true) : R.bars.lookup s = some [barN R s 0, barN R s 1, barN R s 2, barN R s 3, barN R s 4, barN R s 5] ∧
    (1 ≤ barN R s 0 ∧ barN R s 0 ≤ 60) ∧ (0 ≤ barN R s 1 ∧ barN R s 1 ≤ barN R s 0) ∧ (0 ≤ barN R s 2 ∧ barN R s 2 ≤ 60) ∧ (1 ≤ barN R s 3 ∧ barN R s 3 ≤ 2) ∧ (0 ≤ barN R s 4 ∧ barN R s 4 ≤ barN R s 5) ∧ barN R s 5 ≤ 1000000000000000 := by
  cases e : R.bars.lookup s with
  | none => rw [e] at h; cases h
  | some l =>
    obtain ⟨a, b, c, d, u, v, e2, h1⟩ := hR.bb _ (look_mem e)
    dsimp only at e2
    subst e2
    unfold barN
    rw [e]
    exact ⟨rfl, h1⟩
theorem load_bd {R : RigS} (hR : R.Ok) : ∀ {ps : List Str}, Knows R ps → 0 ≤ loadOf R ps ∧ loadOf R ps ≤ 1000000000000 * ps.length
  | [], _ => by simp [loadOf]
  | p :: r, h => by
    have h1 := load_bd hR (ps := r) fun q hq => h q (List.mem_cons_of_mem _ hq)
    have h2 := (pc_of hR (h p List.mem_cons_self)).2.1
    unfold loadOf at *
    rw [List.map_cons, List.sum_cons, List.length_cons]
    push_cast
    omega
theorem filt_true {α : Type} (xs : List α) : (xs.filter fun _ => true) = xs := List.filter_eq_self.mpr fun _ _ => rfl
theorem s_load_of (n : Nat) (f g : Fl) [f.Ro] [g.Ro] (R : RigS) (hR : R.Ok) (ps : List Str) (hk : Knows R ps) (hl : ps.length ≤ LIM) : CIs ((Iof PL (n + 3)).run f_load_of [eR f R, eS g ps]) fun t ios => t = .int (loadOf R ps) := by
  refine en_load_of ?_
  unfold b_load_of
  repeat' fail
  refine l_map (env := [some (eR f R), some (eS g ps), none]) T.str T.int ps (fun _ => true) (wOf R) hl (fun x hx => ?_) ?_
  · repeat' fail
    refine ⟨rfl, fun _ => ?_, fun h => nomatch h⟩
    repeat' fail
    refine CIs.imp (s_weight n f R (pc_of hR (hk x hx)).1) ?_
    rintro _ _ rfl
    repeat' fail
    exact ⟨rfl, rfl, rfl⟩
  · repeat' fail
    rw [filt_true]; rfl
theorem fold_max_le : ∀ (xs : List Int) (a : Int), a ≤ xs.foldl max a
  | [], a => Int.le_refl a
  | x :: r, a => Int.le_trans (Int.le_max_left a x) (fold_max_le r (max a x))
theorem drop_bd {R : RigS} (hR : R.Ok) {ps : List Str} (h : Knows R ps) : 0 ≤ dropOf R ps ∧ dropOf R ps ≤ 60 := by
  refine ⟨fold_max_le _ _, ?_⟩
  unfold dropOf
  have key : ∀ (ps : List Str) (a : Int), (∀ p ∈ ps, (R.pieces.lookup p).isSome = true) → a ≤ 60 → (ps.map (dOf R)).foldl max a ≤ 60 := fun ps => by
    induction ps with
    | nil => intro a _ h; exact h
    | cons p r ih =>
      intro a h ha
      rw [List.map_cons, List.foldl_cons]
      have := (pc_of hR (h p List.mem_cons_self)).2.2
      exact ih _ (fun q hq => h q (List.mem_cons_of_mem _ hq)) (by omega)
  exact key ps 0 h (by decide)
theorem mxOr_fold : ∀ {xs : List Int}, (∀ x ∈ xs, 0 ≤ x) → mxOr 0 xs = xs.foldl max 0
  | [], _ => rfl
  | x :: r, h => by
    show r.foldl max x = r.foldl max (max 0 x)
    have := h x List.mem_cons_self
    rw [show max 0 x = x by omega]
theorem s_pull_of (n : Nat) (f g : Fl) [f.Ro] [g.Ro] (R : RigS) (hR : R.Ok) (b : Str) (hb : (R.bars.lookup b).isSome = true) (ps : List Str) (hk : Knows R ps) (hl : ps.length ≤ 1000000) : CIs ((Iof PL (n + 4)).run f_pull_of [eR f R, .str b, eS g ps]) fun t ios => t = .int (pullOf R b ps) := by
  refine en_pull_of ?_
  unfold b_pull_of
  obtain ⟨h1, h2⟩ := br_of hR hb
  have h3 := load_bd hR hk
  repeat' fail
  refine CIs.imp (s_pull (n + 1) f R h1) ?_
  rintro _ _ rfl
  repeat' fail
  refine CIs.imp (s_load_of n f g R hR ps hk (by simp only [LIM]; omega)) ?_
  rintro _ _ rfl
  repeat' fail
  · exact mulB (by omega) (by omega)
  · rfl
theorem pull_bd {R : RigS} (hR : R.Ok) {b : Str} (hb : (R.bars.lookup b).isSome = true) {ps : List Str} (h : Knows R ps) : 0 ≤ pullOf R b ps ∧ pullOf R b ps ≤ 2000000000000 * ps.length := by
  have h3 := load_bd hR h
  obtain ⟨h1, h2⟩ := br_of hR hb
  unfold pullOf
  rcases (show barN R b 3 = 1 ∨ barN R b 3 = 2 by omega) with e | e <;> rw [e] <;> omega
/-- what a row of the law is -/
structure Row (b : Int) (r : List Int) : Prop where
  b01 : b = 0 ∨ b = 1
  len : r.length ≤ 2600
  bd : ∀ x ∈ r, 0 ≤ x ∧ x < 10 ^ 12
theorem s_row (n : Nat) (ns : List Int) (hl : ns.length ≤ 63) : CIs ((Iof PL (n + 1)).run f_q_row [.scr ns]) fun t ios => ∃ b r, t = .lst .own ((b :: r).map T.int) ∧ Row b r := by
  refine en_q_row ?_
  unfold b_q_row
  refine s_cut (fun e => ∃ b : Int, e = [some (.scr ns), some (.lst .own ([b].map T.int)), none, none, none, none] ∧ (b = 0 ∨ b = 1)) ?_ ?_
  · repeat' fail
    · refine x_scr (by omega) (by omega) ?_
      repeat' fail
      exact ⟨_, rfl, by split <;> simp⟩
    · exact ⟨_, rfl, .inl rfl⟩
  rintro _ ⟨b, rfl, hb⟩
  repeat' fail
  rw [enuT_map]
  refine l_for _ ((cutA ns none (some 63)).zipIdx 0) (fun d r e => ∃ (xs : List Int) (u v w z : Option T), e = [some (.scr ns), some (.lst .own ((b :: xs).map T.int)), u, v, w, z] ∧ xs.length ≤ 40 * d.length ∧ ∀ x ∈ xs, 0 ≤ x ∧ x < 10 ^ 12) ?_ ?_ ?_
  · exact ⟨[], none, none, none, none, rfl, by simp, by simp⟩
  · rintro d ⟨x, j⟩ r _ hd ⟨xs, u, v, w, z, rfl, hx, hxb⟩
    have hd' := congrArg List.length hd
    have hcl := cutA_len (xs := ns) (lo := none) (hi := some 63)
    simp at hd'
    repeat' fail
    refine s_cut (fun e => ∃ (y : Int) (u v z : Option T), e = [some (.scr ns), some (.lst .own ((b :: xs).map T.int)), u, v, some (.int y), z]) ?_ ?_
    · repeat' fail
      all_goals exact ⟨_, _, _, _, rfl⟩
    rintro _ ⟨y, u, v, z, rfl⟩
    repeat' fail
    · exact mulB (by decide) (by omega)
    refine ⟨by unfold int62; omega, ?_⟩
    refine l_rng (fun k e => ∃ (y : Int) (zs : List Int) (u v z : Option T), e = [some (.scr ns), some (.lst .own ((b :: zs).map T.int)), u, v, some (.int y), z] ∧ zs.length = xs.length + k ∧ ∀ x ∈ zs, 0 ≤ x ∧ x < 10 ^ 12) ?_ ?_ ?_
    · exact ⟨y, xs, _, _, _, rfl, rfl, hxb⟩
    · rintro k _ hk ⟨y, zs, u, v, z, rfl, hz, hzb⟩
      repeat' fail
      all_goals try (simp only [LIM, List.length_cons]; omega)
      refine ⟨_, zs ++ [y % 10 ^ (12 : Int).toNat], _, _, _, rfl, by simp [hz]; omega, fun x hx => ?_⟩
      rcases List.mem_append.mp hx with h | h
      · exact hzb x h
      · rw [List.mem_singleton.mp h]
        exact ⟨Int.emod_nonneg _ (by decide), Int.emod_lt_of_pos y (by decide)⟩
    · rintro _ ⟨y, zs, u, v, z, rfl, hz, hzb⟩
      repeat' fail
      exact ⟨zs, _, _, _, _, rfl, by simp; omega, hzb⟩
  · rintro _ ⟨xs, u, v, w, z, rfl, hx, hxb⟩
    have hcl := cutA_len (xs := ns) (lo := none) (hi := some 63)
    repeat' fail
    exact ⟨b, xs, rfl, hb, by simp at hx; omega, hxb⟩
theorem s_draw (n : Nat) (f : Fl) [f.Ro] (b : Int) (r : List Int) (R : Row b r) (k : Int) (k0 : 0 ≤ k) (k1 : k ≤ 10 ^ 9) (m : Int) (m0 : 0 < m) : CIs ((Iof PL (n + 1)).run f_q_draw [.lst f ((b :: r).map T.int), .int k, .int m]) fun t ios => ∃ x : Int, t = .int x ∧ 0 ≤ x ∧ x < m := by
  refine en_q_draw ?_
  unfold b_q_draw
  repeat' fail
  refine s_cut (fun e => ∃ x : Int, e = [some (.lst f ((b :: r).map T.int)), some (.int k), some (.int m), some (.int x)] ∧ 0 ≤ x ∧ x < 10 ^ 12) ?_ ?_
  · repeat' fail
    · simp at *; omega
    · rename_i h
      have hr : (0 : Int) < r.length := by simp at h; omega
      have e1 : (((b :: r).length : Nat) : Int) - 1 = r.length := by simp
      rw [e1]
      have h1 := Int.emod_nonneg k (show (r.length : Int) ≠ 0 by omega)
      have h2 := Int.emod_lt_of_pos k hr
      refine x_lst (by omega) (by simp; omega) ?_
      repeat' fail
      refine ⟨_, rfl, ?_⟩
      obtain ⟨j, hj⟩ : ∃ j : Nat, (1 + k % (r.length : Int)).toNat = j + 1 := ⟨(k % (r.length : Int)).toNat, by omega⟩
      have hj2 : j < r.length := by omega
      have : (b :: r)[(1 + k % (r.length : Int)).toNat]'(by simp; omega) = r[j] := by
        simp only [hj, List.getElem_cons_succ]
      rw [this]
      exact R.bd _ (List.getElem_mem hj2)
    · exact ⟨_, rfl, by decide, by decide⟩
  rintro _ ⟨x, rfl, x0, x1⟩
  repeat' fail
  refine s_cut (fun e => ∃ x : Int, e = [some (.lst f ((b :: r).map T.int)), some (.int k), some (.int m), some (.int x)] ∧ 0 ≤ x ∧ x < 10 ^ 12) ?_ ?_
  · repeat' fail
    all_goals try exact mulB (by omega) (by omega)
    · exact ⟨_, rfl, by omega⟩
    · exact ⟨_, rfl, x0, x1⟩
  rintro _ ⟨x, rfl, x0, x1⟩
  repeat' fail
  · exact m0
  · exact ⟨Int.emod_nonneg _ (by omega), Int.emod_lt_of_pos _ m0⟩
theorem s_great (n : Nat) (f : Fl) [f.Ro] (b : Int) (r : List Int) (R : Row b r) (k : Int) (k0 : 0 ≤ k) (k1 : k ≤ 10 ^ 8) (m : Int) (m0 : 0 < m) : CIs ((Iof PL (n + 2)).run f_q_great [.lst f ((b :: r).map T.int), .int k, .int m]) fun t ios => ∃ x : Int, t = .int x ∧ 0 ≤ x ∧ x < m := by
  refine en_q_great ?_
  unfold b_q_great
  repeat' fail
  refine ⟨by decide, ?_⟩
  refine l_rng (fun j e => ∃ (x : Int) (u : Option T), e = [some (.lst f ((b :: r).map T.int)), some (.int k), some (.int m), some (.int x), u] ∧ 0 ≤ x ∧ x < 10 ^ (12 * j)) ?_ ?_ ?_
  · exact ⟨_, _, rfl, by decide, by decide⟩
  · rintro j _ hj ⟨x, u, rfl, x0, x1⟩
    have hx : x < 10 ^ 72 := Int.lt_of_lt_of_le x1 (by
      have : j = 0 ∨ j = 1 ∨ j = 2 ∨ j = 3 ∨ j = 4 ∨ j = 5 := by omega
      rcases this with rfl | rfl | rfl | rfl | rfl | rfl <;> decide)
    have fin : ∀ (c y : Int), 0 ≤ c → c ≤ 10 ^ 12 → 0 ≤ y → y < 10 ^ 12 → 0 ≤ x * c + y ∧ x * c + y < 10 ^ (12 * (j + 1)) := by
      intro c y c0 c1 y0 y1
      have h1 : 0 ≤ x * c := Int.mul_nonneg x0 c0
      have h2 : x * c ≤ (10 ^ (12 * j) - 1) * 10 ^ 12 := Int.mul_le_mul (by omega) c1 c0 (by have := Int.lt_of_le_of_lt x0 x1; omega)
      have h3 : (10 : Int) ^ (12 * (j + 1)) = 10 ^ (12 * j) * 10 ^ 12 := by rw [← Int.pow_add, Nat.mul_add]
      rw [h3]
      rw [Int.sub_mul] at h2
      omega
    have hb := R.b01
    repeat' fail
    refine x_lst (xs := [1000003, 10 ^ (12 : Int).toNat]) (by omega) (by simp; omega) ?_
    have hc : ∀ c ∈ [(1000003 : Int), 10 ^ (12 : Int).toNat], 0 ≤ c ∧ c ≤ 10 ^ 12 := by decide
    replace hc := hc _ (List.getElem_mem (n := b.toNat) (by simp; omega))
    generalize [(1000003 : Int), 10 ^ (12 : Int).toNat][b.toNat]'(by simp; omega) = c at hc
    repeat' fail
    · exact mulB (by omega) (by omega)
    refine CIs.imp (s_draw n f b r R (k + (0 + (j : Int))) (by omega) (by omega) _ (by decide)) ?_
    rintro _ _ ⟨y, rfl, y0, y1⟩
    repeat' fail
    exact ⟨_, _, rfl, fin c y hc.1 hc.2 y0 y1⟩
  · rintro _ ⟨x, u, rfl, x0, x1⟩
    repeat' fail
    · exact m0
    · exact ⟨Int.emod_nonneg _ (by omega), Int.emod_lt_of_pos _ m0⟩
theorem s_rowL (n : Nat) (f : Fl) [f.Ro] (ns : List Int) : CIs ((Iof PL (n + 1)).run f_q_row [.lst f (ns.map T.int)]) fun t ios => ∃ b r, t = .lst .own ((b :: r).map T.int) ∧ Row b r := by
  refine en_q_row ?_
  unfold b_q_row
  refine s_cut (fun e => ∃ b : Int, e = [some (.lst f (ns.map T.int)), some (.lst .own ([b].map T.int)), none, none, none, none] ∧ (b = 0 ∨ b = 1)) ?_ ?_
  · repeat' fail
    · refine x_lst (by omega) (by omega) ?_
      repeat' fail
      exact ⟨_, rfl, by split <;> simp⟩
    · exact ⟨_, rfl, .inl rfl⟩
  rintro _ ⟨b, rfl, hb⟩
  repeat' fail
  rw [enuT_map]
  refine l_for _ ((cutA ns none (some 63)).zipIdx 0) (fun d r e => ∃ (xs : List Int) (u v w z : Option T), e = [some (.lst f (ns.map T.int)), some (.lst .own ((b :: xs).map T.int)), u, v, w, z] ∧ xs.length ≤ 40 * d.length ∧ ∀ x ∈ xs, 0 ≤ x ∧ x < 10 ^ 12) ?_ ?_ ?_
  · exact ⟨[], none, none, none, none, rfl, by simp, by simp⟩
  · rintro d ⟨x, j⟩ r _ hd ⟨xs, u, v, w, z, rfl, hx, hxb⟩
    have hd' := congrArg List.length hd
    have hcl : (cutA ns none (some 63)).length ≤ 63 := by rw [show cutA ns none (some (63 : Int)) = ns.take 63 from cutA_take (k := 63), List.length_take]; omega
    simp at hd'
    repeat' fail
    refine s_cut (fun e => ∃ (y : Int) (u v z : Option T), e = [some (.lst f (ns.map T.int)), some (.lst .own ((b :: xs).map T.int)), u, v, some (.int y), z]) ?_ ?_
    · repeat' fail
      all_goals exact ⟨_, _, _, _, rfl⟩
    rintro _ ⟨y, u, v, z, rfl⟩
    repeat' fail
    · exact mulB (by decide) (by omega)
    refine ⟨by unfold int62; omega, ?_⟩
    refine l_rng (fun k e => ∃ (y : Int) (zs : List Int) (u v z : Option T), e = [some (.lst f (ns.map T.int)), some (.lst .own ((b :: zs).map T.int)), u, v, some (.int y), z] ∧ zs.length = xs.length + k ∧ ∀ x ∈ zs, 0 ≤ x ∧ x < 10 ^ 12) ?_ ?_ ?_
    · exact ⟨y, xs, _, _, _, rfl, rfl, hxb⟩
    · rintro k _ hk ⟨y, zs, u, v, z, rfl, hz, hzb⟩
      repeat' fail
      all_goals try (simp only [LIM, List.length_cons]; omega)
      refine ⟨_, zs ++ [y % 10 ^ (12 : Int).toNat], _, _, _, rfl, by simp [hz]; omega, fun x hx => ?_⟩
      rcases List.mem_append.mp hx with h | h
      · exact hzb x h
      · rw [List.mem_singleton.mp h]
        exact ⟨Int.emod_nonneg _ (by decide), Int.emod_lt_of_pos y (by decide)⟩
    · rintro _ ⟨y, zs, u, v, z, rfl, hz, hzb⟩
      repeat' fail
      exact ⟨zs, _, _, _, _, rfl, by simp; omega, hzb⟩
  · rintro _ ⟨xs, u, v, w, z, rfl, hx, hxb⟩
    have hcl : (cutA ns none (some 63)).length ≤ 63 := by rw [show cutA ns none (some (63 : Int)) = ns.take 63 from cutA_take (k := 63), List.length_take]; omega
    repeat' fail
    exact ⟨b, xs, rfl, hb, by simp at hx; omega, hxb⟩
/-! names -/
class ToInts (ts : List T) (xs : outParam (List Int)) : Prop where h : ts = xs.map T.int
instance : ToInts [] [] := ⟨rfl⟩
instance {i : Int} {ts : List T} {xs : List Int} [k : ToInts ts xs] : ToInts (.int i :: ts) (i :: xs) := ⟨by rw [k.h]; rfl⟩
theorem q_memI {f : Fl} {ts : List T} {xs : List Int} {i : Int} {Q : T → Prop} (m : ToInts ts xs) (h0 : 0 ≤ i) (hl : i.toNat < xs.length) (h : ∀ v ∈ xs, Q (.int v)) : OpK (idxT (.lst f ts) (.int i)) Q := by
  rw [m.h]
  exact x_lst h0 hl (h _ (List.getElem_mem hl))
instance {xs : List Int} : ToInts (xs.map T.int) xs := ⟨rfl⟩
instance {ts us : List T} {xs ys : List Int} [a : ToInts ts xs] [b : ToInts us ys] : ToInts (ts ++ us) (xs ++ ys) := ⟨by rw [a.h, b.h, List.map_append]⟩
theorem o_catI {f g : Fl} {ts us : List T} {xs ys : List Int} {Q : T → Prop} (m : ToInts ts xs) (m' : ToInts us ys) (hl : xs.length + ys.length ≤ 16777216) (h : Q (.lst .own ((xs ++ ys).map T.int))) : OpK (bopT .Add (.lst f ts) (.lst g us)) Q := by
  rw [m.h, m'.h]
  exact o_appi hl h
theorem o_p12 {Q : T → Prop} (h : Q (.int 1000000000000)) : OpK (bopT .Pow (.int 10) (.int 12)) Q := o_pow (by unfold CPow; decide) h
theorem o_p15 {Q : T → Prop} (h : Q (.int 1000000000000000)) : OpK (bopT .Pow (.int 10) (.int 15)) Q := o_pow (by unfold CPow; decide) h
theorem k_intbX {b : Bool} {Q : T → Prop} (h : ∀ i : Int, 0 ≤ i ∧ i ≤ 1 → Q (.int i)) : OpK (bltT "int" [.bl b]) Q := k_intb (h _ (by split <;> omega))
theorem o_mulP {p j : Int} {Q : T → Prop} (hp : 1 ≤ p ∧ p ≤ 1000000000000) (hj : 0 ≤ j ∧ j ≤ 100) (h : ∀ v : Int, (0 ≤ v ∧ v ≤ p * 100) ∧ (1 ≤ j → p ≤ v) → Q (.int v)) : OpK (bopT .Mult (.int p) (.int j)) Q := by
  have h1 := Int.mul_nonneg (show 0 ≤ p by omega) hj.1
  have h2 : p * j ≤ p * 100 := Int.mul_le_mul_of_nonneg_left hj.2 (by omega)
  exact o_mul (mulB (by omega) (by omega)) (h _ ⟨⟨h1, h2⟩, fun z => by have := Int.mul_le_mul_of_nonneg_left z (show 0 ≤ p by omega); omega⟩)
theorem c_draw {n : Nat} {f : Fl} [f.Ro] {b : Int} {r : List Int} {k m : Int} {Q : T → List T → Prop} {E : Xn → List T → Prop} (R : Row b r) (k0 : 0 ≤ k) (k1 : k ≤ 10 ^ 9) (m0 : 0 < m) (h : ∀ (x : Int) (ios : List T), 0 ≤ x ∧ x < m → Q (.int x) ios) : CIs ((Iof PL (n + 1)).run f_q_draw [.lst f ((b :: r).map T.int), .int k, .int m]) Q E :=
  CIs.imp (s_draw n f b r R k k0 k1 m m0) fun _ ios ⟨x, e, h0, h1⟩ => e ▸ h x ios ⟨h0, h1⟩
theorem c_great {n : Nat} {f : Fl} [f.Ro] {b : Int} {r : List Int} {k m : Int} {Q : T → List T → Prop} {E : Xn → List T → Prop} (R : Row b r) (k0 : 0 ≤ k) (k1 : k ≤ 10 ^ 8) (m0 : 0 < m) (h : ∀ (x : Int) (ios : List T), 0 ≤ x ∧ x < m → Q (.int x) ios) : CIs ((Iof PL (n + 2)).run f_q_great [.lst f ((b :: r).map T.int), .int k, .int m]) Q E :=
  CIs.imp (s_great n f b r R k k0 k1 m m0) fun _ ios ⟨x, e, h0, h1⟩ => e ▸ h x ios ⟨h0, h1⟩
local macro_rules
| `(tactic| fail) => `(tactic| first
  | ((with_reducible show CIs (CI.run _ f_q_draw _) _ _); with_reducible refine c_draw (by assumption) (by first | omega | (simp only [List.length_map]; omega)) (by first | omega | (simp only [List.length_map]; omega)) (by first | decide | omega | (simp only [List.length_map]; omega)) fun _ _ _ => ?_)
  | ((with_reducible show CIs (CI.run _ f_q_great _) _ _); with_reducible refine c_great (by assumption) (by omega) (by omega) (by first | decide | omega) fun _ _ _ => ?_)
  | ((with_reducible show OpK (bltT "int" [.bl _]) _); refine k_intbX fun _ _ => ?_)
  | ((with_reducible show _ < LIM); (simp only [LIM, List.length_map, List.length_cons, List.length_nil, List.length_append]); omega)
  | ((with_reducible show _ ≤ LIM); (simp only [LIM, List.length_map, List.length_cons, List.length_nil, List.length_append]); omega)
  | with_reducible refine o_p12 ?_
  | with_reducible refine o_p15 ?_
  | ((with_reducible show OpK (bopT .Add (.lst _ _) (.lst _ _)) _); (with_reducible refine' o_catI ?a ?b ?c ?d); (case a => infer_instance); (case b => infer_instance); (case c => exact Nat.le_of_ble_eq_true rfl))
  | ((with_reducible show OpK (bopT .Mult _ _) _); with_reducible refine o_mulP (by assumption) (by omega) fun _ _ => ?_)
  | ((with_reducible show OpK (bopT .Mult _ _) _); with_reducible refine o_mul (mulB (by omega) (by omega)) ?_)
  | ((with_reducible show OpK (idxT _ _) _); (with_reducible refine' x_rfl ?a ?h); (case a => exact rfl))
  | ((with_reducible show OpK (idxT (.lst _ _) (.int _)) _); (with_reducible refine' q_memI ?a ?b ?c fun _ hv => ?d); (case a => infer_instance); (case b => omega); (case c => (simp only [List.length_append, List.length_cons, List.length_nil]; omega)); (simp only [List.cons_append, List.nil_append, List.mem_cons, List.not_mem_nil, or_false] at hv))
  | done)
/-- a bar's numbers, as drawn -/
theorem s_qbar (n : Nat) (f : Fl) [f.Ro] (b : Int) (r : List Int) (R : Row b r) (k : Int) (k0 : 0 ≤ k ∧ k ≤ 10 ^ 6) (p : Int) (hp : 1 ≤ p ∧ p ≤ 1000000000000) : CIs ((Iof PL (n + 3)).run f_q_bar [.lst f ((b :: r).map T.int), .int k, .int p]) fun t ios => ∃ l, t = .tup (l.map T.int) ∧ Bar6 l := by
  refine en_q_bar ?_
  unfold b_q_bar
  repeat' fail
  exact ⟨[_, _, _, _, _, _], rfl, _, _, _, _, _, _, rfl, by omega, by omega, by omega, by omega, by omega, by omega⟩
theorem s_qpiece (n : Nat) (f : Fl) [f.Ro] (b : Int) (r : List Int) (R : Row b r) (k : Int) (k0 : 0 ≤ k ∧ k ≤ 10 ^ 6) (p : Int) (hp : 1 ≤ p ∧ p ≤ 1000000000000) : CIs ((Iof PL (n + 3)).run f_q_piece [.lst f ((b :: r).map T.int), .int k, .int p]) fun t ios => ∃ l, t = .tup (l.map T.int) ∧ Pc2 l := by
  refine en_q_piece ?_
  unfold b_q_piece
  repeat' fail
  rename_i x _ _ _ _ _ v _ y _ _ _ _ _
  refine s_cut (fun e => ∃ d : Int, e = [some (.lst f ((b :: r).map T.int)), some (.int k), some (.int p), some (.lst .own ([1 + x, v, 1 + y].map T.int)), some (.int d)] ∧ 0 ≤ d ∧ d ≤ 60) ?_ ?_
  · repeat' fail
    all_goals exact ⟨_, rfl, by omega, by omega⟩
  rintro _ ⟨d, rfl, d0, d1⟩
  repeat' fail
  exact ⟨[_, _], rfl, _, _, rfl, by omega, by omega⟩
structure NamesOk (ns : List Str) (m : Nat) : Prop where
  len : ns.length = m
  nd : ns.Nodup
  ok : ∀ s ∈ ns, nameOk s = true
theorem low_len : lowerL.length = 26 := by decide +kernel
theorem low_nd : lowerL.Nodup := by decide +kernel
theorem low_inj {i j : Nat} (hi : i < lowerL.length) (hj : j < lowerL.length) (h : lowerL[i] = lowerL[j]) : i = j := by
  have key := List.pairwise_iff_getElem.mp low_nd
  rcases Nat.lt_trichotomy i j with z | z | z
  · exact absurd h (key i j hi hj z)
  · exact z
  · exact absurd h.symm (key j i hj hi z)
theorem fold_rep (a : Array Nat) : ∀ (n : Nat) (acc : Array Nat), ((List.replicate n a).foldl (· ++ ·) acc).toList = acc.toList ++ (List.replicate n a.toList).flatten
  | 0, acc => by simp
  | n + 1, acc => by rw [List.replicate_succ, List.foldl_cons, fold_rep a n (acc ++ a), Array.toList_append, List.replicate_succ, List.flatten_cons, List.append_assoc]
theorem flat_one (c : Nat) : ∀ n : Nat, (List.replicate n [c]).flatten = List.replicate n c
  | 0 => rfl
  | n + 1 => by rw [List.replicate_succ, List.flatten_cons, flat_one c n, List.replicate_succ]; rfl
theorem repS_one (c : Nat) (k : Int) : repS ⟨#[c]⟩ k = SX.S (List.replicate k.toNat c) := by
  refine TL.ext_tl ?_
  show ((List.replicate k.toNat #[c]).foldl (· ++ ·) #[]).toList = List.replicate k.toNat c
  rw [fold_rep, flat_one]; simp
/-- a letter, by its place -/
def low (i : Int) : Nat := lowerL.getD (i % 26).toNat 0
theorem low_at (i : Int) : ∃ h : (i % 26).toNat < lowerL.length, low i = lowerL[(i % 26).toNat] := by
  have h : (i % 26).toNat < lowerL.length := by rw [low_len]; have := Int.emod_lt_of_pos i (show (0 : Int) < 26 by decide); have := Int.emod_nonneg i (show (26 : Int) ≠ 0 by decide); omega
  exact ⟨h, by unfold low; rw [List.getD_eq_getElem?_getD, List.getElem?_eq_getElem h]; rfl⟩
theorem low_mem (i : Int) : low i ∈ lowerL := by obtain ⟨h, e⟩ := low_at i; rw [e]; exact List.getElem_mem h
theorem low_eq {i j : Int} (h : low i = low j) : i % 26 = j % 26 := by
  obtain ⟨hi, ei⟩ := low_at i
  obtain ⟨hj, ej⟩ := low_at j
  have := low_inj hi hj (by rw [← ei, ← ej, h])
  have := Int.emod_nonneg i (show (26 : Int) ≠ 0 by decide)
  have := Int.emod_nonneg j (show (26 : Int) ≠ 0 by decide)
  omega
def nmA (first : Int) (j : Nat) : Str := SX.S (List.replicate (1 + j % 8) (low (first + (j / 8 : Nat))))
def nmB (L : List Nat) (at_ : Nat) (first : Int) (j : Nat) : Str := SX.S (L.take at_ ++ low (first + 3 * (j : Nat)) :: L.drop (at_ + 1))
theorem nameOk_S {l : List Nat} (h1 : 1 ≤ l.length) (h8 : l.length ≤ 8) (h : ∀ c ∈ l, c ∈ lowerL) : nameOk (SX.S l) = true := by
  unfold nameOk
  rw [SX.S_len, decide_eq_true h1, decide_eq_true h8]
  exact List.all_eq_true.mpr fun c hc => decide_eq_true (h c hc)
theorem nodup_range {f : Nat → Str} {m : Nat} (h : ∀ i j, i < m → j < m → f i = f j → i = j) : ((List.range m).map f).Nodup := by
  refine List.pairwise_iff_getElem.mpr fun i j hi hj hij e => ?_
  simp at hi hj e
  have := h i j hi hj e
  omega
theorem names_A (first : Int) (m : Nat) (hm : m ≤ 12) : NamesOk ((List.range m).map (nmA first)) m := by
  refine ⟨by simp, nodup_range fun i j hi hj e => ?_, fun s hs => ?_⟩
  · have e := SX.S_inj e
    have hl := congrArg List.length e
    simp at hl
    have hc : low (first + (i / 8 : Nat)) = low (first + (j / 8 : Nat)) := by
      have := congrArg List.head? e
      rw [show 1 + i % 8 = i % 8 + 1 by omega, show 1 + j % 8 = j % 8 + 1 by omega, List.replicate_succ, List.replicate_succ] at this
      simpa using this
    have := low_eq hc
    omega
  · obtain ⟨j, hj, rfl⟩ := List.mem_map.mp hs
    refine nameOk_S (by rw [List.length_replicate]; omega) (by rw [List.length_replicate]; omega) fun c hc => ?_
    rw [List.eq_of_mem_replicate hc]
    exact low_mem _
theorem names_B (L : List Nat) (at_ : Nat) (first : Int) (m : Nat) (hm : m ≤ 12) (h8 : L.length ≤ 8) (ha : at_ < L.length) (hL : ∀ c ∈ L, c ∈ lowerL) : NamesOk ((List.range m).map (nmB L at_ first)) m := by
  refine ⟨by simp, nodup_range fun i j hi hj e => ?_, fun s hs => ?_⟩
  · have e := SX.S_inj e
    have hc : low (first + 3 * (i : Nat)) = low (first + 3 * (j : Nat)) := by
      have := List.append_inj_right e rfl
      exact (List.cons.inj this).1
    have := low_eq hc
    omega
  · obtain ⟨j, hj, rfl⟩ := List.mem_map.mp hs
    refine nameOk_S (by simp only [List.length_append, List.length_take, List.length_cons, List.length_drop]; omega) (by simp only [List.length_append, List.length_take, List.length_cons, List.length_drop]; omega) fun c hc => ?_
    rcases List.mem_append.mp hc with h | h
    · exact hL c (List.mem_of_mem_take h)
    · rcases List.mem_cons.mp h with rfl | h
      · exact low_mem _
      · exact hL c (List.mem_of_mem_drop h)
theorem NamesOk.rev {ns : List Str} {m : Nat} (h : NamesOk ns m) : NamesOk ns.reverse m := ⟨by rw [List.length_reverse, h.len], List.pairwise_reverse.mpr (h.nd.imp fun z => z.symm), fun s hs => h.ok s (List.mem_reverse.mp hs)⟩
theorem joinL_one : ∀ cs : List Nat, TL.joinL [] (cs.map fun c => [c]) = cs
  | [] => rfl
  | [c] => rfl
  | c :: d :: r => by
    show [c] ++ ([] ++ TL.joinL [] ((d :: r).map fun c => [c])) = _
    rw [joinL_one (d :: r)]; rfl
theorem empty_eq : ("" : Str) = SX.S [] := by decide +kernel
theorem join_one (cs : List Nat) : Txt.join "" (cs.map fun c => SX.S [c]) = SX.S cs := by
  have : (cs.map fun c => SX.S [c]) = (cs.map fun c => [c]).map SX.S := by rw [List.map_map]; rfl
  rw [this, empty_eq, SX.join_S, joinL_one]
theorem eC_str (cs : List Nat) : cs.map eC = (cs.map fun c => SX.S [c]).map T.str := by rw [List.map_map]; rfl
theorem x_low {i : Int} {Q : T → Prop} (h0 : 0 ≤ i) (h1 : i < 26) (h : Q (eC (low i))) : OpK (idxT (.str "abcdefghijklmnopqrstuvwxyz") (.int i)) Q := by
  refine x_strE (by decide) h0 (by show i.toNat < lowerL.length; rw [low_len]; omega) ?_
  obtain ⟨hh, e⟩ := low_at i
  have : (i % 26).toNat = i.toNat := by rw [Int.emod_eq_of_lt h0 h1]
  simp only [this] at e
  rw [e] at h
  exact h
theorem low_mod (i : Int) : low (i % 26) = low i := by unfold low; rw [Int.emod_emod]
theorem rng0 (m : Nat) : rngT 0 (m : Int) = (List.range m).map fun k : Nat => T.int (k : Nat) := by
  unfold rngT
  rw [show ((m : Int) - 0).toNat = m by omega]
  exact List.map_congr_left fun k _ => by rw [show (0 : Int) + (k : Nat) = k by omega]
theorem eC_one (c : Nat) : eC c = .str (SX.S [c]) := rfl
theorem sum_one : ∀ cs : List Nat, ((cs.map fun c => SX.S [c]).map (fun x : Str => x.length)).sum = cs.length
  | [] => rfl
  | c :: r => by
    rw [List.map_cons, List.map_cons, List.sum_cons, sum_one r, SX.S_len]
    simp; omega
theorem len_e : ("" : Str).length = 0 := by decide +kernel
theorem cut_to {L : List Nat} {a : Int} (h : 0 ≤ a) : cutS (SX.S L) none (some a) = SX.S (L.take a.toNat) := by rw [C8.cutS_slice, SX.slice_to h]
theorem cut_from {L : List Nat} {a : Int} (h : 0 ≤ a) : cutS (SX.S L) (some a) none = SX.S (L.drop a.toNat) := by rw [C8.cutS_slice, SX.slice_from h]
theorem s_names (n : Nat) (f : Fl) [f.Ro] (b : Int) (r : List Int) (R : Row b r) (k : Int) (k0 : 0 ≤ k ∧ k ≤ 10 ^ 6) (m : Nat) (hm : m ≤ 12) : CIs ((Iof PL (n + 2)).run f_q_names [.lst f ((b :: r).map T.int), .int k, .int m]) fun t ios => ∃ ns, t = .lst .own (ns.map T.str) ∧ NamesOk ns m := by
  refine en_q_names ?_
  unfold b_q_names
  repeat' fail
  refine ⟨by unfold int62; omega, ?_⟩
  rw [rng0]
  rename_i x _ hx
  refine l_map (env := [some (.lst f ((b :: r).map T.int)), some (.int k), some (.int m), some (.str "abcdefghijklmnopqrstuvwxyz"), some (.int x), none, none, none, none, none, none, none]) _ T.str (List.range m) (fun _ => true) (nmA x) (by rw [List.length_range]; simp only [LIM]; omega) (fun j hj => ?_) ?_
  · have hj := List.mem_range.mp hj
    repeat' fail
    refine ⟨rfl, fun _ => ?_, fun h => nomatch h⟩
    repeat' fail
    refine x_low (by omega) (by omega) ?_
    rw [low_mod]
    repeat' fail
    refine o_repS (s := ⟨#[low (x + (j : Int) / 8)]⟩) ?_ ?_
    · unfold CRep; rw [len_one]; omega
    refine ⟨?_, rfl, rfl⟩
    rw [repS_one]
    unfold nmA
    rw [show (1 + (j : Int) % 8).toNat = 1 + j % 8 by omega, show ((j / 8 : Nat) : Int) = (j : Int) / 8 by omega]
  rw [filt_true]
  repeat' fail
  have hL : (T.str "abcdefghijklmnopqrstuvwxyz") = .str "abcdefghijklmnopqrstuvwxyz" := rfl
  refine s_cut (fun e => ∃ (ns : List Str) (u1 u2 u3 u4 u5 u6 : Option T), e = [some (.lst f ((b :: r).map T.int)), some (.int k), some (.int m), some (.str "abcdefghijklmnopqrstuvwxyz"), some (.int x), some (.lst .own (ns.map T.str)), u1, u2, u3, u4, u5, u6] ∧ NamesOk ns m) ?_ ?_
  · repeat' fail
    · rename_i y _ hy _ z _ hz
      refine ⟨by unfold int62; omega, ?_⟩
      obtain ⟨sz, rfl⟩ := Int.eq_ofNat_of_zero_le hz.1
      have es : ((1 : Int) + (sz : Nat)) = ((1 + sz : Nat) : Int) := by omega
      rw [es, rng0]
      refine l_comp (env := [some (.lst f ((b :: r).map T.int)), some (.int k), some (.int m), some (.str "abcdefghijklmnopqrstuvwxyz"), some (.int x), some (.lst .own (((List.range m).map (nmA x)).map T.str)), some (.int ((1 + sz : Nat) : Int)), none, none, none, none, none]) _ (List.range (1 + sz)) (fun d acc => ∃ cs : List Nat, acc = cs.map eC ∧ cs.length = d.length ∧ ∀ c ∈ cs, c ∈ lowerL) ?_ ?_ ?_ ?_ ?_
      · exact ⟨[], rfl, rfl, by simp⟩
      · rintro d acc ⟨cs, rfl, h, _⟩; simp [h]
      · rw [List.length_range]; simp only [LIM]; omega
      · rintro d j q acc hd ⟨cs, rfl, h, hc⟩
        have hj : j < 1 + sz := List.mem_range.mp (by rw [hd]; simp)
        repeat' fail
        refine ⟨fun _ => ?_, fun h => nomatch h⟩
        repeat' fail
        rename_i v _ hv
        refine x_low (by omega) (by omega) ?_
        exact ⟨rfl, rfl, cs ++ [low v], by simp, by simp [h], fun c hc' => by
          rcases List.mem_append.mp hc' with h | h
          · exact hc c h
          · rw [List.mem_singleton.mp h]; exact low_mem v⟩
      · rintro acc ⟨cs, rfl, h, hc⟩
        rw [List.length_range] at h
        rw [eC_str]
        repeat' fail
        refine j_join ?_ ?_
        · rw [sum_one, len_e, h]; simp only [LIM]; omega
        rw [join_one]
        repeat' fail
        · rw [SX.S_len]; simp only [LIM]; omega
        · rw [SX.S_len]; simp only [LIM]; omega
        rename_i a _ ha
        rw [cut_to ha.1, cut_from (by omega)]
        refine ⟨by unfold int62; omega, ?_⟩
        rw [rng0]
        refine l_map (env := [some (.lst f ((b :: r).map T.int)), some (.int k), some (.int m), some (.str "abcdefghijklmnopqrstuvwxyz"), some (.int x), some (.lst .own (((List.range m).map (nmA x)).map T.str)), some (.int ((1 + sz : Nat) : Int)), some (.str (SX.S cs)), some (.int a), some (.str (SX.S (cs.take a.toNat))), some (.str (SX.S (cs.drop (a + 1).toNat))), none]) _ T.str (List.range m) (fun _ => true) (nmB cs a.toNat x) (by rw [List.length_range]; simp only [LIM]; omega) (fun j hj => ?_) ?_
        · have hj := List.mem_range.mp hj
          repeat' fail
          refine ⟨rfl, fun _ => ?_, fun h => nomatch h⟩
          repeat' fail
          refine x_low (by omega) (by omega) ?_
          rw [low_mod, eC_one]
          repeat' fail
          all_goals try (simp only [len_add, SX.S_len, List.length_take, List.length_drop, List.length_cons, List.length_nil, LIM]; omega)
          refine ⟨?_, rfl, rfl⟩
          unfold nmB
          rw [SX.S_cat, SX.S_cat, List.append_assoc, show (a + 1).toNat = a.toNat + 1 by omega]; rfl
        · rw [filt_true]
          repeat' fail
          exact ⟨_, _, _, _, _, _, _, rfl, names_B cs a.toNat x m hm (by omega) (by omega) hc⟩
    · exact ⟨_, _, _, _, _, _, _, rfl, names_A x m hm⟩
  rintro _ ⟨ns, u1, u2, u3, u4, u5, u6, rfl, hns⟩
  refine s_cut (fun e => ∃ (ns : List Str) (u1 u2 u3 u4 u5 u6 : Option T), e = [some (.lst f ((b :: r).map T.int)), some (.int k), some (.int m), some (.str "abcdefghijklmnopqrstuvwxyz"), some (.int x), some (.lst .own (ns.map T.str)), u1, u2, u3, u4, u5, u6] ∧ NamesOk ns m) ?_ ?_
  · repeat' fail
    · exact ⟨ns.reverse, u1, u2, u3, u4, u5, u6, by rw [List.map_reverse]; rfl, hns.rev⟩
    · exact ⟨_, _, _, _, _, _, _, rfl, hns⟩
  rintro _ ⟨ns, u1, u2, u3, u4, u5, u6, rfl, hns⟩
  repeat' fail
  exact ⟨ns, rfl, hns⟩
theorem look_key {α : Type} {xs : List (Str × α)} {s : Str} (h : s ∈ xs.map (·.1)) : (xs.lookup s).isSome = true := by
  induction xs with
  | nil => cases h
  | cons p r ih =>
    obtain ⟨t, a⟩ := p
    rw [List.lookup_cons]
    by_cases e : s = t
    · subst e; simp
    · have e' : (s == t) = false := by simpa using e
      rw [e']
      rw [List.map_cons] at h
      rcases List.mem_cons.mp h with h | h
      · exact absurd h e
      · exact ih h
theorem key_look {α : Type} {xs : List (Str × α)} {s : Str} (h : (xs.lookup s).isSome = true) : s ∈ xs.map (·.1) := by
  obtain ⟨a, ha⟩ := Option.isSome_iff_exists.mp h
  exact List.mem_map.mpr ⟨_, look_mem ha, rfl⟩
theorem pairsT_map : ∀ ps : List (Int × Str), pairsT (ps.map eIS) = some ps
  | [] => rfl
  | (i, s) :: r => by
    show (pairsT (r.map eIS)).map ((i, s) :: ·) = _
    rw [pairsT_map r]; rfl
theorem k_sorted {f : Fl} {ps : List (Int × Str)} {Q : T → Prop} (h : Q (.lst .own ((sortIS ps).map eIS))) : OpK (bltT "sorted" [.lst f (ps.map eIS)]) Q := OpK.of (by
  unfold bltT
  rw [if_neg (by decide), if_neg (by decide), if_neg (by decide), if_neg (by decide), if_neg (by decide), if_neg (by decide), if_neg (by decide), if_neg (by decide), if_neg (by decide), if_neg (by decide), if_neg (by decide), if_pos rfl]
  dsimp only
  rw [pairsT_map]; rfl) h
instance {p : Int × Str} : Nv (eIS p) := inferInstanceAs (Nv (.tup [.int p.1, .str p.2]))
instance {p : Int × Str} : Nb (eIS p) := inferInstanceAs (Nb (.tup [.int p.1, .str p.2]))
instance {g : Fl → Fl} {p : Int × Str} : MapTo g (eIS p) (eIS p) := ⟨rfl⟩
/-- texts that == asks no more of -/
def StrsOk (xs : List Str) : Prop := ∀ s ∈ xs, PyData.strOk s = true
theorem strsD {xs : List Str} (h : StrsOk xs) : PyData.canLayAll0 (T.toDL (xs.map T.str)) = true ∧ PyData.depthAll (T.toDL (xs.map T.str)) = 0 := by
  induction xs with
  | nil => exact ⟨rfl, rfl⟩
  | cons x r ih =>
    obtain ⟨a, b⟩ := ih fun s hs => h s (List.mem_cons_of_mem _ hs)
    rw [List.map_cons, T.toDL, PyData.canLayAll0, PyData.depthAll, a, b]
    exact ⟨by show (PyData.strOk x && true) = true; rw [h x List.mem_cons_self]; rfl, rfl⟩
theorem eqT_strs {f g : Fl} {xs ys : List Str} (hx : StrsOk xs) (hy : StrsOk ys) : eqT (.lst f (xs.map T.str)) (.lst g (ys.map T.str)) = some (decide (xs = ys)) := by
  obtain ⟨a, b⟩ := strsD hx
  obtain ⟨c, d⟩ := strsD hy
  have sh : ∀ {f : Fl} {xs : List Str}, PyData.canLayAll0 (T.toDL (xs.map T.str)) = true → PyData.depthAll (T.toDL (xs.map T.str)) = 0 → SeqAt.shaped (T.lst f (xs.map T.str)).toD = true := fun {f xs} a b => by
    unfold SeqAt.shaped
    show (PyData.canLayAll0 (T.toDL (xs.map T.str)) && decide (PyData.depthAll (T.toDL (xs.map T.str)) + 1 ≤ 64)) = true
    rw [a, b]; rfl
  show (if false = true then _ else if (SeqAt.shaped (T.lst f (xs.map T.str)).toD && SeqAt.shaped (T.lst g (ys.map T.str)).toD) = true then some (PyData.eqv (T.lst f (xs.map T.str)).toD (T.lst g (ys.map T.str)).toD) else none) = _
  rw [if_neg (by simp), sh a b, sh c d]
  have e : EqvT (.lst f (xs.map T.str)) (.lst g (ys.map T.str)) (decide (xs = ys)) := inferInstance
  exact congrArg some e.h
theorem c_eqS {f g : Fl} {xs ys : List Str} {Q : Bool → Prop} (hx : StrsOk xs) (hy : StrsOk ys) (h : Q (decide (xs = ys))) : OpB (cmpT .Eq (.lst f (xs.map T.str)) (.lst g (ys.map T.str))) Q := OpB.of (eqT_strs hx hy) h
theorem c_neS {f g : Fl} {xs ys : List Str} {Q : Bool → Prop} (hx : StrsOk xs) (hy : StrsOk ys) (h : Q (!decide (xs = ys))) : OpB (cmpT .NotEq (.lst f (xs.map T.str)) (.lst g (ys.map T.str))) Q := OpB.of (t := !decide (xs = ys)) (by show (eqT _ _).map _ = _; rw [eqT_strs hx hy]; rfl) h
theorem c_eqS0 {f g : Fl} {xs : List Str} {Q : Bool → Prop} (hx : StrsOk xs) (h : Q (decide (xs = []))) : OpB (cmpT .Eq (.lst f (xs.map T.str)) (.lst g [])) Q := c_eqS (ys := []) hx (fun _ z => nomatch z) h
theorem strOk_name {s : Str} (h : nameOk s = true) : PyData.strOk s = true := by
  unfold nameOk at h
  rw [Bool.and_eq_true, Bool.and_eq_true] at h
  have key : ∀ c ∈ lowerL, c < 128 := by decide +kernel
  have hc : ∀ c ∈ s.cps.toList, c < 128 := fun c hc => key c (of_decide_eq_true (List.all_eq_true.mp h.2.2 c hc))
  show s.cps.all (· < 0x110000) = true
  rw [← Array.all_toList, List.all_eq_true]
  exact fun c h => decide_eq_true (by have := hc c h; omega)
instance {α : Type} {e : α → T} {xs : List α} : EqvL (xs.map e) [] (decide (xs = [])) := ⟨by
  cases xs with
  | nil => rfl
  | cons x r => rw [List.map_cons, T.toDL]; rfl⟩
/-- a bar's numbers in a tuple -/
def eTp (l : List Int) : T := .tup (l.map T.int)
instance {l : List Int} : Nv (eTp l) := inferInstanceAs (Nv (.tup (l.map T.int)))
instance {l : List Int} : Nb (eTp l) := inferInstanceAs (Nb (.tup (l.map T.int)))
instance {g : Fl → Fl} {l : List Int} : MapTo g (eTp l) (eTp l) := ⟨by unfold eTp; rw [T.mapF, map_ints]⟩
/-- a bay's bars, as chosen -/
structure BayOk (bars : List (Str × List Int)) (l : List Str) : Prop where
  mem : ∀ s ∈ l, (bars.lookup s).isSome = true
  up : rises bars l = true
  len : l.length ≤ bars.length
theorem rises_snoc {bars : List (Str × List Int)} : ∀ {l : List Str} {s : Str}, rises bars l = true → (∀ h : l ≠ [], atOf bars (l.getLast h) < atOf bars s) → rises bars (l ++ [s]) = true
  | [], s, _, _ => rfl
  | [a], s, _, h => by
    show (decide (atOf bars a < atOf bars s) && rises bars [s]) = true
    have z : atOf bars a < atOf bars s := h (by simp)
    rw [decide_eq_true z]; rfl
  | a :: b :: r, s, h1, h => by
    rw [rises, Bool.and_eq_true] at h1
    show (decide (atOf bars a < atOf bars b) && rises bars (b :: r ++ [s])) = true
    rw [h1.1, rises_snoc (l := b :: r) h1.2 (fun _ => h (by simp))]; rfl
theorem bar6_at {bars : List (Str × List Int)} (hb : ∀ p ∈ bars, Bar6 p.2) {s : Str} (h : (bars.lookup s).isSome = true) : ∃ a b c d u v, bars.lookup s = some [a, b, c, d, u, v] ∧ atOf bars s = b := by
  obtain ⟨l, hl⟩ := Option.isSome_iff_exists.mp h
  obtain ⟨a, b, c, d, u, v, e, _⟩ := hb _ (look_mem hl)
  dsimp only at e
  subst e
  exact ⟨a, b, c, d, u, v, hl, by unfold atOf; rw [hl]; rfl⟩
theorem s_qbay (n : Nat) (f : Fl) [f.Ro] (b : Int) (r : List Int) (R : Row b r) (k : Int) (k0 : 0 ≤ k ∧ k ≤ 10 ^ 6) (bars : List (Str × List Int)) (hb : ∀ p ∈ bars, Bar6 p.2) (hl : bars.length ≤ 1000) (hn : ∀ p ∈ bars, nameOk p.1 = true) :
    CIs ((Iof PL (n + 2)).run f_q_bay [.lst f ((b :: r).map T.int), .int k, eD .brw eTp bars]) fun t ios => ∃ l, t = .lst .own (l.map T.str) ∧ BayOk bars l := by
  refine en_q_bay ?_
  unfold b_q_bay
  repeat' fail
  rw [keys_map]
  refine l_map (env := [some (.lst f ((b :: r).map T.int)), some (.int k), some (eD .brw eTp bars), none, none, none, none]) T.str eIS (bars.map (·.1)) (fun _ => true) (fun s => (atOf bars s, s)) (by rw [List.length_map]; simp only [LIM]; omega) (fun s hs => ?_) ?_
  · obtain ⟨a1, a2, a3, a4, a5, a6, h1, h2⟩ := bar6_at hb (look_key hs)
    repeat' fail
    refine ⟨rfl, fun _ => ?_, fun h => nomatch h⟩
    repeat' fail
    refine x_dic h1 ?_
    repeat' fail
    refine ⟨?_, rfl, rfl⟩
    rw [h2]; rfl
  rw [filt_true]
  repeat' fail
  refine k_sorted ?_
  have hp := sortIS_perm ((bars.map (·.1)).map fun s => (atOf bars s, s))
  generalize sortIS ((bars.map (·.1)).map fun s => (atOf bars s, s)) = up at hp
  have hup : ∀ q ∈ up, q.1 = atOf bars q.2 ∧ (bars.lookup q.2).isSome = true := fun q hq => by
    obtain ⟨s, hs, rfl⟩ := List.mem_map.mp (hp.mem_iff.mp hq)
    exact ⟨rfl, look_key hs⟩
  have hlen : up.length = bars.length := by rw [hp.length_eq]; simp
  repeat' fail
  refine ⟨by unfold int62; omega, ?_⟩
  refine l_rng (fun j e => ∃ (l : List Str) (u v : Option T), e = [some (.lst f ((b :: r).map T.int)), some (.int k), some (eD .brw eTp bars), some (.lst .frz (up.map eIS)), some (.lst .own (l.map T.str)), u, v] ∧ (∀ s ∈ l, (bars.lookup s).isSome = true) ∧ rises bars l = true ∧ l.length ≤ j) ?_ ?_ ?_
  · exact ⟨[], _, _, rfl, by simp, rfl, by simp⟩
  · rintro j _ hj ⟨l, u, v, rfl, h1, h2, h3⟩
    have hj' : j < up.length := by omega
    have ej : ((0 : Int) + (j : Nat)).toNat = j := by omega
    obtain ⟨q1, q2⟩ := hup up[j] (List.getElem_mem hj')
    have stay : ∀ v : Option T, ∃ (l' : List Str) (u v' : Option T), ([some (.lst f ((b :: r).map T.int)), some (.int k), some (eD .brw eTp bars), some (.lst .frz (up.map eIS)), some (.lst .own (l.map T.str)), some (.int (0 + (j : Int))), v] : VI.Env) = [some (.lst f ((b :: r).map T.int)), some (.int k), some (eD .brw eTp bars), some (.lst .frz (up.map eIS)), some (.lst .own (l'.map T.str)), u, v'] ∧ (∀ s ∈ l', (bars.lookup s).isSome = true) ∧ rises bars l' = true ∧ l'.length ≤ j + 1 := fun v => ⟨l, _, _, rfl, h1, h2, by omega⟩
    have hok : StrsOk l := fun s hs => by
      obtain ⟨a, ha⟩ := Option.isSome_iff_exists.mp (h1 s hs)
      exact strOk_name (hn _ (look_mem ha))
    have next : (∀ h : l ≠ [], atOf bars (l.getLast h) < atOf bars up[j].2) → ∀ v : Option T, ∃ (l' : List Str) (u v' : Option T), ([some (.lst f ((b :: r).map T.int)), some (.int k), some (eD .brw eTp bars), some (.lst .frz (up.map eIS)), some (.lst .own ((l ++ [up[j].2]).map T.str)), some (.int (0 + (j : Int))), v] : VI.Env) = [some (.lst f ((b :: r).map T.int)), some (.int k), some (eD .brw eTp bars), some (.lst .frz (up.map eIS)), some (.lst .own (l'.map T.str)), u, v'] ∧ (∀ s ∈ l', (bars.lookup s).isSome = true) ∧ rises bars l' = true ∧ l'.length ≤ j + 1 := fun hlt v => ⟨l ++ [up[j].2], _, _, rfl, fun s hs => by
        rcases List.mem_append.mp hs with h | h
        · exact h1 s h
        · rw [List.mem_singleton.mp h]; exact q2, rises_snoc h2 hlt, by simp; omega⟩
    repeat' fail
    · refine c_eqS0 hok ?_
      repeat' fail
      · rename_i hz
        subst hz
        refine x_lst (by omega) (by rw [ej]; exact hj') ?_
        simp only [ej]
        repeat' fail
        exact next (fun z => absurd rfl z) _
      · rename_i hz
        obtain ⟨a1, a2, a3, a4, a5, a6, g1, g2⟩ := bar6_at hb (h1 _ (List.getLast_mem hz))
        refine x_lastE hz ?_
        repeat' fail
        refine x_dic g1 ?_
        repeat' fail
        refine x_lst (by omega) (by rw [ej]; exact hj') ?_
        simp only [ej]
        repeat' fail
        · rename_i hlt
          refine x_lst (by omega) (by rw [ej]; exact hj') ?_
          simp only [ej]
          repeat' fail
          have z := next (fun z => by rw [g2, ← q1]; exact hlt) v
          rw [List.map_append] at z
          exact z
        · exact stay _
    · exact stay _
  · rintro _ ⟨l, u, v, rfl, h1, h2, h3⟩
    repeat' fail
    exact ⟨l, rfl, h1, h2, by omega⟩
/-! a rig's lines -/
def numS (i : Int) : Str := toString i
inductive Ln where
  | plate (p : Int) | bar (s : Str) (l : List Int) | piece (s : Str) (l : List Int) | bay (s : Str) (bs : List Str)
def Ln.words : Ln → List Str
  | .plate p => ["plate", numS p]
  | .bar s l => "bar" :: s :: l.map numS
  | .piece s l => "piece" :: s :: l.map numS
  | .bay s bs => "bay" :: s :: bs
def Ln.txt (x : Ln) : Str := Txt.join " " x.words
def Ln.plateOf : Ln → Option Int | .plate p => some p | _ => none
def Ln.barOf : Ln → Option (Str × List Int) | .bar s l => some (s, l) | _ => none
def Ln.pieceOf : Ln → Option (Str × List Int) | .piece s l => some (s, l) | _ => none
def Ln.bayOf : Ln → Option (Str × List Str) | .bay s l => some (s, l) | _ => none
def Ln.Good : Ln → Prop
  | .plate p => 1 ≤ p ∧ p ≤ 1000000000000
  | .bar s l => nameOk s = true ∧ Bar6 l
  | .piece s l => nameOk s = true ∧ Pc2 l
  | .bay s bs => nameOk s = true ∧ (2 ≤ bs.length ∧ bs.length ≤ 8) ∧ ∀ b ∈ bs, nameOk b = true
def OrdOk : List Str → List Ln → Prop
  | _, [] => True
  | seen, .bar s _ :: r => OrdOk (seen ++ [s]) r
  | seen, .bay _ bs :: r => (∀ b ∈ bs, b ∈ seen) ∧ OrdOk seen r
  | seen, _ :: r => OrdOk seen r
theorem OrdOk.mono : ∀ {L : List Ln} {s t : List Str}, OrdOk s L → (∀ x ∈ s, x ∈ t) → OrdOk t L
  | [], _, _, _, _ => trivial
  | .bar a _ :: r, s, t, h, m => OrdOk.mono (L := r) (s := s ++ [a]) (t := t ++ [a]) h fun x hx => by
    rcases List.mem_append.mp hx with h | h
    · exact List.mem_append_left _ (m x h)
    · exact List.mem_append_right _ h
  | .bay _ bs :: r, s, t, h, m => ⟨fun b hb => m b (h.1 b hb), OrdOk.mono (L := r) h.2 m⟩
  | .plate _ :: r, s, t, h, m => OrdOk.mono (L := r) h m
  | .piece _ _ :: r, s, t, h, m => OrdOk.mono (L := r) h m
/-- the bars' names among lines -/
def namesL (L : List Ln) : List Str := (L.filterMap Ln.barOf).map (·.1)
theorem OrdOk.append : ∀ {a b : List Ln} {s : List Str}, OrdOk s (a ++ b) ↔ OrdOk s a ∧ OrdOk (s ++ namesL a) b
  | [], b, s => by simp [OrdOk, namesL]
  | .bar x l :: r, b, s => by
    show OrdOk (s ++ [x]) (r ++ b) ↔ OrdOk (s ++ [x]) r ∧ _
    rw [OrdOk.append (a := r)]
    rw [show s ++ namesL (.bar x l :: r) = s ++ [x] ++ namesL r by simp [namesL, Ln.barOf]]
  | .bay y bs :: r, b, s => by
    show ((∀ b ∈ bs, b ∈ s) ∧ OrdOk s (r ++ b)) ↔ ((∀ b ∈ bs, b ∈ s) ∧ OrdOk s r) ∧ _
    rw [OrdOk.append (a := r), and_assoc]; rfl
  | .plate _ :: r, b, s => by
    show OrdOk s (r ++ b) ↔ OrdOk s r ∧ _
    rw [OrdOk.append (a := r)]; rfl
  | .piece _ _ :: r, b, s => by
    show OrdOk s (r ++ b) ↔ OrdOk s r ∧ _
    rw [OrdOk.append (a := r)]; rfl
/-- a line put in that tells no bar -/
theorem OrdOk.ins {L : List Ln} {x : Ln} {i : Nat} (h : OrdOk [] L) (hx : x.barOf = none) (hb : ∀ s bs, x = .bay s bs → ∀ b ∈ bs, b ∈ namesL (L.take i)) : OrdOk [] (L.take i ++ x :: L.drop i) := by
  rw [← List.take_append_drop i L] at h
  obtain ⟨h1, h2⟩ := OrdOk.append.mp h
  refine OrdOk.append.mpr ⟨h1, ?_⟩
  cases x with
  | bar _ _ => cases hx
  | bay s bs => exact ⟨fun b hb' => by simpa using hb s bs rfl b hb', h2⟩
  | plate _ => exact h2
  | piece _ _ => exact h2
theorem fm_ins {α : Type} {f : Ln → Option α} {L : List Ln} {x : Ln} {i : Nat} (hx : f x = none) : (L.take i ++ x :: L.drop i).filterMap f = L.filterMap f := by
  rw [List.filterMap_append, List.filterMap_cons, hx]
  show (L.take i).filterMap f ++ (L.drop i).filterMap f = _
  rw [← List.filterMap_append, List.take_append_drop]
theorem fm_insP {α : Type} {f : Ln → Option α} {L : List Ln} {x : Ln} {i : Nat} {a : α} (hx : f x = some a) : ((L.take i ++ x :: L.drop i).filterMap f).Perm (L.filterMap f ++ [a]) := by
  rw [List.filterMap_append, List.filterMap_cons, hx]
  show ((L.take i).filterMap f ++ a :: (L.drop i).filterMap f).Perm _
  conv => rhs; rw [← List.take_append_drop i L, List.filterMap_append]
  exact List.perm_middle.trans (List.perm_append_comm (l₁ := [a])) 
theorem all_ins {L : List Ln} {x : Ln} {i : Nat} {P : Ln → Prop} (h : ∀ y ∈ L, P y) (hx : P x) : ∀ y ∈ L.take i ++ x :: L.drop i, P y := fun y hy => by
  rcases List.mem_append.mp hy with h1 | h1
  · exact h y (List.mem_of_mem_take h1)
  · rcases List.mem_cons.mp h1 with rfl | h1
    · exact hx
    · exact h y (List.mem_of_mem_drop h1)
/-! read by a rig -/
theorem low_33 {c : Nat} (h : c ∈ lowerL) : c ≠ 32 := fun e => by subst e; exact absurd h (by decide +kernel)
theorem name_free {s : Str} (h : nameOk s = true) : 32 ∉ s.cps.toList := fun hm => by
  unfold nameOk at h
  rw [Bool.and_eq_true, Bool.and_eq_true] at h
  exact low_33 (of_decide_eq_true (List.all_eq_true.mp h.2.2 32 hm)) rfl
theorem num_free {i : Int} (h : 0 ≤ i) : 32 ∉ (numS i).cps.toList := by
  obtain ⟨n, rfl⟩ := Int.eq_ofNat_of_zero_le h
  have e : numS ((n : Nat) : Int) = SX.S (TL.numL n) := SX.num_S n
  rw [e]
  exact TL.numL_free (by decide)
theorem words_free {x : Ln} (h : x.Good) : ∀ w ∈ x.words, 32 ∉ w.cps.toList := by
  cases x with
  | plate p =>
    intro w hw
    simp only [Ln.words, List.mem_cons, List.not_mem_nil, or_false] at hw
    rcases hw with rfl | rfl
    · decide +kernel
    · exact num_free (by have := h.1; omega)
  | bar s l =>
    obtain ⟨h1, a, b, c, d, u, v, rfl, h2⟩ := h
    intro w hw
    simp only [Ln.words, List.mem_cons, List.map_cons, List.map_nil, List.not_mem_nil, or_false] at hw
    rcases hw with rfl | rfl | rfl | rfl | rfl | rfl | rfl | rfl
    · decide +kernel
    · exact name_free h1
    all_goals exact num_free (by omega)
  | piece s l =>
    obtain ⟨h1, a, b, rfl, h2⟩ := h
    intro w hw
    simp only [Ln.words, List.mem_cons, List.map_cons, List.map_nil, List.not_mem_nil, or_false] at hw
    rcases hw with rfl | rfl | rfl | rfl
    · decide +kernel
    · exact name_free h1
    all_goals exact num_free (by omega)
  | bay s bs =>
    obtain ⟨h1, _, h2⟩ := h
    intro w hw
    rcases List.mem_cons.mp hw with rfl | hw
    · decide +kernel
    rcases List.mem_cons.mp hw with rfl | hw
    · exact name_free h1
    · exact name_free (h2 w hw)
theorem words_ne (x : Ln) : x.words ≠ [] := by cases x <;> simp [Ln.words]
theorem words_txt {x : Ln} (h : x.Good) : wordsOf x.txt = x.words := words_join (words_ne x) (words_free h)
theorem nums_map : ∀ {l : List Int} {bs : List (Int × Int)}, l.length = bs.length → (∀ p ∈ l.zip bs, p.2.1 ≤ p.1 ∧ p.1 ≤ p.2.2) → (∀ i ∈ l, 0 ≤ i ∧ i < 10000000000000000) → numsIn (l.map numS) bs = some l
  | [], [], _, _, _ => rfl
  | i :: l, b :: bs, hl, h, h0 => by
    have e : num? (numS i) = some i := num_toString (h0 i List.mem_cons_self).1 (h0 i List.mem_cons_self).2
    have hb := h (i, b) (by rw [List.zip_cons_cons]; exact List.mem_cons_self)
    rw [List.map_cons, numsIn, e]
    dsimp only
    rw [if_pos (by unfold inB; rw [decide_eq_true hb.1, decide_eq_true hb.2]; rfl), nums_map (by simpa using hl) (fun p hp => h p (by rw [List.zip_cons_cons]; exact List.mem_cons_of_mem _ hp)) fun j hj => h0 j (List.mem_cons_of_mem _ hj)]
    rfl
  | [], _ :: _, hl, _, _ => by simp at hl
  | _ :: _, [], hl, _, _ => by simp at hl
theorem nums_bar {l : List Int} (h : Bar6 l) : numsIn (l.map numS) barB = some l := by
  obtain ⟨a, b, c, d, u, v, rfl, h⟩ := h
  refine nums_map rfl ?_ ?_
  · simp [barB]; omega
  · simp; omega
theorem nums_piece {l : List Int} (h : Pc2 l) : numsIn (l.map numS) [(1, 1000000000000), (0, 60)] = some l := by
  obtain ⟨a, b, rfl, h⟩ := h
  refine nums_map rfl ?_ ?_
  · simp; omega
  · simp; omega
theorem nums_plate {p : Int} (h : 1 ≤ p ∧ p ≤ 1000000000000) : numsIn [numS p] [(1, 1000000000000)] = some [p] := by
  refine nums_map (l := [p]) rfl ?_ ?_
  · simp; omega
  · simp; omega
theorem rises_congr {A B : List (Str × List Int)} : ∀ {bs : List Str}, (∀ b ∈ bs, atOf A b = atOf B b) → rises A bs = rises B bs
  | [], _ => rfl
  | [a], _ => rfl
  | a :: b :: r, h => by
    rw [rises, rises, h a (by simp), h b (by simp), rises_congr (bs := b :: r) fun x hx => h x (List.mem_cons_of_mem _ hx)]
theorem at_append {A B : List (Str × List Int)} {s : Str} (h : (A.lookup s).isSome = true) : atOf (A ++ B) s = atOf A s := by
  obtain ⟨l, hl⟩ := Option.isSome_iff_exists.mp h
  unfold atOf
  rw [look_append, hl]; rfl
theorem look_new {α : Type} {A B : List (Str × α)} {s : Str} {a : α} (h : ((A ++ (s, a) :: B).map (·.1)).Nodup) : A.lookup s = none := by
  cases e : A.lookup s with
  | none => rfl
  | some x =>
    rw [List.map_append, List.map_cons] at h
    have := (List.pairwise_append.mp h).2.2 s (List.mem_map.mpr ⟨_, look_mem e, rfl⟩) s List.mem_cons_self
    exact absurd rfl this
/-- what a rig is told, in all -/
def rigOf (R : RigS) (L : List Ln) : RigS := ⟨R.iron.or (L.filterMap Ln.plateOf).head?, R.bars ++ L.filterMap Ln.barOf, R.pieces ++ L.filterMap Ln.pieceOf, R.bays ++ L.filterMap Ln.bayOf⟩
structure LinesOk (R : RigS) (L : List Ln) : Prop where
  good : ∀ x ∈ L, x.Good
  bn : ((R.bars ++ L.filterMap Ln.barOf).map (·.1)).Nodup
  bl : (R.bars ++ L.filterMap Ln.barOf).length ≤ 8
  pn : ((R.pieces ++ L.filterMap Ln.pieceOf).map (·.1)).Nodup
  pl : (R.pieces ++ L.filterMap Ln.pieceOf).length ≤ 12
  yn : ((R.bays ++ L.filterMap Ln.bayOf).map (·.1)).Nodup
  yl : (R.bays ++ L.filterMap Ln.bayOf).length ≤ 12
  ir : R.iron.isSome = false ∧ (L.filterMap Ln.plateOf).length ≤ 1 ∨ L.filterMap Ln.plateOf = []
  ord : OrdOk (R.bars.map (·.1)) L
  up : ∀ s bs, .bay s bs ∈ L → rises (R.bars ++ L.filterMap Ln.barOf) bs = true
theorem stepRig_cons (R : RigS) (w0 nm : Str) (q : List Str) : stepRig R (w0 :: nm :: q) = if w0 = "plate" then stepPlate R (nm :: q) else if nameOk nm = true then (if w0 = "bar" then stepBar R nm q else if w0 = "piece" then stepPiece R nm q else if w0 = "bay" then stepBay R nm q else none) else none := rfl
theorem fold_lines : ∀ (L : List Ln) (R : RigS), LinesOk R L → foldRig R (L.map Ln.txt) = some (rigOf R L)
  | [], R, _ => by
    obtain ⟨a, b, c, d⟩ := R
    show some _ = some _
    simp [rigOf]
  | x :: L, R, k => by
    have hx := k.good x List.mem_cons_self
    have hL : ∀ y ∈ L, y.Good := fun y hy => k.good y (List.mem_cons_of_mem _ hy)
    have goal : ∀ R', stepRig R x.words = some R' → LinesOk R' L → rigOf R' L = rigOf R (x :: L) → foldRig R ((x :: L).map Ln.txt) = some (rigOf R (x :: L)) := fun R' h1 h2 h3 => by
      rw [List.map_cons, foldRig, words_txt hx, h1]
      dsimp only
      rw [fold_lines L R' h2, h3]
    cases x with
    | plate p =>
      have hir : R.iron = none := by
        rcases k.ir with h | h
        · cases e : R.iron with
          | none => rfl
          | some _ => rw [e] at h; simp at h
        · cases h
      have hpl : L.filterMap Ln.plateOf = [] := by
        rcases k.ir with h | h
        · have : (L.filterMap Ln.plateOf).length + 1 ≤ 1 := h.2
          exact List.eq_nil_of_length_eq_zero (by omega)
        · cases h
      refine goal { R with iron := some p } ?_ ⟨hL, k.bn, k.bl, k.pn, k.pl, k.yn, k.yl, .inr hpl, k.ord, fun s bs h => k.up s bs (List.mem_cons_of_mem _ h)⟩ ?_
      · show stepPlate R [numS p] = _
        unfold stepPlate
        rw [nums_plate hx, hir]; rfl
      · show (⟨(some p).or (L.filterMap Ln.plateOf).head?, _, _, _⟩ : RigS) = ⟨R.iron.or (p :: L.filterMap Ln.plateOf).head?, _, _, _⟩
        rw [hir, hpl]; rfl
    | bar s l =>
      have e1 : R.bars ++ (Ln.bar s l :: L).filterMap Ln.barOf = R.bars ++ [(s, l)] ++ L.filterMap Ln.barOf := by rw [List.append_assoc]; rfl
      have hb := k.bn
      have hbl := k.bl
      rw [e1] at hb hbl
      have hup : ∀ t bs, .bay t bs ∈ L → rises (R.bars ++ [(s, l)] ++ L.filterMap Ln.barOf) bs = true := fun t bs h => by rw [← e1]; exact k.up t bs (List.mem_cons_of_mem _ h)
      have hord : OrdOk ((R.bars ++ [(s, l)]).map (·.1)) L := by
        have := k.ord
        rw [List.map_append]
        exact this
      refine goal { R with bars := R.bars ++ [(s, l)] } ?_ ⟨hL, hb, hbl, k.pn, k.pl, k.yn, k.yl, k.ir, hord, hup⟩ ?_
      · show stepRig R ("bar" :: s :: (l.map numS)) = _
        rw [stepRig_cons]
        rw [if_neg (by decide), if_pos hx.1, if_pos rfl]
        have hn := nums_bar hx.2
        obtain ⟨a, b, c, d, u, v, rfl, h⟩ := hx.2
        unfold stepBar
        rw [hn]
        dsimp only
        have hnew : R.bars.lookup s = none := look_new (A := R.bars) (B := L.filterMap Ln.barOf) (a := [a, b, c, d, u, v]) (by simpa using hb)
        rw [if_neg (by simp; omega), if_neg]
        rw [hnew]
        simp at hbl
        simp; omega
      · show (⟨_, R.bars ++ [(s, l)] ++ _, _, _⟩ : RigS) = _
        rw [List.append_assoc]; rfl
    | piece s l =>
      have e1 : R.pieces ++ (Ln.piece s l :: L).filterMap Ln.pieceOf = R.pieces ++ [(s, l)] ++ L.filterMap Ln.pieceOf := by rw [List.append_assoc]; rfl
      have hb := k.pn
      have hbl := k.pl
      rw [e1] at hb hbl
      refine goal { R with pieces := R.pieces ++ [(s, l)] } ?_ ⟨hL, k.bn, k.bl, hb, hbl, k.yn, k.yl, k.ir, k.ord, fun s bs h => k.up s bs (List.mem_cons_of_mem _ h)⟩ ?_
      · show stepRig R ("piece" :: s :: (l.map numS)) = _
        rw [stepRig_cons]
        rw [if_neg (by decide), if_pos hx.1, if_neg (by decide), if_pos rfl]
        unfold stepPiece
        rw [nums_piece hx.2]
        dsimp only
        have hnew : R.pieces.lookup s = none := look_new (A := R.pieces) (B := L.filterMap Ln.pieceOf) (a := l) (by simpa using hb)
        rw [if_neg]
        rw [hnew]
        simp at hbl
        simp; omega
      · show (⟨_, _, R.pieces ++ [(s, l)] ++ _, _⟩ : RigS) = _
        rw [List.append_assoc]; rfl
    | bay s bs =>
      have e1 : R.bays ++ (Ln.bay s bs :: L).filterMap Ln.bayOf = R.bays ++ [(s, bs)] ++ L.filterMap Ln.bayOf := by rw [List.append_assoc]; rfl
      have hb := k.yn
      have hbl := k.yl
      rw [e1] at hb hbl
      have ho : (∀ b ∈ bs, b ∈ R.bars.map (·.1)) ∧ OrdOk (R.bars.map (·.1)) L := k.ord
      have hup := k.up s bs List.mem_cons_self
      refine goal { R with bays := R.bays ++ [(s, bs)] } ?_ ⟨hL, k.bn, k.bl, k.pn, k.pl, hb, hbl, k.ir, ho.2, fun s bs h => k.up s bs (List.mem_cons_of_mem _ h)⟩ ?_
      · show stepRig R ("bay" :: s :: bs) = _
        rw [stepRig_cons]
        rw [if_neg (by decide), if_pos hx.1, if_neg (by decide), if_neg (by decide), if_pos rfl]
        unfold stepBay
        have hnew : R.bays.lookup s = none := look_new (A := R.bays) (B := L.filterMap Ln.bayOf) (a := bs) (by simpa using hb)
        have hx2 := hx.2.1
        simp at hbl
        rw [if_neg (by rw [hnew]; simp; omega), if_pos]
        refine ⟨List.all_eq_true.mpr fun b hb => look_key (ho.1 b hb), ?_⟩
        rw [rises_congr fun b hb => (at_append (look_key (ho.1 b hb))).symm]
        exact hup
      · show (⟨_, _, _, R.bays ++ [(s, bs)] ++ _⟩ : RigS) = _
        rw [List.append_assoc]; rfl
def Ln.isBar : Ln → Bool | .bar _ _ => true | _ => false
theorem isBar_of (x : Ln) : x.isBar = x.barOf.isSome := by cases x <;> rfl
theorem starts_S {a b : List Nat} (hb : b ≠ []) : Txt.startswith (SX.S a) (SX.S b) = TL.pre b a := by
  rw [Bool.eq_iff_iff]
  have h := TL.at_iff (x := SX.S a) (y := SX.S b) hb 0
  rw [List.drop_zero] at h
  show (decide (0 + (SX.S b).length ≤ (SX.S a).length) && Builtin.Str.subAt (SX.S a) (SX.S b) 0) = true ↔ TL.pre b a = true
  rw [Bool.and_eq_true, decide_eq_true_iff]
  exact h
theorem txt_S (x : Ln) : x.txt = SX.S (TL.joinL [32] (x.words.map fun w => w.cps.toList)) := by
  unfold Ln.txt
  conv => lhs; rw [blank_eq, ← map_S x.words, SX.join_S]
theorem bar4 : ("bar " : Str) = SX.S [98, 97, 114, 32] := by decide +kernel
theorem starts_bar (x : Ln) : Txt.startswith x.txt "bar " = x.isBar := by
  rw [txt_S, bar4, starts_S (by simp)]
  have e1 : ("plate" : Str).cps.toList = [112, 108, 97, 116, 101] := by decide +kernel
  have e2 : ("bar" : Str).cps.toList = [98, 97, 114] := by decide +kernel
  have e3 : ("piece" : Str).cps.toList = [112, 105, 101, 99, 101] := by decide +kernel
  have e4 : ("bay" : Str).cps.toList = [98, 97, 121] := by decide +kernel
  cases x with
  | plate p => simp only [Ln.words, List.map_cons, e1]; rfl
  | bar s l => simp only [Ln.words, List.map_cons, e2]; rfl
  | piece s l => simp only [Ln.words, List.map_cons, e3]; rfl
  | bay s l => simp only [Ln.words, List.map_cons, e4]; rfl
theorem range_split {n j : Nat} (h : j < n) : ∃ r, List.range n = List.range j ++ j :: r := by
  refine ⟨(List.range n).drop (j + 1), ?_⟩
  conv => lhs; rw [← List.take_append_drop j (List.range n)]
  rw [List.take_range, Nat.min_eq_left (by omega), List.drop_eq_getElem_cons (by simpa using h)]
  simp
theorem filt_ix {p : Nat → Bool} {n i j : Nat} (h : ((List.range n).filter p)[i]? = some j) : j < n ∧ p j = true ∧ ((List.range j).filter p).length = i := by
  have hm := List.mem_of_getElem? h
  rw [List.mem_filter, List.mem_range] at hm
  obtain ⟨r, hr⟩ := range_split hm.1
  refine ⟨hm.1, hm.2, ?_⟩
  have e : (List.range n).filter p = (List.range j).filter p ++ j :: r.filter p := by rw [hr, List.filter_append, List.filter_cons, if_pos hm.2]
  have e2 : ((List.range n).filter p)[((List.range j).filter p).length]? = some j := by
    rw [e, List.getElem?_append_right (Nat.le_refl _), Nat.sub_self]; rfl
  obtain ⟨a1, a2⟩ := List.getElem?_eq_some_iff.mp h
  obtain ⟨b1, b2⟩ := List.getElem?_eq_some_iff.mp e2
  have nd : ((List.range n).filter p).Nodup := List.nodup_range.filter p
  have key := List.pairwise_iff_getElem.mp nd
  rcases Nat.lt_trichotomy i ((List.range j).filter p).length with z | z | z
  · exact absurd (a2.trans b2.symm) (key _ _ a1 b1 z)
  · exact z.symm
  · exact absurd (b2.trans a2.symm) (key _ _ b1 a1 z)
theorem count_take {α : Type} (p : α → Bool) : ∀ (xs : List α) (j : Nat), j ≤ xs.length → ((xs.take j).filter p).length = ((List.range j).filter fun k => (xs[k]?).any p).length := fun xs j => by
  induction j with
  | zero => intro _; simp
  | succ j ih =>
    intro hj
    have hj' : j < xs.length := by omega
    rw [List.range_succ, List.filter_append, List.length_append, ← ih (by omega), List.take_succ_eq_append_getElem hj', List.filter_append, List.length_append]
    congr 1
    rw [List.filter_cons, List.filter_cons, List.getElem?_eq_getElem hj']
    simp only [Option.any_some]
    split <;> rfl
theorem fm_len (L : List Ln) : (L.filterMap Ln.barOf).length = (L.filter Ln.isBar).length := by
  induction L with
  | nil => rfl
  | cons x r ih =>
    cases x with
    | bar s l => show (_ :: r.filterMap Ln.barOf).length = (_ :: r.filter Ln.isBar).length; simp [ih]
    | plate _ => exact ih
    | piece _ _ => exact ih
    | bay _ _ => exact ih
/-- behind the place of the i-th bar stand the first bars -/
theorem seen_take {L : List Ln} {i j : Nat} (h : ((List.range L.length).filter fun k => (L[k]?).any Ln.isBar)[i]? = some j) : j < L.length ∧ (L.take (j + 1)).filterMap Ln.barOf = (L.filterMap Ln.barOf).take (i + 1) := by
  obtain ⟨h1, h2, h3⟩ := filt_ix h
  refine ⟨h1, ?_⟩
  have hl : ((L.take (j + 1)).filterMap Ln.barOf).length = i + 1 := by
    rw [fm_len, count_take _ _ _ (by omega), List.range_succ, List.filter_append, List.length_append, h3, List.filter_cons, if_pos h2]; rfl
  conv => rhs; rw [← List.take_append_drop (j + 1) L, List.filterMap_append]
  rw [List.take_append_of_le_length (by omega), ← hl, List.take_length]
theorem seen_len {L : List Ln} : ((List.range L.length).filter fun k => (L[k]?).any Ln.isBar).length = (L.filterMap Ln.barOf).length := by
  rw [fm_len, ← count_take Ln.isBar L L.length (Nat.le_refl _), List.take_length]
theorem len_parts : ∀ L : List Ln, L.length = (L.filterMap Ln.barOf).length + (L.filterMap Ln.pieceOf).length + (L.filterMap Ln.bayOf).length + (L.filterMap Ln.plateOf).length
  | [] => rfl
  | .bar s l :: r => by
    show r.length + 1 = ((_ :: r.filterMap Ln.barOf).length) + (r.filterMap Ln.pieceOf).length + (r.filterMap Ln.bayOf).length + (r.filterMap Ln.plateOf).length
    rw [len_parts r, List.length_cons]; omega
  | .piece s l :: r => by
    show r.length + 1 = ((r.filterMap Ln.barOf).length) + (_ :: r.filterMap Ln.pieceOf).length + (r.filterMap Ln.bayOf).length + (r.filterMap Ln.plateOf).length
    rw [len_parts r, List.length_cons]; omega
  | .bay s l :: r => by
    show r.length + 1 = ((r.filterMap Ln.barOf).length) + (r.filterMap Ln.pieceOf).length + (_ :: r.filterMap Ln.bayOf).length + (r.filterMap Ln.plateOf).length
    rw [len_parts r, List.length_cons]; omega
  | .plate _ :: r => by
    show r.length + 1 = ((r.filterMap Ln.barOf).length) + (r.filterMap Ln.pieceOf).length + (r.filterMap Ln.bayOf).length + (_ :: r.filterMap Ln.plateOf).length
    rw [len_parts r, List.length_cons]; omega
/-- lines in the making -/
structure LI (bars : List (Str × List Int)) (bd : List (Str × List Str)) (pd : List (Str × List Int)) (pl : List Int) (L : List Ln) : Prop where
  good : ∀ x ∈ L, x.Good
  b : L.filterMap Ln.barOf = bars
  p : (L.filterMap Ln.pieceOf).Perm pd
  y : (L.filterMap Ln.bayOf).Perm bd
  pl : L.filterMap Ln.plateOf = pl
  ord : OrdOk [] L
section
variable {bars : List (Str × List Int)} {bd : List (Str × List Str)} {pd : List (Str × List Int)} {pl : List Int} {L : List Ln} {i : Nat}
theorem LI.len (k : LI bars bd pd pl L) : L.length = bars.length + pd.length + bd.length + pl.length := by
  rw [len_parts, k.b, k.p.length_eq, k.y.length_eq, k.pl]
theorem LI.addBay (k : LI bars bd pd pl L) {s : Str} {bs : List Str} (g : (Ln.bay s bs).Good) (h : ∀ b ∈ bs, b ∈ namesL (L.take i)) : LI bars (bd ++ [(s, bs)]) pd pl (L.take i ++ .bay s bs :: L.drop i) :=
  ⟨all_ins k.good g, (fm_ins rfl).trans k.b, by rw [fm_ins rfl]; exact k.p, (fm_insP (a := (s, bs)) rfl).trans (k.y.append_right _), (fm_ins rfl).trans k.pl, k.ord.ins rfl fun s' bs' e => by cases e; exact h⟩
theorem LI.addPiece (k : LI bars bd pd pl L) {s : Str} {l : List Int} (g : (Ln.piece s l).Good) : LI bars bd (pd ++ [(s, l)]) pl (L.take i ++ .piece s l :: L.drop i) :=
  ⟨all_ins k.good g, (fm_ins rfl).trans k.b, (fm_insP (a := (s, l)) rfl).trans (k.p.append_right _), by rw [fm_ins rfl]; exact k.y, (fm_ins rfl).trans k.pl, k.ord.ins rfl fun s' bs' e => by cases e⟩
theorem LI.addPlate (k : LI bars bd pd [] L) {p : Int} (g : (Ln.plate p).Good) : LI bars bd pd [p] (L.take i ++ .plate p :: L.drop i) :=
  ⟨all_ins k.good g, (fm_ins rfl).trans k.b, by rw [fm_ins rfl]; exact k.p, by rw [fm_ins rfl]; exact k.y, List.perm_singleton.mp (by have := fm_insP (L := L) (i := i) (f := Ln.plateOf) (x := .plate p) rfl; rw [k.pl] at this; exact this), k.ord.ins rfl fun s' bs' e => by cases e⟩
theorem LI.bars0 (bars : List (Str × List Int)) (hg : ∀ q ∈ bars, nameOk q.1 = true ∧ Bar6 q.2) : LI bars [] [] [] (bars.map fun q => Ln.bar q.1 q.2) := by
  have fm : ∀ {α : Type} {f : Ln → Option α}, (∀ s l, f (.bar s l) = none) → (bars.map fun q => Ln.bar q.1 q.2).filterMap f = [] := fun {α f} h => by
    rw [List.filterMap_map]
    exact List.filterMap_eq_nil_iff.mpr fun q _ => h _ _
  refine ⟨fun x hx => ?_, ?_, ?_, ?_, fm fun _ _ => rfl, ?_⟩
  · obtain ⟨q, hq, rfl⟩ := List.mem_map.mp hx
    exact hg q hq
  · rw [List.filterMap_map]
    exact List.filterMap_some
  · rw [fm fun _ _ => rfl]
  · rw [fm fun _ _ => rfl]
  · have key : ∀ (bars : List (Str × List Int)) (s : List Str), OrdOk s (bars.map fun q => Ln.bar q.1 q.2) := fun bars => by
      induction bars with
      | nil => intro _; trivial
      | cons q r ih => intro s; exact ih _
    exact key bars []
end
class ToStrs (ts : List T) (xs : outParam (List Str)) : Prop where h : ts = xs.map T.str
instance : ToStrs [] [] := ⟨rfl⟩
instance {i : Str} {ts : List T} {xs : List Str} [k : ToStrs ts xs] : ToStrs (.str i :: ts) (i :: xs) := ⟨by rw [k.h]; rfl⟩
instance {xs : List Str} : ToStrs (xs.map T.str) xs := ⟨rfl⟩
instance {ts us : List T} {xs ys : List Str} [a : ToStrs ts xs] [b : ToStrs us ys] : ToStrs (ts ++ us) (xs ++ ys) := ⟨by rw [a.h, b.h, List.map_append]⟩
theorem o_catS {f g : Fl} {ts us : List T} {xs ys : List Str} {Q : T → Prop} (m : ToStrs ts xs) (m' : ToStrs us ys) (hl : xs.length + ys.length ≤ LIM) (h : Q (.lst .own ((xs ++ ys).map T.str))) : OpK (bopT .Add (.lst f ts) (.lst g us)) Q := by
  rw [m.h, m'.h]
  have hv : vwL (xs.map T.str ++ ys.map T.str) = false := by rw [← List.map_append]; exact vwL_strs _
  refine OpK.of (t := .lst .own (xs.map T.str ++ ys.map T.str)) ?_ (by rw [← List.map_append]; exact h)
  show (if (xs.map T.str).length + (ys.map T.str).length ≤ LIM ∧ vwL (xs.map T.str ++ ys.map T.str) = false then some (T.lst .own (xs.map T.str ++ ys.map T.str)) else none) = _
  rw [if_pos ⟨by simpa using hl, hv⟩]
theorem num_len {i : Int} (h0 : 0 ≤ i) (h1 : i < 10000000000000000) : (numS i).length ≤ 16 := by
  obtain ⟨n, rfl⟩ := Int.eq_ofNat_of_zero_le h0
  have e : numS ((n : Nat) : Int) = SX.S (TL.numL n) := SX.num_S n
  rw [e, SX.S_len]
  exact TL.numL_len (k := 16) (by decide) (by omega)
theorem name_len {s : Str} (h : nameOk s = true) : s.length ≤ 8 := by
  unfold nameOk at h
  rw [Bool.and_eq_true, Bool.and_eq_true] at h
  exact of_decide_eq_true h.2.1
theorem sum_le {k : Nat} : ∀ {xs : List Str}, (∀ x ∈ xs, x.length ≤ k) → (xs.map fun x : Str => x.length).sum ≤ k * xs.length
  | [], _ => by simp
  | x :: r, h => by
    have h1 := h x List.mem_cons_self
    have h2 := sum_le fun y hy => h y (List.mem_cons_of_mem _ hy)
    rw [List.map_cons, List.sum_cons, List.length_cons, Nat.mul_succ]
    omega
theorem word_len {x : Ln} (h : x.Good) : (∀ w ∈ x.words, w.length ≤ 16) ∧ x.words.length ≤ 10 := by
  have l1 : ("plate" : Str).length = 5 := by decide +kernel
  have l2 : ("bar" : Str).length = 3 := by decide +kernel
  have l3 : ("piece" : Str).length = 5 := by decide +kernel
  have l4 : ("bay" : Str).length = 3 := by decide +kernel
  cases x with
  | plate p =>
    refine ⟨fun w hw => ?_, by simp [Ln.words]⟩
    simp only [Ln.words, List.mem_cons, List.not_mem_nil, or_false] at hw
    have := h.1; have := h.2
    rcases hw with rfl | rfl
    · omega
    · exact num_len (by omega) (by omega)
  | bar s l =>
    obtain ⟨h1, a, b, c, d, u, v, rfl, h2⟩ := h
    refine ⟨fun w hw => ?_, by simp [Ln.words]⟩
    simp only [Ln.words, List.mem_cons, List.map_cons, List.map_nil, List.not_mem_nil, or_false] at hw
    have := name_len h1
    rcases hw with rfl | rfl | rfl | rfl | rfl | rfl | rfl | rfl
    · omega
    · omega
    all_goals exact num_len (by omega) (by omega)
  | piece s l =>
    obtain ⟨h1, a, b, rfl, h2⟩ := h
    refine ⟨fun w hw => ?_, by simp [Ln.words]⟩
    simp only [Ln.words, List.mem_cons, List.map_cons, List.map_nil, List.not_mem_nil, or_false] at hw
    have := name_len h1
    rcases hw with rfl | rfl | rfl | rfl
    · omega
    · omega
    all_goals exact num_len (by omega) (by omega)
  | bay s bs =>
    obtain ⟨h1, h3, h2⟩ := h
    refine ⟨fun w hw => ?_, by simp [Ln.words]; omega⟩
    rcases List.mem_cons.mp hw with rfl | hw
    · omega
    rcases List.mem_cons.mp hw with rfl | hw
    · have := name_len h1; omega
    · have := name_len (h2 w hw); omega
theorem blank_len : (" " : Str).length = 1 := by decide +kernel
theorem join_lim {x : Ln} (h : x.Good) : (x.words.map fun w : Str => w.length).sum + x.words.length * (" " : Str).length ≤ 170 := by
  obtain ⟨h1, h2⟩ := word_len h
  have h3 := sum_le h1
  have h4 : 16 * x.words.length ≤ 16 * 10 := Nat.mul_le_mul_left _ h2
  rw [blank_len]; omega
theorem txt_len {x : Ln} (h : x.Good) : x.txt.length ≤ 170 := by
  have h1 := join_lim h
  have e : Txt.join " " x.words = Str.join " " x.words := TL.join_eq _ _
  unfold Ln.txt
  rw [e]
  exact Nat.le_trans (PySem.StrLaws.join_length_le " " x.words) h1
theorem look_of {α : Type} : ∀ {xs : List (Str × α)} {s : Str} {a : α}, (xs.map (·.1)).Nodup → (s, a) ∈ xs → xs.lookup s = some a
  | (t, b) :: r, s, a, nd, h => by
    rw [List.map_cons, List.nodup_cons] at nd
    rw [List.lookup_cons]
    rcases List.mem_cons.mp h with h0 | h1
    · cases h0; simp
    · have : s ≠ t := fun e => nd.1 (by rw [← e]; exact List.mem_map.mpr ⟨_, h1, rfl⟩)
      have e' : (s == t) = false := by simpa using this
      rw [e']
      exact look_of nd.2 h1
theorem keys_mapT {α : Type} {xs : List (Str × α)} : (xs.map fun p => (Sum.inr p.1 : Key)).map keyT = xs.map fun p => T.str p.1 := by rw [List.map_map]; rfl
/-- what is drawn for a rig, ahead of its lines -/
abbrev eDr (f : Fl) (p : Int) (bars pieces : List (Str × List Int)) (bays : List (Str × List Str)) : T := .dic f [.inr "plate", .inr "bars", .inr "pieces", .inr "bays"] [.int p, eD f eTp bars, eD f eTp pieces, eD f (eT .frz) bays]
structure DrawnOk (p : Int) (bars pieces : List (Str × List Int)) (bays : List (Str × List Str)) : Prop where
  p : 1 ≤ p ∧ p ≤ 1000000000000
  bn : (bars.map (·.1)).Nodup
  pn : (pieces.map (·.1)).Nodup
  yn : (bays.map (·.1)).Nodup
  bl : 1 ≤ bars.length ∧ bars.length ≤ 8
  pl : pieces.length ≤ 12
  yl : bays.length ≤ 12
  bg : ∀ q ∈ bars, nameOk q.1 = true ∧ Bar6 q.2
  pg : ∀ q ∈ pieces, nameOk q.1 = true ∧ Pc2 q.2
  yg : ∀ q ∈ bays, nameOk q.1 = true ∧ BayOk bars q.2 ∧ 2 ≤ q.2.length
theorem DrawnOk.bay {p : Int} {bars pieces : List (Str × List Int)} {bays : List (Str × List Str)} (k : DrawnOk p bars pieces bays) {q : Str × List Str} (h : q ∈ bays) : (Ln.bay q.1 q.2).Good := by
  obtain ⟨h1, h2, h3⟩ := k.yg q h
  refine ⟨h1, ⟨h3, by have := h2.len; have := k.bl; omega⟩, fun b hb => ?_⟩
  obtain ⟨a, ha⟩ := Option.isSome_iff_exists.mp (h2.mem b hb)
  exact (k.bg _ (look_mem ha)).1
theorem log_lt {i : Int} (h0 : 0 ≤ i) (h1 : i < 10000000000000000) : i.natAbs.log2 < 1920 := by
  by_cases e : i.natAbs = 0
  · rw [e]; decide
  · rw [Nat.log2_lt e]
    have h2 : i.natAbs < 2 ^ 60 := by omega
    exact Nat.lt_of_lt_of_le h2 (Nat.pow_le_pow_right (by decide) (by decide))
theorem j_ln {f : Fl} {x : Ln} {ws : List Str} {Q : T → Prop} (h : x.Good) (e : x.words = ws) (q : Q (.str x.txt)) : OpK (smtT "join" (.str " ") [.lst f (ws.map T.str)]) Q := by
  subst e
  exact j_join (Nat.le_trans (join_lim h) (by decide)) q
theorem bar_bd {l : List Int} (h : Bar6 l) : l.length = 6 ∧ ∀ i ∈ l, 0 ≤ i ∧ i < 10000000000000000 := by
  obtain ⟨a, b, c, d, u, v, rfl, h⟩ := h
  exact ⟨rfl, by simp; omega⟩
theorem pc_bd {l : List Int} (h : Pc2 l) : l.length = 2 ∧ ∀ i ∈ l, 0 ≤ i ∧ i < 10000000000000000 := by
  obtain ⟨a, b, rfl, h⟩ := h
  exact ⟨rfl, by simp; omega⟩
local macro_rules
| `(tactic| fail) => `(tactic| first
  | ((with_reducible show OpK (bopT .Add (.lst _ _) (.lst _ _)) _); (with_reducible refine' o_catS ?a ?b ?c ?d); (case a => infer_instance); (case b => infer_instance); (case c => (simp only [LIM, List.length_append, List.length_map, List.length_cons, List.length_nil]; omega)))
  | ((with_reducible show OpK (bopT .Add (.lst _ _) (.lst _ _)) _); (with_reducible refine' o_catI ?a ?b ?c ?d); (case a => infer_instance); (case b => infer_instance); (case c => (simp only [List.length_append, List.length_map, List.length_cons, List.length_nil]; omega)))
  | done)
theorem ins_txt {L : List Ln} {x : Ln} {k : Nat} : (L.map Ln.txt).take k ++ x.txt :: (L.map Ln.txt).drop k = (L.take k ++ x :: L.drop k).map Ln.txt := by rw [List.map_append, List.map_cons, List.map_take, List.map_drop]
theorem plate_txt (p : Int) : ("plate " : Str) ++ numS p = (Ln.plate p).txt := by
  rw [txt_S]
  have e1 : ("plate" : Str).cps.toList = [112, 108, 97, 116, 101] := by decide +kernel
  have e2 : ("plate " : Str) = SX.S [112, 108, 97, 116, 101, 32] := by decide +kernel
  simp only [Ln.words, List.map_cons, List.map_nil, e1]
  rw [e2]
  conv => lhs; rw [← SX.S_tl (numS p), SX.S_cat]
  rfl
theorem s_lines (n : Nat) (f : Fl) [f.Ro] (b : Int) (r : List Int) (R : Row b r) (p : Int) (bars pieces : List (Str × List Int)) (bays : List (Str × List Str)) (k : DrawnOk p bars pieces bays) :
    CIs ((Iof PL (n + 2)).run f_q_lines [.lst f ((b :: r).map T.int), eDr .brw p bars pieces bays]) fun t ios => ∃ L, t = .lst .own ((L.map Ln.txt).map T.str) ∧ LI bars bays pieces [p] L := by
  refine en_q_lines ?_
  unfold b_q_lines
  have kb := k.bl
  have kp := k.pl
  have ky := k.yl
  repeat' fail
  rw [keys_mapT]
  refine l_map (env := [some (.lst f ((b :: r).map T.int)), some (eDr .brw p bars pieces bays), none, none, none, none, none, none, none, none, none]) (fun q : Str × List Int => T.str q.1) T.str bars (fun _ => true) (fun q => Ln.txt (.bar q.1 q.2)) (by simp only [LIM]; omega) (fun q hq => ?_) ?_
  · obtain ⟨g1, g2⟩ := bar_bd (k.bg q hq).2
    have hlk := look_of k.bn hq
    have hgood : (Ln.bar q.1 q.2).Good := k.bg q hq
    repeat' fail
    refine ⟨rfl, fun _ => ?_, fun h => nomatch h⟩
    repeat' fail
    refine x_dic hlk ?_
    unfold eTp
    repeat' fail
    refine l_map (env := [some (.lst f ((b :: r).map T.int)), some (eDr .brw p bars pieces bays), none, some (.str q.1), none, none, none, none, none, none, none]) T.int T.str q.2 (fun _ => true) numS (by rw [g1]; decide) (fun i hi => ?_) ?_
    · repeat' fail
      refine ⟨rfl, fun _ => ?_, fun h => nomatch h⟩
      repeat' fail
      · exact log_lt (g2 i hi).1 (g2 i hi).2
      · exact ⟨rfl, rfl, rfl⟩
    · rw [filt_true]
      repeat' fail
      refine j_ln (x := .bar q.1 q.2) hgood rfl ?_
      exact ⟨rfl, rfl, rfl⟩
  rw [filt_true]
  repeat' fail
  rw [keys_mapT]
  have e0 : (bars.map fun q => Ln.txt (.bar q.1 q.2)) = (bars.map fun q => Ln.bar q.1 q.2).map Ln.txt := by rw [List.map_map]; rfl
  rw [e0]
  refine l_for (fun q : Str × List Str => T.str q.1) bays (fun d _ e => ∃ (L : List Ln) (u3 u4 u5 u6 u7 u8 u9 u10 : Option T), e = [some (.lst f ((b :: r).map T.int)), some (eDr .brw p bars pieces bays), some (.lst .own ((L.map Ln.txt).map T.str)), u3, u4, u5, u6, u7, u8, u9, u10] ∧ LI bars d [] [] L) ?_ ?_ ?_
  · exact ⟨_, _, _, _, _, _, _, _, _, rfl, LI.bars0 bars k.bg⟩
  · rintro d q r' _ hd ⟨L, u3, u4, u5, u6, u7, u8, u9, u10, rfl, hL⟩
    have hq : q ∈ bays := by rw [hd]; simp
    have hlk := look_of k.yn hq
    obtain ⟨g1, g2, g3⟩ := k.yg q hq
    have hlen : L.length = bars.length + d.length := by rw [hL.len]; simp
    have hdl : d.length < bays.length := by rw [hd]; simp
    have g4 := g2.len
    repeat' fail
    refine x_dic hlk ?_
    unfold eT
    repeat' fail
    refine l_map (env := [some (.lst f ((b :: r).map T.int)), some (eDr .brw p bars pieces bays), some (.lst .own ((L.map Ln.txt).map T.str)), some (.str q.1), u4, u5, u6, u7, u8, none, u10]) T.str T.int q.2 (fun _ => true) (fun s => (((bars.map (·.1)).idxOf s : Nat) : Int)) (by simp only [LIM]; omega) (fun s hs => ?_) ?_
    · repeat' fail
      refine ⟨rfl, fun _ => ?_, fun h => nomatch h⟩
      repeat' fail
      refine k_index (key_look (g2.mem s hs)) ?_
      exact ⟨rfl, rfl, rfl⟩
    rw [filt_true]
    repeat' fail
    refine k_maxR (fun z => by have := congrArg List.length z; simp at this; rw [this] at g3; simp at g3) fun m hm hmax => ?_
    obtain ⟨s0, hs0, rfl⟩ := List.mem_map.mp hm
    have hlast : ∀ s ∈ q.2, (bars.map (·.1)).idxOf s ≤ (bars.map (·.1)).idxOf s0 := fun s hs => by
      have := hmax _ (List.mem_map.mpr ⟨s, hs, rfl⟩)
      omega
    have hlt0 : (bars.map (·.1)).idxOf s0 < bars.length := by
      have := List.idxOf_lt_length_of_mem (key_look (g2.mem s0 hs0))
      simpa using this
    generalize (bars.map (·.1)).idxOf s0 = last at hlast hlt0
    repeat' fail
    refine ⟨by unfold int62; rw [List.length_map]; omega, ?_⟩
    rw [List.length_map, rng0]
    refine l_map (env := [some (.lst f ((b :: r).map T.int)), some (eDr .brw p bars pieces bays), some (.lst .own ((L.map Ln.txt).map T.str)), some (.str q.1), some (.int (last : Nat)), u5, u6, u7, none, none, u10]) _ T.int (List.range L.length) (fun k => (L[k]?).any Ln.isBar) (fun k => ((k : Nat) : Int)) (by rw [List.length_range]; simp only [LIM]; omega) (fun j hj => ?_) ?_
    · have hj := List.mem_range.mp hj
      repeat' fail
      refine x_lst (by omega) (by simp; omega) ?_
      have e1 : (L.map Ln.txt)[(j : Int).toNat]'(by simp; omega) = (L[j]).txt := by simp
      rw [e1]
      repeat' fail
      refine OpK.of (t := .bl (Txt.startswith (L[j]).txt "bar ")) rfl ?_
      rw [starts_bar]
      repeat' fail
      refine ⟨by rw [List.getElem?_eq_getElem hj]; rfl, fun _ => ?_, fun _ => rfl⟩
      repeat' fail
      exact ⟨rfl, rfl, rfl⟩
    have hsl := seen_len (L := L)
    rw [hL.b] at hsl
    have hst := fun j h => seen_take (L := L) (i := last) (j := j) h
    generalize (List.range L.length).filter (fun k => (L[k]?).any Ln.isBar) = seen at hsl hst
    have hlast2 : last < seen.length := by omega
    obtain ⟨t1, t2⟩ := hst seen[last] (List.getElem?_eq_getElem hlast2)
    repeat' fail
    refine x_lst (by omega) (by simp; omega) ?_
    have e1 : (seen.map fun k : Nat => (k : Int))[(last : Int).toNat]'(by simp; omega) = (seen[last] : Nat) := by simp
    rw [e1]
    generalize seen[last] = at_ at t1 t2
    repeat' fail
    rename_i x _ hx
    simp only [List.length_map] at hx
    obtain ⟨y, rfl⟩ := Int.eq_ofNat_of_zero_le hx.1
    repeat' fail
    refine x_dic hlk ?_
    unfold eT
    repeat' fail
    refine j_ln (x := .bay q.1 q.2) (k.bay hq) rfl ?_
    repeat' fail
    · omega
    · omega
    have e2 : ((at_ : Int) + 1 + (y : Nat)).toNat = at_ + 1 + y := by omega
    rw [e2, ins_txt]
    refine ⟨_, _, _, _, _, _, _, _, _, rfl, hL.addBay (k.bay hq) fun s hs => ?_⟩
    · have h1 : s ∈ (bars.take (last + 1)).map (·.1) := by
        have hm := key_look (g2.mem s hs)
        rw [List.map_take]
        have := hlast s hs
        have h2 := List.idxOf_lt_length_of_mem hm
        have h3 : (bars.map (·.1))[(bars.map (·.1)).idxOf s]'h2 = s := List.getElem_idxOf h2
        rw [← h3]
        exact List.mem_take_iff_getElem.mpr ⟨_, by simp only [List.length_map] at h2 ⊢; omega, rfl⟩
      rw [hL.b] at t2
      rw [← t2] at h1
      unfold namesL
      have h4 : L.take (at_ + 1 + y) = L.take (at_ + 1) ++ (L.drop (at_ + 1)).take y := by rw [List.take_add]
      rw [h4, List.filterMap_append, List.map_append]
      exact List.mem_append_left _ h1
  · rintro _ ⟨L, u3, u4, u5, u6, u7, u8, u9, u10, rfl, hL⟩
    repeat' fail
    rw [keys_mapT]
    refine l_for (fun q : Str × List Int => T.str q.1) pieces (fun d _ e => ∃ (L : List Ln) (u3 u4 u5 u6 u7 u8 u9 u10 : Option T), e = [some (.lst f ((b :: r).map T.int)), some (eDr .brw p bars pieces bays), some (.lst .own ((L.map Ln.txt).map T.str)), u3, u4, u5, u6, u7, u8, u9, u10] ∧ LI bars bays d [] L) ?_ ?_ ?_
    · exact ⟨L, _, _, _, _, _, _, _, _, rfl, hL⟩
    · clear hL
      rintro d q r' _ hd ⟨L, u3, u4, u5, u6, u7, u8, u9, u10, rfl, hL⟩
      have hq : q ∈ pieces := by rw [hd]; simp
      have hlk := look_of k.pn hq
      obtain ⟨g1, g2⟩ := pc_bd (k.pg q hq).2
      have hlen : L.length = bars.length + d.length + bays.length := by rw [hL.len]; simp
      have hdl : d.length < pieces.length := by rw [hd]; simp
      repeat' fail
      refine x_dic hlk ?_
      unfold eTp
      repeat' fail
      refine l_map (env := [some (.lst f ((b :: r).map T.int)), some (eDr .brw p bars pieces bays), some (.lst .own ((L.map Ln.txt).map T.str)), some (.str q.1), u4, u5, u6, u7, u8, u9, none]) T.int T.str q.2 (fun _ => true) numS (by rw [g1]; decide) (fun i hi => ?_) ?_
      · repeat' fail
        refine ⟨rfl, fun _ => ?_, fun h => nomatch h⟩
        repeat' fail
        · exact log_lt (g2 i hi).1 (g2 i hi).2
        · exact ⟨rfl, rfl, rfl⟩
      rw [filt_true]
      repeat' fail
      refine j_ln (x := .piece q.1 q.2) (k.pg q hq) rfl ?_
      repeat' fail
      all_goals (rename_i x _ hx; simp only [List.length_map] at hx)
      · omega
      · omega
      rw [ins_txt]
      exact ⟨_, _, _, _, _, _, _, _, _, rfl, hL.addPiece (k.pg q hq)⟩
    · clear hL
      rintro _ ⟨L, u3, u4, u5, u6, u7, u8, u9, u10, rfl, hL⟩
      have hlen : L.length = bars.length + pieces.length + bays.length := by rw [hL.len]; simp
      have hp := k.p
      repeat' fail
      · exact log_lt (by omega) (by omega)
      · have h1 := num_len (i := p) (by omega) (by omega)
        have h2 : ("plate " : Str).length = 6 := by decide +kernel
        have h3 : (Str.ofString (toString p)).length ≤ 16 := h1
        simp only [LIM]; omega
      all_goals (rename_i x _ hx; simp only [List.length_map] at hx)
      · omega
      · omega
      rw [show ((Str.ofString "plate " : Str) ++ Str.ofString (toString p)) = (Ln.plate p).txt from plate_txt p, ins_txt]
      repeat' fail
      exact ⟨_, rfl, hL.addPlate hp⟩
theorem c_names {n : Nat} {f : Fl} [f.Ro] {b : Int} {r : List Int} {k : Int} {Q : T → List T → Prop} {E : Xn → List T → Prop} (R : Row b r) (k0 : 0 ≤ k ∧ k ≤ 10 ^ 6) (h : ∀ (ns : List Str) (ios : List T), NamesOk ns 12 → Q (.lst .own (ns.map T.str)) ios) : CIs ((Iof PL (n + 2)).run f_q_names [.lst f ((b :: r).map T.int), .int k, .int 12]) Q E :=
  CIs.imp (s_names n f b r R k k0 12 (by decide)) fun _ ios ⟨ns, e, h0⟩ => e ▸ h ns ios h0
theorem c_qbar {n : Nat} {f : Fl} [f.Ro] {b : Int} {r : List Int} {k p : Int} {Q : T → List T → Prop} {E : Xn → List T → Prop} (R : Row b r) (k0 : 0 ≤ k ∧ k ≤ 10 ^ 6) (hp : 1 ≤ p ∧ p ≤ 1000000000000) (h : ∀ (l : List Int) (ios : List T), Bar6 l → Q (eTp l) ios) : CIs ((Iof PL (n + 3)).run f_q_bar [.lst f ((b :: r).map T.int), .int k, .int p]) Q E :=
  CIs.imp (s_qbar n f b r R k k0 p hp) fun _ ios ⟨l, e, h0⟩ => e ▸ h l ios h0
theorem c_qpiece {n : Nat} {f : Fl} [f.Ro] {b : Int} {r : List Int} {k p : Int} {Q : T → List T → Prop} {E : Xn → List T → Prop} (R : Row b r) (k0 : 0 ≤ k ∧ k ≤ 10 ^ 6) (hp : 1 ≤ p ∧ p ≤ 1000000000000) (h : ∀ (l : List Int) (ios : List T), Pc2 l → Q (eTp l) ios) : CIs ((Iof PL (n + 3)).run f_q_piece [.lst f ((b :: r).map T.int), .int k, .int p]) Q E :=
  CIs.imp (s_qpiece n f b r R k k0 p hp) fun _ ios ⟨l, e, h0⟩ => e ▸ h l ios h0
theorem c_qbay {n : Nat} {f : Fl} [f.Ro] {b : Int} {r : List Int} {k : Int} {bars : List (Str × List Int)} {Q : T → List T → Prop} {E : Xn → List T → Prop} (R : Row b r) (k0 : 0 ≤ k ∧ k ≤ 10 ^ 6) (hb : ∀ q ∈ bars, nameOk q.1 = true ∧ Bar6 q.2) (hl : bars.length ≤ 8) (h : ∀ (l : List Str) (ios : List T), BayOk bars l → Q (.lst .own (l.map T.str)) ios) : CIs ((Iof PL (n + 2)).run f_q_bay [.lst f ((b :: r).map T.int), .int k, eD .brw eTp bars]) Q E :=
  CIs.imp (s_qbay n f b r R k k0 bars (fun q hq => (hb q hq).2) (by omega) fun q hq => (hb q hq).1) fun _ ios ⟨l, e, h0⟩ => e ▸ h l ios h0
/-- a rig as drawn, with its lines -/
abbrev eDw (f : Fl) (p : Int) (bars pieces : List (Str × List Int)) (bays : List (Str × List Str)) (ls : List Str) : T := .dic f [.inr "plate", .inr "bars", .inr "pieces", .inr "bays", .inr "lines"] [.int p, eD f eTp bars, eD f eTp pieces, eD f (eT .frz) bays, .lst f (ls.map T.str)]
theorem look_not {α : Type} {xs : List (Str × α)} {s : Str} (h : s ∉ xs.map (·.1)) : xs.lookup s = none := by
  cases e : xs.lookup s with
  | none => rfl
  | some a => exact absurd (List.mem_map.mpr ⟨_, look_mem e, rfl⟩) h
theorem not_take {ns : List Str} (nd : ns.Nodup) {j : Nat} (h : j < ns.length) : ns[j] ∉ ns.take j := fun hm => by
  obtain ⟨i, hi, e⟩ := List.mem_take_iff_getElem.mp hm
  have := List.pairwise_iff_getElem.mp nd i j (by omega) h (by omega)
  exact this e
theorem nodup_snoc {ks : List Str} {s : Str} (h : ks.Nodup) (hs : s ∉ ks) : (ks ++ [s]).Nodup := List.pairwise_append.mpr ⟨h, by simp, fun a ha b hb => by rw [List.mem_singleton.mp hb]; exact fun e => hs (e ▸ ha)⟩
theorem s_qrig (n : Nat) (f : Fl) [f.Ro] (b : Int) (r : List Int) (R : Row b r) : CIs ((Iof PL (n + 4)).run f_q_rig [.lst f ((b :: r).map T.int)]) fun t ios => ∃ p bars pieces bays L, t = eDw .own p bars pieces bays (L.map Ln.txt) ∧ DrawnOk p bars pieces bays ∧ LI bars bays pieces [p] L := by
  refine en_q_rig ?_
  unfold b_q_rig
  repeat' fail
  rename_i _ _ _ _ _ _ _ _ many hmany _ _ _ _ _ _ _ _ parts hparts _ _ _ _ _ _ _ _ _ _ _ p hpv
  have hp : 1 ≤ p ∧ p ≤ 1000000000000 := by omega
  refine c_names R (by omega) fun ns _ hns => ?_
  repeat' fail
  refine c_names R (by omega) fun os _ hos => ?_
  repeat' fail
  have hm1 : 1 ≤ many ∧ many ≤ 8 := by omega
  have hq1 : 0 ≤ parts ∧ parts ≤ 12 := by omega
  clear hmany hparts hpv
  have nl := hns.len
  have ol := hos.len
  refine ⟨by unfold int62; omega, ?_⟩
  refine l_rng (fun j e => ∃ (bars : List (Str × List Int)) (u v : Option T), e = [some (.lst f ((b :: r).map T.int)), some (.int many), some (.int parts), some (.int p), some (.lst .frz (ns.map T.str)), some (.lst .frz (os.map T.str)), some (eDr .own p bars [] []), u, v] ∧ bars.map (·.1) = ns.take j ∧ ∀ q ∈ bars, nameOk q.1 = true ∧ Bar6 q.2) ?_ ?_ ?_
  · exact ⟨[], _, _, rfl, rfl, by simp⟩
  · rintro j _ hj ⟨bars, u, v, rfl, hk, hg⟩
    have hj' : j < ns.length := by omega
    have ej : ((0 : Int) + (j : Nat)).toNat = j := by omega
    have hbl : bars.length = j := by have := congrArg List.length hk; simp at this; omega
    repeat' fail
    refine c_qbar R (by omega) hp fun l _ hl => ?_
    repeat' fail
    refine x_lst (by omega) (by rw [ej]; exact hj') ?_
    simp only [ej]
    repeat' fail
    refine d_add (enc := eTp) (a := l) (look_not (by rw [hk]; exact not_take hns.nd hj')) (by simp only [LIM]; omega) ?_
    repeat' fail
    refine ⟨bars ++ [(ns[j], l)], _, _, rfl, ?_, fun q hq => ?_⟩
    · rw [List.map_append, hk, List.take_succ_eq_append_getElem hj']; rfl
    · rcases List.mem_append.mp hq with h | h
      · exact hg q h
      · rw [List.mem_singleton.mp h]; exact ⟨hns.ok _ (List.getElem_mem hj'), hl⟩
  rintro _ ⟨bars, u, v, rfl, hk, hg⟩
  have hbl : 1 ≤ bars.length ∧ bars.length ≤ 8 := by have := congrArg List.length hk; simp at this; omega
  have hbn : (bars.map (·.1)).Nodup := by rw [hk]; exact hns.nd.sublist (List.take_sublist _ _)
  clear hk
  repeat' fail
  refine ⟨by unfold int62; omega, ?_⟩
  refine l_rng (fun j e => ∃ (pieces : List (Str × List Int)) (u v : Option T), e = [some (.lst f ((b :: r).map T.int)), some (.int many), some (.int parts), some (.int p), some (.lst .frz (ns.map T.str)), some (.lst .frz (os.map T.str)), some (eDr .own p bars pieces []), u, v] ∧ pieces.map (·.1) = os.take j ∧ ∀ q ∈ pieces, nameOk q.1 = true ∧ Pc2 q.2) ?_ ?_ ?_
  · exact ⟨[], _, _, rfl, rfl, by simp⟩
  · rintro j _ hj ⟨pieces, u, v, rfl, hk, hpg⟩
    have hj' : j < os.length := by omega
    have ej : ((0 : Int) + (j : Nat)).toNat = j := by omega
    have hpl : pieces.length = j := by have := congrArg List.length hk; simp at this; omega
    repeat' fail
    refine c_qpiece R (by omega) hp fun l _ hl => ?_
    repeat' fail
    refine x_lst (by omega) (by rw [ej]; exact hj') ?_
    simp only [ej]
    repeat' fail
    refine d_add (enc := eTp) (a := l) (look_not (by rw [hk]; exact not_take hos.nd hj')) (by simp only [LIM]; omega) ?_
    repeat' fail
    refine ⟨pieces ++ [(os[j], l)], _, _, rfl, ?_, fun q hq => ?_⟩
    · rw [List.map_append, hk, List.take_succ_eq_append_getElem hj']; rfl
    · rcases List.mem_append.mp hq with h | h
      · exact hpg q h
      · rw [List.mem_singleton.mp h]; exact ⟨hos.ok _ (List.getElem_mem hj'), hl⟩
  rintro _ ⟨pieces, u, v, rfl, hk, hpg⟩
  have hpl : pieces.length ≤ 12 := by have := congrArg List.length hk; simp at this; omega
  have hpn : (pieces.map (·.1)).Nodup := by rw [hk]; exact hos.nd.sublist (List.take_sublist _ _)
  clear hk
  repeat' fail
  rename_i _ _ _ _ _ _ _ _ bm hbm
  have hbm1 : 0 ≤ bm ∧ bm ≤ 12 := by omega
  clear hbm
  refine ⟨by unfold int62; omega, ?_⟩
  refine l_rng (fun j e => ∃ (bays : List (Str × List Str)) (u v : Option T), e = [some (.lst f ((b :: r).map T.int)), some (.int many), some (.int parts), some (.int p), some (.lst .frz (ns.map T.str)), some (.lst .frz (os.map T.str)), some (eDr .own p bars pieces bays), u, v] ∧ bays.length ≤ j ∧ (bays.map (·.1)).Nodup ∧ (∀ q ∈ bays, ∃ i, i < j ∧ ns[11 - i]? = some q.1) ∧ ∀ q ∈ bays, nameOk q.1 = true ∧ BayOk bars q.2 ∧ 2 ≤ q.2.length) ?_ ?_ ?_
  · exact ⟨[], _, _, rfl, by simp, by simp, by simp, by simp⟩
  · rintro j _ hj ⟨bays, u, v, rfl, h1, h2, h3, h4⟩
    have hj' : 11 - j < ns.length := by omega
    have ej : ((11 : Int) - (0 + (j : Nat))).toNat = 11 - j := by omega
    repeat' fail
    refine c_qbay R (by omega) hg hbl.2 fun l _ hl => ?_
    repeat' fail
    · rename_i hlen
      refine x_lst (by omega) (by rw [ej]; exact hj') ?_
      simp only [ej]
      repeat' fail
      have hnew : ns[11 - j] ∉ bays.map (·.1) := fun hm => by
        obtain ⟨q, hq, e⟩ := List.mem_map.mp hm
        obtain ⟨i, hi, e2⟩ := h3 q hq
        rw [e, List.getElem?_eq_some_iff] at e2
        obtain ⟨a, e2⟩ := e2
        exact List.pairwise_iff_getElem.mp hns.nd (11 - j) (11 - i) hj' a (by omega) e2.symm
      refine d_add (enc := eT .frz) (a := l) (look_not hnew) (by simp only [LIM]; omega) ?_
      repeat' fail
      refine ⟨bays ++ [(ns[11 - j], l)], _, _, rfl, by simp; omega, by rw [List.map_append]; exact nodup_snoc h2 hnew, fun q hq => ?_, fun q hq => ?_⟩
      · rcases List.mem_append.mp hq with h | h
        · obtain ⟨i, hi, e⟩ := h3 q h
          exact ⟨i, by omega, e⟩
        · rw [List.mem_singleton.mp h]; exact ⟨j, by omega, List.getElem?_eq_getElem hj'⟩
      · rcases List.mem_append.mp hq with h | h
        · exact h4 q h
        · rw [List.mem_singleton.mp h]; exact ⟨hns.ok _ (List.getElem_mem hj'), hl, by show 2 ≤ l.length; omega⟩
    · exact ⟨bays, _, _, rfl, by omega, h2, fun q hq => by obtain ⟨i, hi, e⟩ := h3 q hq; exact ⟨i, by omega, e⟩, h4⟩
  rintro _ ⟨bays, u, v, rfl, h1, h2, h3, h4⟩
  have D : DrawnOk p bars pieces bays := ⟨hp, hbn, hpn, h2, hbl, hpl, by omega, hg, hpg, h4⟩
  repeat' fail
  refine CIs.imp (s_lines (n + 1) f b r R p bars pieces bays D) ?_
  rintro _ _ ⟨L, rfl, hL⟩
  repeat' fail
  refine OpK.of (t := eDw .own p bars pieces bays (L.map Ln.txt)) (by rfl) ?_
  repeat' fail
  exact ⟨p, bars, pieces, bays, L, rfl, D, hL⟩
theorem s_alikeI (n : Nat) (a b : Int) : CIs ((Iof PL (n + 1)).run f_q_alike [.int a, .int b]) fun t ios => t = .bl (decide (a = b)) := by
  refine en_q_alike ?_
  unfold b_q_alike
  refine s_cons ?_
  repeat' fail
  rfl
theorem s_alikeL (n : Nat) (f g : Fl) [f.Ro] [g.Ro] (xs ys : List Int) (hl : ys.length ≤ 1000) : CIs ((Iof PL (n + 2)).run f_q_alike [.lst f (xs.map T.int), .lst g (ys.map T.int)]) fun t ios => t = .bl (decide (xs = ys)) := by
  refine en_q_alike ?_
  unfold b_q_alike
  refine s_cons ?_
  repeat' fail
  all_goals try (exfalso; rename_i z; exact z rfl)
  · rename_i h
    have : xs ≠ ys := fun z => h (by rw [z])
    simp [this]
  · rename_i h
    refine ⟨by unfold int62; omega, ?_⟩
    unfold rngT
    refine l_map (env := [some (.lst f (xs.map T.int)), some (.lst g (ys.map T.int)), none]) _ T.bl (List.range ((ys.length : Int) - 0).toNat) (fun _ => true) (fun k => decide (xs[k]? = ys[k]?)) (by simp only [List.length_range, LIM]; omega) (fun k hk => ?_) ?_
    · have hk := List.mem_range.mp hk
      repeat' fail
      refine ⟨rfl, fun _ => ?_, fun h => nomatch h⟩
      repeat' fail
      refine x_lst (by omega) (by omega) ?_
      repeat' fail
      refine x_lst (by omega) (by omega) ?_
      repeat' fail
      refine CIs.imp (s_alikeI n _ _) ?_
      rintro _ _ rfl
      refine ⟨?_, rfl, rfl⟩
      have e : (0 + (k : Int)).toNat = k := by omega
      simp only [e]
      rw [getEl (show k < xs.length by omega), getEl (show k < ys.length by omega)]
      simp
    · repeat' fail
      have fe : ∀ l : List Nat, l.filter (fun _ => true) = l := fun l => by simp
      rw [fe]
      have hh : xs.length = ys.length := by omega
      have key : ((List.range ((ys.length : Int) - 0).toNat).map fun k => decide (xs[k]? = ys[k]?)).all id = decide (xs = ys) := by
        rw [Bool.eq_iff_iff, List.all_eq_true, decide_eq_true_iff]
        constructor
        · intro z
          refine List.ext_getElem? fun i => ?_
          by_cases hi : i < ys.length
          · have := z (decide (xs[i]? = ys[i]?)) (List.mem_map.mpr ⟨i, List.mem_range.mpr (by omega), rfl⟩)
            exact of_decide_eq_true this
          · rw [List.getElem?_eq_none (by omega), List.getElem?_eq_none (by omega)]
        · intro z v hv
          obtain ⟨i, _, rfl⟩ := List.mem_map.mp hv
          rw [z]
          exact decide_eq_true rfl
      rw [key]
theorem look_perm {α : Type} {xs ys : List (Str × α)} (h : xs.Perm ys) (nd : (ys.map (·.1)).Nodup) (s : Str) : xs.lookup s = ys.lookup s := by
  have nd' : (xs.map (·.1)).Nodup := (h.map (·.1)).nodup_iff.mpr nd
  cases e : ys.lookup s with
  | some a => exact look_of nd' (h.mem_iff.mpr (look_mem e))
  | none =>
    cases e2 : xs.lookup s with
    | none => rfl
    | some a =>
      rw [look_of nd (h.mem_iff.mp (look_mem e2))] at e
      cases e
/-- a rig made of drawn lines -/
structure RigFor (R : RigS) (p : Int) (bars pieces : List (Str × List Int)) (bays : List (Str × List Str)) : Prop where
  ok : R.Ok
  ir : R.iron = some p
  ba : R.bars = bars
  pi : R.pieces.Perm pieces
  by_ : R.bays.Perm bays
theorem lines_ok {p : Int} {bars pieces : List (Str × List Int)} {bays : List (Str × List Str)} {L : List Ln} (k : DrawnOk p bars pieces bays) (h : LI bars bays pieces [p] L) : LinesOk .zero L ∧ RigFor (rigOf .zero L) p bars pieces bays := by
  have hb : RigS.zero.bars ++ L.filterMap Ln.barOf = bars := h.b
  have hl : LinesOk .zero L := by
    refine ⟨h.good, by rw [hb]; exact k.bn, by rw [hb]; exact k.bl.2, ?_, ?_, ?_, ?_, .inl ⟨rfl, by rw [h.pl]; exact Nat.le_refl 1⟩, h.ord, fun s bs hm => ?_⟩
    · exact (h.p.map (·.1)).nodup_iff.mpr k.pn
    · show (L.filterMap Ln.pieceOf).length ≤ 12
      rw [h.p.length_eq]; exact k.pl
    · exact (h.y.map (·.1)).nodup_iff.mpr k.yn
    · show (L.filterMap Ln.bayOf).length ≤ 12
      rw [h.y.length_eq]; exact k.yl
    · rw [hb]
      have : (s, bs) ∈ L.filterMap Ln.bayOf := List.mem_filterMap.mpr ⟨_, hm, rfl⟩
      exact (k.yg _ (h.y.mem_iff.mp this)).2.1.up
  refine ⟨hl, foldRig_ok zero_ok (fold_lines L .zero hl), ?_, hb, h.p, h.y⟩
  show (none : Option Int).or (L.filterMap Ln.plateOf).head? = some p
  rw [h.pl]; rfl
theorem c_Rig {n : Nat} {p : Int} {bars pieces : List (Str × List Int)} {bays : List (Str × List Str)} {L : List Ln} {Q : T → List T → Prop} {E : Xn → List T → Prop} (k : DrawnOk p bars pieces bays) (h : LI bars bays pieces [p] L) (q : ∀ R, RigFor R p bars pieces bays → Q .non [eR .own R]) :
    CIs ((Iof PL (n + 5)).run f_m_Rig_init [.ins .own 0 [], .lst .brw ((L.map Ln.txt).map T.str)]) Q E := by
  obtain ⟨h1, h2⟩ := lines_ok k h
  have hl := h.len
  have kb := k.bl
  have := k.pl
  have := k.yl
  refine CIs.imp (s_Rig_init n .brw (L.map Ln.txt) (rigOf .zero L) (by simp only [LIM, List.length_map]; simp at hl; omega) (fun l hl => ?_) (fold_lines L .zero h1) (by rw [h2.ir]; rfl) (by rw [h2.ba]; exact fun z => by rw [z] at kb; exact absurd kb.1 (by decide))) ?_
  · obtain ⟨x, hx, rfl⟩ := List.mem_map.mp hl
    have := txt_len (h.good x hx)
    simp only [LIM]; omega
  · rintro _ _ ⟨rfl, rfl⟩
    exact q _ h2
theorem s_some (n : Nat) (f : Fl) [f.Ro] (b : Int) (r : List Int) (R : Row b r) (k : Int) (k0 : 0 ≤ k ∧ k ≤ 10 ^ 6) (p : Int) (bars pieces : List (Str × List Int)) (bays : List (Str × List Str)) (ls : List Str) (hl : pieces.length ≤ 12) :
    CIs ((Iof PL (n + 2)).run f_q_some [.lst f ((b :: r).map T.int), .int k, eDw .frz p bars pieces bays ls]) fun t ios => ∃ ps : List Str, t = .lst .own (ps.map T.str) ∧ (∀ s ∈ ps, s ∈ pieces.map (·.1)) ∧ ps.length ≤ pieces.length := by
  refine en_q_some ?_
  unfold b_q_some
  repeat' fail
  rw [keys_map, enuT_map]
  refine l_for _ ((pieces.map (·.1)).zipIdx 0) (fun d _ e => ∃ (ps : List Str) (u v : Option T), e = [some (.lst f ((b :: r).map T.int)), some (.int k), some (eDw .frz p bars pieces bays ls), some (.lst .own (ps.map T.str)), u, v] ∧ (∀ s ∈ ps, s ∈ pieces.map (·.1)) ∧ ps.length ≤ d.length) ?_ ?_ ?_
  · exact ⟨[], _, _, rfl, by simp, by simp⟩
  · rintro d ⟨s, j⟩ r' _ hd ⟨ps, u, v, rfl, h1, h2⟩
    obtain ⟨z1, z2, z3⟩ := zipIdx_at hd
    simp only [List.length_map] at z3
    have hs : s ∈ pieces.map (·.1) := List.mem_of_getElem? z2
    repeat' fail
    · omega
    · omega
    · rename_i x _ hx
      refine ⟨_, _, _, rfl, fun s' hs' => ?_, ?_⟩
      · rcases List.mem_append.mp hs' with h | h
        · exact h1 _ (List.mem_of_mem_take h)
        · rcases List.mem_cons.mp h with rfl | h
          · exact hs
          · exact h1 _ (List.mem_of_mem_drop h)
      · simp only [List.length_append, List.length_take, List.length_cons, List.length_drop]; omega
    · exact ⟨ps, _, _, rfl, h1, by simp; omega⟩
  · rintro _ ⟨ps, u, v, rfl, h1, h2⟩
    repeat' fail
    exact ⟨ps, rfl, h1, by simpa using h2⟩
theorem s_qlean (n : Nat) (g : Fl) [g.Ro] (p : Int) (bars pieces : List (Str × List Int)) (bays : List (Str × List Str)) (ls : List Str) (D : DrawnOk p bars pieces bays) (R : RigS) (hR : RigFor R p bars pieces bays) (s : Str) (hs : (bars.lookup s).isSome = true) (ps : List Str) (hps : ∀ q ∈ ps, q ∈ pieces.map (·.1)) (hl : ps.length ≤ 1000) (k : Int) (k0 : -(2 ^ 200) < k ∧ k < 2 ^ 200) :
    CIs ((Iof PL (n + 1)).run f_q_lean [eDw .frz p bars pieces bays ls, .str s, eS g ps, .int k]) fun t ios => t = .int (leanOf R s ps k p) := by
  refine en_q_lean ?_
  unfold b_q_lean
  have hkn : Knows R ps := fun q hq => by rw [look_perm hR.pi D.pn]; exact look_key (hps q hq)
  have hb := br_of hR.ok (s := s) (by rw [hR.ba]; exact hs)
  have hb1 := hb.1
  rw [hR.ba] at hb1
  have hld := load_bd hR.ok hkn
  have hp := D.p
  repeat' fail
  refine l_map (env := [some (eDw .frz p bars pieces bays ls), some (.str s), some (eS g ps), some (.int k), none, none]) T.str T.int ps (fun _ => true) (wOf R) (by simp only [LIM]; omega) (fun x hx => ?_) ?_
  · have h1 := (pc_of hR.ok (hkn x hx)).1
    rw [look_perm hR.pi D.pn] at h1
    repeat' fail
    refine ⟨rfl, fun _ => ?_, fun h => nomatch h⟩
    repeat' fail
    refine x_dic h1 ?_
    repeat' fail
    exact ⟨rfl, rfl, rfl⟩
  rw [filt_true]
  repeat' fail
  refine x_dic hb1 ?_
  repeat' fail
  · exact mulB (by omega) (by show -(2 ^ 250) < loadOf R ps ∧ loadOf R ps < 2 ^ 250; omega)
  repeat' fail
  rfl
theorem c_qlean {n : Nat} {g : Fl} [g.Ro] {p : Int} {bars pieces : List (Str × List Int)} {bays : List (Str × List Str)} {ls : List Str} {R : RigS} {s : Str} {ps : List Str} {k : Int} {Q : T → List T → Prop} {E : Xn → List T → Prop} (D : DrawnOk p bars pieces bays) (hR : RigFor R p bars pieces bays) (hs : (bars.lookup s).isSome = true) (hps : ∀ q ∈ ps, q ∈ pieces.map (·.1)) (hl : ps.length ≤ 1000) (k0 : -(2 ^ 200) < k ∧ k < 2 ^ 200)
    (q : ∀ ios, Q (.int (leanOf R s ps k p)) ios) : CIs ((Iof PL (n + 1)).run f_q_lean [eDw .frz p bars pieces bays ls, .str s, eS g ps, .int k]) Q E := CIs.imp (s_qlean n g p bars pieces bays ls D R hR s hs ps hps hl k k0) fun _ ios e => e ▸ q ios
theorem sum_snoc (R : RigS) (ps : List Str) (x : Str) : loadOf R (ps ++ [x]) = loadOf R ps + wOf R x := by unfold loadOf; simp
theorem drop_snoc (R : RigS) (ps : List Str) (x : Str) : dropOf R (ps ++ [x]) = max (dropOf R ps) (dOf R x) := by unfold dropOf; simp
theorem c_qrig {n : Nat} {f : Fl} [f.Ro] {b : Int} {r : List Int} {Q : T → List T → Prop} {E : Xn → List T → Prop} (R : Row b r) (h : ∀ p bars pieces bays L ios, DrawnOk p bars pieces bays → LI bars bays pieces [p] L → Q (eDw .own p bars pieces bays (L.map Ln.txt)) ios) : CIs ((Iof PL (n + 4)).run f_q_rig [.lst f ((b :: r).map T.int)]) Q E :=
  CIs.imp (s_qrig n f b r R) fun _ ios ⟨p, bars, pieces, bays, L, e, h1, h2⟩ => e ▸ h p bars pieces bays L ios h1 h2
/-- the least and the most plates that balance -/
def leastOf (L s p : Int) : Int := max 0 (-((s - L) / p))
def mostOf (L s p : Int) : Int := (L + s) / p
/-- there are counts that balance -/
def fitsOf (R : RigS) (b : Str) (ps : List Str) (p : Int) : Prop := leastOf (pullOf R b ps) (barN R b 4) p ≤ mostOf (pullOf R b ps) (barN R b 4) p ∧ leastOf (pullOf R b ps) (barN R b 4) p ≤ barN R b 2
instance {R : RigS} {b : Str} {ps : List Str} {p : Int} : Decidable (fitsOf R b ps p) := by unfold fitsOf; infer_instance
/-- why not, and what lacks -/
def unbOf (R : RigS) (b : Str) (ps : List Str) (p : Int) : Str × Int := if leastOf (pullOf R b ps) (barN R b 4) p > mostOf (pullOf R b ps) (barN R b 4) p then ("plate", min (pullOf R b ps % p) (p - pullOf R b ps % p) - barN R b 4) else ("room", leastOf (pullOf R b ps) (barN R b 4) p - barN R b 2)
def eCt (R : RigS) (b : Str) (ps : List Str) (p : Int) : T := .tup [.int (leastOf (pullOf R b ps) (barN R b 4) p), .int (min (mostOf (pullOf R b ps) (barN R b 4) p) (barN R b 2))]
theorem s_counts (n : Nat) (f g : Fl) [f.Ro] [g.Ro] (R : RigS) (hR : R.Ok) {p : Int} (hp : R.iron = some p) (b : Str) (hb : (R.bars.lookup b).isSome = true) (ps : List Str) (hk : Knows R ps) (hl : ps.length ≤ 1000000) :
    CIs ((Iof PL (n + 5)).run f_counts_of [eR f R, .str b, eS g ps])
      (fun t ios => fitsOf R b ps p ∧ t = eCt R b ps p)
      (fun x _ => ¬ fitsOf R b ps p ∧ x = ⟨2, [.str b, .str (unbOf R b ps p).1, .int (unbOf R b ps p).2]⟩) := by
  refine en_counts_of ?_
  unfold b_counts_of
  have h2 := hR.ib p hp
  obtain ⟨h1, h3⟩ := br_of hR hb
  repeat' fail
  refine CIs.imp (s_pull_of n f g R hR b hb ps hk hl) ?_
  rintro _ _ rfl
  repeat' fail
  refine CIs.imp (s_plate (n + 3) f R hp) ?_
  rintro _ _ rfl
  repeat' fail
  refine CIs.imp (s_slack (n + 2) f R h1) ?_
  rintro _ _ rfl
  repeat' fail
  · exact divB (by omega) (by omega)
  · exact divB (by omega) (by omega)
  refine s_cons ?_
  have el : (max 0 (-((barN R b 4 - pullOf R b ps) / p))) = leastOf (pullOf R b ps) (barN R b 4) p := rfl
  have em : ((pullOf R b ps + barN R b 4) / p) = mostOf (pullOf R b ps) (barN R b 4) p := rfl
  rw [el, em]
  (repeat' fail)
  · omega
  · rename_i h
    refine ⟨_, rfl, fun z => by have := z.1; omega, ?_⟩
    rw [show unbOf R b ps p = (("plate" : Str), min (pullOf R b ps % p) (p - pullOf R b ps % p) - barN R b 4) from if_pos h]
    rfl
  refine CIs.imp (s_room (n + 2) f R h1) ?_
  rintro _ _ rfl
  (repeat' fail)
  · refine CIs.imp (s_room (n + 2) f R h1) ?_
    rintro _ _ rfl
    (repeat' fail)
    rename_i h h'
    refine ⟨_, rfl, fun z => by have := z.2; omega, ?_⟩
    rw [show unbOf R b ps p = (("room" : Str), leastOf (pullOf R b ps) (barN R b 4) p - barN R b 2) from if_neg (by omega)]
    rfl
  · refine CIs.imp (s_room (n + 2) f R h1) ?_
    rintro _ _ rfl
    (repeat' fail)
    rename_i h h'
    exact ⟨⟨by omega, by omega⟩, rfl⟩
/-- plain values -/
inductive Sc where
  | i (n : Int) | s (s : Str) | n | b (b : Bool)
  deriving DecidableEq
def eSc : Sc → T | .i n => .int n | .s s => .str s | .n => .non | .b b => .bl b
instance {x : Sc} : Nv (eSc x) := by cases x <;> exact ⟨rfl⟩
instance {x : Sc} : Nb (eSc x) := by cases x <;> exact ⟨rfl⟩
instance {x : Sc} : Nx (eSc x) := by cases x <;> exact ⟨rfl⟩
instance {g : Fl → Fl} {x : Sc} : MapTo g (eSc x) (eSc x) := by cases x <;> exact ⟨rfl⟩
theorem s_alike0 (n : Nat) (x y : Sc) : CIs ((Iof PL (n + 1)).run f_q_alike [eSc x, eSc y]) fun t ios => t = .bl (decide (x = y)) := by
  refine en_q_alike ?_
  unfold b_q_alike
  cases x <;> cases y <;> unfold eSc <;> dsimp only
  all_goals (refine s_cons ?_)
  all_goals ((repeat' fail); try (first | rfl | simp_all))
theorem s_alikeT (n : Nat) (xs ys : List Sc) (hl : ys.length ≤ 1000) : CIs ((Iof PL (n + 2)).run f_q_alike [.tup (xs.map eSc), .tup (ys.map eSc)]) fun t ios => t = .bl (decide (xs = ys)) := by
  refine en_q_alike ?_
  unfold b_q_alike
  refine s_cons ?_
  repeat' fail
  all_goals try (exfalso; rename_i z; exact z rfl)
  · rename_i h
    have : xs ≠ ys := fun z => h (by rw [z])
    simp [this]
  · rename_i h
    simp only [List.length_map] at h
    refine ⟨by unfold int62; simp only [List.length_map]; omega, ?_⟩
    unfold rngT
    refine l_map (env := [some (.tup (xs.map eSc)), some (.tup (ys.map eSc)), none]) _ T.bl (List.range (((ys.map eSc).length : Int) - 0).toNat) (fun _ => true) (fun k => decide (xs[k]? = ys[k]?)) (by simp only [List.length_range, LIM, List.length_map]; omega) (fun k hk => ?_) ?_
    · have hk := List.mem_range.mp hk
      simp only [List.length_map] at hk
      repeat' fail
      refine ⟨rfl, fun _ => ?_, fun h => nomatch h⟩
      repeat' fail
      refine x_tup (by omega) (by omega) ?_
      repeat' fail
      refine x_tup (by omega) (by omega) ?_
      repeat' fail
      refine CIs.imp (s_alike0 n _ _) ?_
      rintro _ _ rfl
      refine ⟨?_, rfl, rfl⟩
      have e : (0 + (k : Int)).toNat = k := by omega
      simp only [e]
      rw [List.getElem?_eq_getElem (show k < xs.length by omega), List.getElem?_eq_getElem (show k < ys.length by omega)]
      simp
    · repeat' fail
      rw [List.filter_eq_self.mpr (fun _ _ => rfl)]
      have hh : xs.length = ys.length := by omega
      have key : ((List.range (((ys.map eSc).length : Int) - 0).toNat).map fun k => decide (xs[k]? = ys[k]?)).all id = decide (xs = ys) := by
        simp only [List.length_map]
        rw [Bool.eq_iff_iff, List.all_eq_true, decide_eq_true_iff]
        constructor
        · intro z
          refine List.ext_getElem? fun i => ?_
          by_cases hi : i < ys.length
          · have := z (decide (xs[i]? = ys[i]?)) (List.mem_map.mpr ⟨i, List.mem_range.mpr (by omega), rfl⟩)
            exact of_decide_eq_true this
          · rw [List.getElem?_eq_none (by omega), List.getElem?_eq_none (by omega)]
        · intro z v hv
          obtain ⟨i, _, rfl⟩ := List.mem_map.mp hv
          rw [z]
          exact decide_eq_true rfl
      rw [key]
theorem fit_iff {L s p k : Int} (hp : 1 ≤ p) (k0 : 0 ≤ k) : (if L - k * p < 0 then -(L - k * p) else L - k * p) ≤ s ↔ leastOf L s p ≤ k ∧ k ≤ mostOf L s p := by
  have h1 : -k ≤ (s - L) / p ↔ -k * p ≤ s - L := Int.le_ediv_iff_mul_le (by omega)
  have h2 : k ≤ (L + s) / p ↔ k * p ≤ L + s := Int.le_ediv_iff_mul_le (by omega)
  rw [Int.neg_mul] at h1
  unfold leastOf mostOf
  generalize (s - L) / p = u at *
  generalize (L + s) / p = v at *
  generalize k * p = w at *
  omega
theorem filt_range {a b : Nat} : ∀ N : Nat, (List.range N).filter (fun k => decide (a ≤ k ∧ k ≤ b)) = List.range' a (min (b + 1) N - a)
  | 0 => by rw [show min (b + 1) 0 - a = 0 by omega]; rfl
  | N + 1 => by
    rw [List.range_succ, List.filter_append, filt_range N]
    by_cases h : a ≤ N ∧ N ≤ b
    · rw [show min (b + 1) (N + 1) - a = (min (b + 1) N - a) + 1 by omega, List.range'_concat, show a + 1 * (min (b + 1) N - a) = N by omega]
      simp [h]
    · rw [show min (b + 1) (N + 1) - a = min (b + 1) N - a by omega]
      simp [h]
/-- the counts that balance, from 0 to the room -/
theorem fits_eq {L s p r : Int} (hp : 1 ≤ p) (hL : 0 ≤ L) (hs : 0 ≤ s) (hr : 0 ≤ r) : ((List.range (r + 1 - 0).toNat).filter fun k => decide ((if L - (0 + (k : Nat) : Int) * p < 0 then -(L - (0 + (k : Nat) : Int) * p) else L - (0 + (k : Nat) : Int) * p) ≤ s)) = List.range' (leastOf L s p).toNat (min ((mostOf L s p).toNat + 1) (r + 1).toNat - (leastOf L s p).toNat) := by
  have hm : 0 ≤ mostOf L s p := Int.ediv_nonneg (by omega) (by omega)
  have hl : 0 ≤ leastOf L s p := by unfold leastOf; omega
  rw [← filt_range, show r + 1 - 0 = r + 1 by omega]
  refine List.filter_congr fun k _ => decide_eq_decide.mpr ?_
  rw [show (0 + (k : Nat) : Int) = (k : Int) by omega, fit_iff hp (by omega)]
  omega
theorem s_asked13 (n : Nat) (g : Fl) [g.Ro] (R : RigS) (hR : R.Ok) {p : Int} (hp : R.iron = some p) (b : Str) (hb : (R.bars.lookup b).isSome = true) (ps : List Str) (hk : Knows R ps) (hl : ps.length ≤ 1000000) :
    CIs ((Iof PL (n + 6)).run f_q_asked [eR .frz R, .str b, eS g ps]) fun t ios => t = if fitsOf R b ps p then eCt R b ps p else .tup [.str b, .str (unbOf R b ps p).1, .int (unbOf R b ps p).2] := by
  refine en_q_asked ?_
  unfold b_q_asked
  repeat' fail
  refine s_cons ?_
  repeat' fail
  refine CIs.impX (s_counts n .frz g R hR hp b hb ps hk hl) ?_ ?_
  · rintro _ _ ⟨h, rfl⟩
    unfold eCt
    repeat' fail
    rw [if_pos h]
  · rintro _ _ ⟨h, rfl⟩
    repeat' fail
    rw [if_neg h]
/-- the least distance to a number of plates -/
theorem off_le {L p s : Int} (hp : 1 ≤ p) (hL : 0 ≤ L) (hs : 0 ≤ s) : min (L - L / p * p) ((L / p + 1) * p - L) ≤ s ↔ leastOf L s p ≤ mostOf L s p := by
  have h0 : 0 ≤ L / p := Int.ediv_nonneg hL (by omega)
  constructor
  · intro h
    rcases (show L - L / p * p ≤ s ∨ (L / p + 1) * p - L ≤ s by omega) with z | z
    · have h1 : L / p * p ≤ L := Int.ediv_mul_le L (by omega)
      have := (fit_iff (L := L) (s := s) hp h0).mp (by split <;> omega)
      omega
    · have h1 : L < (L / p + 1) * p := Int.lt_ediv_add_one_mul_self L (by omega)
      have := (fit_iff (L := L) (s := s) (k := L / p + 1) hp (by omega)).mp (by split <;> omega)
      omega
  · intro h
    have hl : 0 ≤ leastOf L s p := by unfold leastOf; omega
    have := (fit_iff (L := L) (s := s) hp hl).mpr ⟨Int.le_refl _, h⟩
    generalize leastOf L s p = k at *
    rcases (show L / p < k ∨ k ≤ L / p by omega) with z | z
    · have : (L / p + 1) * p ≤ k * p := Int.mul_le_mul_of_nonneg_right (by omega) (by omega)
      split at * <;> omega
    · have : k * p ≤ L / p * p := Int.mul_le_mul_of_nonneg_right (by omega) (by omega)
      split at * <;> omega
theorem ceil_eq {x p : Int} (hp : 1 ≤ p) : (x + p - 1) / p = -((-x) / p) := by
  have h1 := Int.ediv_mul_le (-x) (show p ≠ 0 by omega)
  have h2 := Int.lt_ediv_add_one_mul_self (-x) (show 0 < p by omega)
  generalize hq : (-x) / p = q at *
  rw [Int.add_mul] at h2
  have a : -q ≤ (x + p - 1) / p := (Int.le_ediv_iff_mul_le (by omega)).mpr (by rw [Int.neg_mul]; omega)
  have b : (x + p - 1) / p < -q + 1 := (Int.ediv_lt_iff_lt_mul (by omega)).mpr (by rw [Int.add_mul, Int.neg_mul]; omega)
  omega
theorem s_due13 (n : Nat) (g : Fl) [g.Ro] {p : Int} {bars pieces : List (Str × List Int)} {bays : List (Str × List Str)} {ls : List Str} {R : RigS} {s : Str} {ps : List Str} (D : DrawnOk p bars pieces bays) (hR : RigFor R p bars pieces bays) (hs : (bars.lookup s).isSome = true) (hps : ∀ q ∈ ps, q ∈ pieces.map (·.1)) (hl : ps.length ≤ 1000) :
    CIs ((Iof PL (n + 2)).run f_q_due [eDw .frz p bars pieces bays ls, .str s, eS g ps]) fun t ios => t = if fitsOf R s ps p then .non else .tup [.str s, .str (unbOf R s ps p).1, .int (unbOf R s ps p).2] := by
  refine en_q_due ?_
  unfold b_q_due
  have hsR : (R.bars.lookup s).isSome = true := by rw [hR.ba]; exact hs
  have hb := br_of hR.ok hsR
  have hb1 := hb.1
  rw [hR.ba] at hb1
  have hp := D.p
  have hkn : Knows R ps := fun q hq => by rw [look_perm hR.pi D.pn]; exact look_key (hps q hq)
  have hpd := pull_bd hR.ok hsR hkn
  have hoff := off_le (L := pullOf R s ps) (p := p) (s := barN R s 4) hp.1 hpd.1 hb.2.2.2.2.2.1.1
  have hceil := ceil_eq (x := pullOf R s ps - barN R s 4) hp.1
  rw [show -(pullOf R s ps - barN R s 4) = barN R s 4 - pullOf R s ps by omega] at hceil
  have hlo : max 0 ((pullOf R s ps - barN R s 4 + p - 1) / p) = leastOf (pullOf R s ps) (barN R s 4) p := by unfold leastOf; omega
  have hm1 : pullOf R s ps - pullOf R s ps / p * p = pullOf R s ps % p := by rw [Int.emod_def, Int.mul_comm p]
  have hm2 : (pullOf R s ps / p + 1) * p - pullOf R s ps = p - pullOf R s ps % p := by rw [Int.add_mul]; omega
  have hq0 : 0 ≤ pullOf R s ps / p := Int.ediv_nonneg hpd.1 (by omega)
  have hq1 : pullOf R s ps / p ≤ pullOf R s ps := Int.ediv_le_self _ hpd.1
  have hln : leanOf R s ps 0 p = pullOf R s ps := by unfold leanOf; omega
  repeat' fail
  refine x_dic hb1 ?_
  repeat' fail
  refine c_qlean D hR hs hps hl (by decide) fun _ => ?_
  rw [hln]
  repeat' fail
  all_goals try exact divB (by omega) (by omega)
  · rename_i h
    have hn : ¬ leastOf (pullOf R s ps) (barN R s 4) p ≤ mostOf (pullOf R s ps) (barN R s 4) p := fun z => by have := hoff.mpr z; omega
    rw [if_neg (fun z : fitsOf R s ps p => hn z.1), show unbOf R s ps p = (("plate" : Str), min (pullOf R s ps % p) (p - pullOf R s ps % p) - barN R s 4) from if_pos (by omega), hm1, hm2]
  · rename_i h h2
    have hy : leastOf (pullOf R s ps) (barN R s 4) p ≤ mostOf (pullOf R s ps) (barN R s 4) p := hoff.mp (by omega)
    rw [hlo] at h2 ⊢
    rw [if_neg (fun z : fitsOf R s ps p => by have := z.2; omega), show unbOf R s ps p = (("room" : Str), leastOf (pullOf R s ps) (barN R s 4) p - barN R s 2) from if_neg (by omega)]
  · rename_i h h2
    have hy : leastOf (pullOf R s ps) (barN R s 4) p ≤ mostOf (pullOf R s ps) (barN R s 4) p := hoff.mp (by omega)
    rw [hlo] at h2
    rw [if_pos (show fitsOf R s ps p from ⟨hy, by omega⟩)]
theorem s_law (n : Nat) (ns : List Int) (hn : ns.length ≤ 63) : CIs ((Iof PL (n + 7)).run f_law [.scr ns]) fun t ios => t = .bl true := by
  refine en_law ?_
  unfold b_law
  repeat' fail
  refine CIs.imp (s_row (n + 5) ns hn) ?_
  rintro _ _ ⟨b, r, rfl, W⟩
  repeat' fail
  refine c_qrig W fun p bars pieces bays L _ D hL => ?_
  repeat' fail
  refine c_Rig D hL fun R hR => ?_
  refine ⟨rfl, _, rfl, (inferInstance : Nv _).h, (inferInstance : Nb _).h, rfl, ?_⟩
  repeat' fail
  rw [keys_map, enuT_map]
  have hbl := D.bl
  have hp := D.p
  refine l_for _ ((bars.map (·.1)).zipIdx 0) (fun _ _ e => ∃ u1 u2 u3 u4 u5 u6 : Option T, e = [some (.scr ns), some (.lst .frz ((b :: r).map T.int)), some (eDw .frz p bars pieces bays (L.map Ln.txt)), some (eR .frz R), u1, u2, u3, u4, u5, u6]) ?_ ?_ ?_
  · exact ⟨_, _, _, _, _, _, rfl⟩
  · rintro d ⟨s, j⟩ r' _ hd ⟨u1, u2, u3, u4, u5, u6, rfl⟩
    obtain ⟨z1, z2, z3⟩ := zipIdx_at hd
    simp only [List.length_map] at z3
    have hs : (bars.lookup s).isSome = true := look_key (List.mem_of_getElem? z2)
    have hsR : (R.bars.lookup s).isSome = true := by rw [hR.ba]; exact hs
    have dl := D.pl
    repeat' fail
    refine ⟨by decide, ?_⟩
    refine l_rng (fun _ e => ∃ u3 u4 u5 u6 : Option T, e = [some (.scr ns), some (.lst .frz ((b :: r).map T.int)), some (eDw .frz p bars pieces bays (L.map Ln.txt)), some (eR .frz R), some (.int (j : Nat)), some (.str s), u3, u4, u5, u6]) ?_ ?_ ?_
    · exact ⟨_, _, _, _, rfl⟩
    · rintro k _ hk ⟨u3, u4, u5, u6, rfl⟩
      repeat' fail
      refine CIs.imp (s_some (n + 4) .frz b r W (400 + 90 * (j : Nat) + 30 * (0 + (k : Nat))) (by omega) p bars pieces bays (L.map Ln.txt) D.pl) ?_
      rintro _ _ ⟨ps, rfl, hps, hpl⟩
      have hkn : Knows R ps := fun q hq => by rw [look_perm hR.pi D.pn]; exact look_key (hps q hq)
      repeat' fail
      refine CIs.imp (s_asked13 n .brw R hR.ok hR.ir s hsR ps hkn (by omega)) ?_
      rintro _ _ rfl
      by_cases hf : fitsOf R s ps p
      · rw [if_pos hf]
        unfold eCt
        repeat' fail
        refine CIs.imp (s_due13 (n + 4) .frz D hR hs hps (by omega)) ?_
        rintro _ _ rfl
        rw [if_pos hf]
        repeat' fail
        all_goals first | exact ⟨_, _, _, _, rfl⟩ | (exfalso; rename_i z; simp at z)
      · rw [if_neg hf]
        repeat' fail
        refine CIs.imp (s_due13 (n + 4) .frz D hR hs hps (by omega)) ?_
        rintro _ _ rfl
        rw [if_neg hf]
        repeat' fail
        refine CIs.imp (s_alikeT (n + 4) [.s s, .s (unbOf R s ps p).1, .i (unbOf R s ps p).2] [.s s, .s (unbOf R s ps p).1, .i (unbOf R s ps p).2] (by show (3 : Nat) ≤ 1000; decide)) ?_
        rintro _ _ rfl
        rw [decide_eq_true rfl]
        repeat' fail
        exact ⟨_, _, _, _, rfl⟩
    · rintro _ ⟨u3, u4, u5, u6, rfl⟩
      repeat' fail
      exact ⟨_, _, _, _, _, _, rfl⟩
  · rintro _ ⟨u1, u2, u3, u4, u5, u6, rfl⟩
    repeat' fail
    rfl
end KL
namespace KL
open PySem L2 VI
theorem hrun (ns : List Int) (hn : ns.length ≤ 63) (hz : ∀ z ∈ ns, z.natAbs < 2 ^ BITS) : (Iof PL 7).run 39 [.scr ns] = .ok (.bl true) [] := by
  have h : CIs ((Iof PL 7).run f_law [.scr ns]) fun t ios => t = .bl true := by first | exact s_law 0 ns | exact s_law 0 ns hn | exact s_law 0 ns hn hz
  cases e : (Iof PL 7).run 39 [.scr ns] with
  | stuck => rw [e] at h; exact h.elim
  | exc x ios => rw [e] at h; exact h.elim
  | ok t ios =>
    rw [e] at h
    obtain rfl := run_ios (by unfold PL; rfl) e
    rw [show t = .bl true from h]
end KL
open PySem PySem.W PyProof.Rows
set_option maxRecDepth 100000 in
set_option maxHeartbeats 0 in
theorem PySem.Challenge.cw_flyloft_k13_what_lacks_for_balance_holds : PySem.Challenge.rw_flyloft_k13_what_lacks_for_balance.Holds := by
  w_on; o_law; k_head; (case hw => w_witness2)
  k_fill
  refine VI.vi_law (l := PySem.Challenge.rw_flyloft_k13_what_lacks_for_balance) KL.PL 7 39 rfl rfl ⟨rfl, by decide, by decide⟩ (fun w h Y => PySem.W.kIn_of Y) (by unfold KL.PL; rfl) rfl rfl rfl ?hb ?hG ?hCD (fun ns hn hz => KL.hrun ns hn hz)
  case hb =>
    intro w
    refine VI.bn_mk fun x hx => ?_
    simp only [List.mem_cons, List.not_mem_nil, or_false] at hx
    rcases hx with rfl | rfl | rfl | rfl | rfl | rfl | rfl | rfl | rfl | rfl | rfl | rfl | rfl | rfl | rfl | rfl | rfl
    all_goals k_is
  case hG =>
    intro w p hp
    unfold KL.PL at hp
    simp only [List.mem_cons, List.not_mem_nil, or_false] at hp
    rcases hp with rfl | rfl | rfl | rfl | rfl | rfl | rfl | rfl | rfl | rfl
    · refine' VI.gv_int (x := "FARTHEST") ?a; (case a => k_is)
    · refine' VI.gv_str (x := "FIGURES") ?a; (case a => k_is)
    · refine' VI.gv_int (x := "HEAVIEST") ?a; (case a => k_is)
    · refine' VI.gv_str (x := "LETTERS") ?a; (case a => k_is)
    · refine' VI.gv_int (x := "LONGEST_NAME") ?a; (case a => k_is)
    · refine' VI.gv_int (x := "MOST_BARS") ?a; (case a => k_is)
    · refine' VI.gv_int (x := "MOST_BAYS") ?a; (case a => k_is)
    · refine' VI.gv_int (x := "MOST_FIGURES") ?a; (case a => k_is)
    · refine' VI.gv_int (x := "MOST_PIECES") ?a; (case a => k_is)
    · refine' VI.gv_int (x := "STRONGEST") ?a; (case a => k_is)
  case hCD =>
    intro w
    refine' VI.cd_list (Cs := [_]) (Xs := [_, _, _, _, _]) (by unfold KL.PL; rfl) ?hC ?hX ?hD
    case hC =>
     refine' ⟨VI.cat_mk (x := "Rig") (fl := ["iron", "bars_told", "pieces_told", "bays_told"]) rfl rfl ?b0_1 ?b0_2 ?b0_3 ?b0_4 ?b0_5 ?b0_6 ?b0_7 ?b0_8, trivial⟩
     (case b0_1 => k_is); (case b0_2 => k_is); (case b0_3 => k_is); (case b0_4 => k_is); (case b0_5 => k_is); (case b0_6 => k_is); (case b0_7 => k_is)
     (case b0_8 => (intro x hx; simp only [List.mem_cons, List.not_mem_nil, or_false] at hx; rcases hx with rfl | rfl | rfl | rfl <;> k_is))
    case hX =>
     refine' VI.xlaw_mk (bn := "LoftError") (by unfold KL.PL; rfl) (by unfold KL.PL; rfl) ?x1 ?x2 ?x3 ?x4 ?x5 ?x6
     case x1 =>
      refine' ⟨VI.xat_mk (x := "NoRig") (fl := ["row"]) (N := ["self", "row"]) (bn := "LoftError") (qual := "NoRig.__init__") (st := KL.inC (KL.top 3) 0) rfl ?x0_a ?x0_b ?x0_c ?x0_d (by decide) ?x0_e ?x0_f ?x0_g ?x0_h ?x0_i KL.oki_NoRig rfl KL.okb_NoRig ?x0_j ?x0_k, VI.xat_mk (x := "NoName") (fl := ["name"]) (N := ["self", "name"]) (bn := "LoftError") (qual := "NoName.__init__") (st := KL.inC (KL.top 4) 0) rfl ?x1_a ?x1_b ?x1_c ?x1_d (by decide) ?x1_e ?x1_f ?x1_g ?x1_h ?x1_i KL.oki_NoName rfl KL.okb_NoName ?x1_j ?x1_k, VI.xat_mk (x := "Unbalanced") (fl := ["bar", "why", "lacks"]) (N := ["self", "bar", "why", "lacks"]) (bn := "LoftError") (qual := "Unbalanced.__init__") (st := KL.inC (KL.top 5) 0) rfl ?x2_a ?x2_b ?x2_c ?x2_d (by decide) ?x2_e ?x2_f ?x2_g ?x2_h ?x2_i KL.oki_Unbalanced rfl KL.okb_Unbalanced ?x2_j ?x2_k, VI.xat_mk (x := "TooHeavy") (fl := ["bar", "what"]) (N := ["self", "bar", "what"]) (bn := "LoftError") (qual := "TooHeavy.__init__") (st := KL.inC (KL.top 6) 0) rfl ?x3_a ?x3_b ?x3_c ?x3_d (by decide) ?x3_e ?x3_f ?x3_g ?x3_h ?x3_i KL.oki_TooHeavy rfl KL.okb_TooHeavy ?x3_j ?x3_k, VI.xat_mk (x := "Unheld") (fl := ["bar", "over"]) (N := ["self", "bar", "over"]) (bn := "LoftError") (qual := "Unheld.__init__") (st := KL.inC (KL.top 7) 0) rfl ?x4_a ?x4_b ?x4_c ?x4_d (by decide) ?x4_e ?x4_f ?x4_g ?x4_h ?x4_i KL.oki_Unheld rfl KL.okb_Unheld ?x4_j ?x4_k, trivial⟩
      (case x0_a => k_is)
      (case x0_b => exact ⟨by k_is, by k_is, by k_is, by k_is, by k_is, by k_is, by k_is, by k_is⟩)
      (case x0_c => (intro f hf; simp only [List.mem_cons, List.not_mem_nil, or_false] at hf; rcases hf with rfl <;> k_is))
      (case x0_d => (refine' VI.oex_mk ?u1 ?u2 ?u3 ?u4 ?u5 ?u6; (case u1 => k_is); (case u2 => first | rfl | decide +kernel); (case u3 => k_is); (case u4 => k_is); (case u5 => k_is); (case u6 => k_is)))
      (case x0_e => k_is); (case x0_f => k_is); (case x0_g => k_is); (case x0_h => k_is); (case x0_i => k_is); (case x0_j => k_is)
      (case x0_k => exact ⟨by k_is, by k_is, by k_is⟩)
      (case x1_a => k_is)
      (case x1_b => exact ⟨by k_is, by k_is, by k_is, by k_is, by k_is, by k_is, by k_is, by k_is⟩)
      (case x1_c => (intro f hf; simp only [List.mem_cons, List.not_mem_nil, or_false] at hf; rcases hf with rfl <;> k_is))
      (case x1_d => (refine' VI.oex_mk ?u1 ?u2 ?u3 ?u4 ?u5 ?u6; (case u1 => k_is); (case u2 => first | rfl | decide +kernel); (case u3 => k_is); (case u4 => k_is); (case u5 => k_is); (case u6 => k_is)))
      (case x1_e => k_is); (case x1_f => k_is); (case x1_g => k_is); (case x1_h => k_is); (case x1_i => k_is); (case x1_j => k_is)
      (case x1_k => exact ⟨by k_is, by k_is, by k_is⟩)
      (case x2_a => k_is)
      (case x2_b => exact ⟨by k_is, by k_is, by k_is, by k_is, by k_is, by k_is, by k_is, by k_is⟩)
      (case x2_c => (intro f hf; simp only [List.mem_cons, List.not_mem_nil, or_false] at hf; rcases hf with rfl | rfl | rfl <;> k_is))
      (case x2_d => (refine' VI.oex_mk ?u1 ?u2 ?u3 ?u4 ?u5 ?u6; (case u1 => k_is); (case u2 => first | rfl | decide +kernel); (case u3 => k_is); (case u4 => k_is); (case u5 => k_is); (case u6 => k_is)))
      (case x2_e => k_is); (case x2_f => k_is); (case x2_g => k_is); (case x2_h => k_is); (case x2_i => k_is); (case x2_j => k_is)
      (case x2_k => exact ⟨by k_is, by k_is, by k_is⟩)
      (case x3_a => k_is)
      (case x3_b => exact ⟨by k_is, by k_is, by k_is, by k_is, by k_is, by k_is, by k_is, by k_is⟩)
      (case x3_c => (intro f hf; simp only [List.mem_cons, List.not_mem_nil, or_false] at hf; rcases hf with rfl | rfl <;> k_is))
      (case x3_d => (refine' VI.oex_mk ?u1 ?u2 ?u3 ?u4 ?u5 ?u6; (case u1 => k_is); (case u2 => first | rfl | decide +kernel); (case u3 => k_is); (case u4 => k_is); (case u5 => k_is); (case u6 => k_is)))
      (case x3_e => k_is); (case x3_f => k_is); (case x3_g => k_is); (case x3_h => k_is); (case x3_i => k_is); (case x3_j => k_is)
      (case x3_k => exact ⟨by k_is, by k_is, by k_is⟩)
      (case x4_a => k_is)
      (case x4_b => exact ⟨by k_is, by k_is, by k_is, by k_is, by k_is, by k_is, by k_is, by k_is⟩)
      (case x4_c => (intro f hf; simp only [List.mem_cons, List.not_mem_nil, or_false] at hf; rcases hf with rfl | rfl <;> k_is))
      (case x4_d => (refine' VI.oex_mk ?u1 ?u2 ?u3 ?u4 ?u5 ?u6; (case u1 => k_is); (case u2 => first | rfl | decide +kernel); (case u3 => k_is); (case u4 => k_is); (case u5 => k_is); (case u6 => k_is)))
      (case x4_e => k_is); (case x4_f => k_is); (case x4_g => k_is); (case x4_h => k_is); (case x4_i => k_is); (case x4_j => k_is)
      (case x4_k => exact ⟨by k_is, by k_is, by k_is⟩)
     (case x2 => k_is)
     (case x3 => k_is)
     case x4 => (refine' VI.xtab_cons ?_ ?_ (VI.xtab_cons ?_ ?_ (VI.xtab_cons ?_ ?_ (VI.xtab_cons ?_ ?_ (VI.xtab_cons ?_ ?_ (VI.xtab_nil))))); all_goals first | k_is | rfl | decide)
     case x5 => (refine' VI.xtab_cons ?_ ?_ (VI.xtab_cons ?_ ?_ (VI.xtab_cons ?_ ?_ (VI.xtab_cons ?_ ?_ (VI.xtab_cons ?_ ?_ (VI.xtab_nil))))); all_goals first | k_is | rfl | decide)
     case x6 =>
      intro c C h
      match c, h with
      | 0, h => (cases h; (refine' VI.xtab_cons ?_ ?_ (VI.xtab_cons ?_ ?_ (VI.xtab_cons ?_ ?_ (VI.xtab_cons ?_ ?_ (VI.xtab_cons ?_ ?_ (VI.xtab_nil))))); all_goals first | k_is | rfl | decide))
      | 1, h => (cases h; (refine' VI.xtab_cons ?_ ?_ (VI.xtab_cons ?_ ?_ (VI.xtab_cons ?_ ?_ (VI.xtab_cons ?_ ?_ (VI.xtab_cons ?_ ?_ (VI.xtab_nil))))); all_goals first | k_is | rfl | decide))
      | 2, h => (cases h; (refine' VI.xtab_cons ?_ ?_ (VI.xtab_cons ?_ ?_ (VI.xtab_cons ?_ ?_ (VI.xtab_cons ?_ ?_ (VI.xtab_cons ?_ ?_ (VI.xtab_nil))))); all_goals first | k_is | rfl | decide))
      | 3, h => (cases h; (refine' VI.xtab_cons ?_ ?_ (VI.xtab_cons ?_ ?_ (VI.xtab_cons ?_ ?_ (VI.xtab_cons ?_ ?_ (VI.xtab_cons ?_ ?_ (VI.xtab_nil))))); all_goals first | k_is | rfl | decide))
      | 4, h => (cases h; (refine' VI.xtab_cons ?_ ?_ (VI.xtab_cons ?_ ?_ (VI.xtab_cons ?_ ?_ (VI.xtab_cons ?_ ?_ (VI.xtab_cons ?_ ?_ (VI.xtab_nil))))); all_goals first | k_is | rfl | decide))
      | i + 5, h => simp at h
    case hD =>
     intro i d h
     unfold KL.PL at h
     match i with
     | 0 =>
      cases h
      refine' ⟨KL.top 9, _, KL.ok_load_of, VI.def_mk (x := "load_of") (q := "load_of") rfl rfl rfl ?a1 ?a2 ?a3 ?a4⟩
      (case a1 => k_is); (case a2 => k_is); (case a3 => k_is); (case a4 => k_is)
     | 1 =>
      cases h
      refine' ⟨KL.top 10, _, KL.ok_pull_of, VI.def_mk (x := "pull_of") (q := "pull_of") rfl rfl rfl ?a1 ?a2 ?a3 ?a4⟩
      (case a1 => k_is); (case a2 => k_is); (case a3 => k_is); (case a4 => k_is)
     | 2 =>
      cases h
      refine' ⟨KL.top 12, _, KL.ok_counts_of, VI.def_mk (x := "counts_of") (q := "counts_of") rfl rfl rfl ?a1 ?a2 ?a3 ?a4⟩
      (case a1 => k_is); (case a2 => k_is); (case a3 => k_is); (case a4 => k_is)
     | 3 =>
      cases h
      refine' ⟨KL.top 18, _, KL.ok_is_name, VI.def_mk (x := "is_name") (q := "is_name") rfl rfl rfl ?a1 ?a2 ?a3 ?a4⟩
      (case a1 => k_is); (case a2 => k_is); (case a3 => k_is); (case a4 => k_is)
     | 4 =>
      cases h
      refine' ⟨KL.top 19, _, KL.ok_number_of, VI.def_mk (x := "number_of") (q := "number_of") rfl rfl rfl ?a1 ?a2 ?a3 ?a4⟩
      (case a1 => k_is); (case a2 => k_is); (case a3 => k_is); (case a4 => k_is)
     | 5 =>
      cases h
      refine' ⟨KL.top 27, _, KL.ok_numbers_in, VI.def_mk (x := "numbers_in") (q := "numbers_in") rfl rfl rfl ?a1 ?a2 ?a3 ?a4⟩
      (case a1 => k_is); (case a2 => k_is); (case a3 => k_is); (case a4 => k_is)
     | 6 =>
      cases h
      refine' ⟨KL.inC (KL.top 28) 0, _, KL.ok_m_Rig_init, VI.def_mkM (x := "__init__") (q := "Rig.__init__") rfl rfl rfl rfl ?a1 ?a2 ?a3 ?a4 ?a5⟩
      (case a1 => k_is); (case a2 => k_is); (case a3 => k_is); (case a4 => k_is); (case a5 => k_is)
     | 7 =>
      cases h
      refine' ⟨KL.inC (KL.top 28) 1, _, KL.ok_m_Rig_is_told, VI.def_mkM (x := "is_told") (q := "Rig.is_told") rfl rfl rfl rfl ?a1 ?a2 ?a3 ?a4 ?a5⟩
      (case a1 => k_is); (case a2 => k_is); (case a3 => k_is); (case a4 => k_is); (case a5 => k_is)
     | 8 =>
      cases h
      refine' ⟨KL.inC (KL.top 28) 2, _, KL.ok_m_Rig_is_plate, VI.def_mkM (x := "is_plate") (q := "Rig.is_plate") rfl rfl rfl rfl ?a1 ?a2 ?a3 ?a4 ?a5⟩
      (case a1 => k_is); (case a2 => k_is); (case a3 => k_is); (case a4 => k_is); (case a5 => k_is)
     | 9 =>
      cases h
      refine' ⟨KL.inC (KL.top 28) 3, _, KL.ok_m_Rig_is_bar, VI.def_mkM (x := "is_bar") (q := "Rig.is_bar") rfl rfl rfl rfl ?a1 ?a2 ?a3 ?a4 ?a5⟩
      (case a1 => k_is); (case a2 => k_is); (case a3 => k_is); (case a4 => k_is); (case a5 => k_is)
     | 10 =>
      cases h
      refine' ⟨KL.inC (KL.top 28) 4, _, KL.ok_m_Rig_is_piece, VI.def_mkM (x := "is_piece") (q := "Rig.is_piece") rfl rfl rfl rfl ?a1 ?a2 ?a3 ?a4 ?a5⟩
      (case a1 => k_is); (case a2 => k_is); (case a3 => k_is); (case a4 => k_is); (case a5 => k_is)
     | 11 =>
      cases h
      refine' ⟨KL.inC (KL.top 28) 5, _, KL.ok_m_Rig_is_bay, VI.def_mkM (x := "is_bay") (q := "Rig.is_bay") rfl rfl rfl rfl ?a1 ?a2 ?a3 ?a4 ?a5⟩
      (case a1 => k_is); (case a2 => k_is); (case a3 => k_is); (case a4 => k_is); (case a5 => k_is)
     | 12 =>
      cases h
      refine' ⟨KL.inC (KL.top 28) 6, _, KL.ok_m_Rig_plate, VI.def_mkM (x := "plate") (q := "Rig.plate") rfl rfl rfl rfl ?a1 ?a2 ?a3 ?a4 ?a5⟩
      (case a1 => k_is); (case a2 => k_is); (case a3 => k_is); (case a4 => k_is); (case a5 => k_is)
     | 13 =>
      cases h
      refine' ⟨KL.inC (KL.top 28) 7, _, KL.ok_m_Rig_bars, VI.def_mkM (x := "bars") (q := "Rig.bars") rfl rfl rfl rfl ?a1 ?a2 ?a3 ?a4 ?a5⟩
      (case a1 => k_is); (case a2 => k_is); (case a3 => k_is); (case a4 => k_is); (case a5 => k_is)
     | 14 =>
      cases h
      refine' ⟨KL.inC (KL.top 28) 8, _, KL.ok_m_Rig_pieces, VI.def_mkM (x := "pieces") (q := "Rig.pieces") rfl rfl rfl rfl ?a1 ?a2 ?a3 ?a4 ?a5⟩
      (case a1 => k_is); (case a2 => k_is); (case a3 => k_is); (case a4 => k_is); (case a5 => k_is)
     | 15 =>
      cases h
      refine' ⟨KL.inC (KL.top 28) 9, _, KL.ok_m_Rig_bays, VI.def_mkM (x := "bays") (q := "Rig.bays") rfl rfl rfl rfl ?a1 ?a2 ?a3 ?a4 ?a5⟩
      (case a1 => k_is); (case a2 => k_is); (case a3 => k_is); (case a4 => k_is); (case a5 => k_is)
     | 16 =>
      cases h
      refine' ⟨KL.inC (KL.top 28) 10, _, KL.ok_m_Rig_bay, VI.def_mkM (x := "bay") (q := "Rig.bay") rfl rfl rfl rfl ?a1 ?a2 ?a3 ?a4 ?a5⟩
      (case a1 => k_is); (case a2 => k_is); (case a3 => k_is); (case a4 => k_is); (case a5 => k_is)
     | 17 =>
      cases h
      refine' ⟨KL.inC (KL.top 28) 11, _, KL.ok_m_Rig_of_bar, VI.def_mkM (x := "of_bar") (q := "Rig.of_bar") rfl rfl rfl rfl ?a1 ?a2 ?a3 ?a4 ?a5⟩
      (case a1 => k_is); (case a2 => k_is); (case a3 => k_is); (case a4 => k_is); (case a5 => k_is)
     | 18 =>
      cases h
      refine' ⟨KL.inC (KL.top 28) 12, _, KL.ok_m_Rig_of_piece, VI.def_mkM (x := "of_piece") (q := "Rig.of_piece") rfl rfl rfl rfl ?a1 ?a2 ?a3 ?a4 ?a5⟩
      (case a1 => k_is); (case a2 => k_is); (case a3 => k_is); (case a4 => k_is); (case a5 => k_is)
     | 19 =>
      cases h
      refine' ⟨KL.inC (KL.top 28) 14, _, KL.ok_m_Rig_at, VI.def_mkM (x := "at") (q := "Rig.at") rfl rfl rfl rfl ?a1 ?a2 ?a3 ?a4 ?a5⟩
      (case a1 => k_is); (case a2 => k_is); (case a3 => k_is); (case a4 => k_is); (case a5 => k_is)
     | 20 =>
      cases h
      refine' ⟨KL.inC (KL.top 28) 15, _, KL.ok_m_Rig_room, VI.def_mkM (x := "room") (q := "Rig.room") rfl rfl rfl rfl ?a1 ?a2 ?a3 ?a4 ?a5⟩
      (case a1 => k_is); (case a2 => k_is); (case a3 => k_is); (case a4 => k_is); (case a5 => k_is)
     | 21 =>
      cases h
      refine' ⟨KL.inC (KL.top 28) 16, _, KL.ok_m_Rig_pull, VI.def_mkM (x := "pull") (q := "Rig.pull") rfl rfl rfl rfl ?a1 ?a2 ?a3 ?a4 ?a5⟩
      (case a1 => k_is); (case a2 => k_is); (case a3 => k_is); (case a4 => k_is); (case a5 => k_is)
     | 22 =>
      cases h
      refine' ⟨KL.inC (KL.top 28) 17, _, KL.ok_m_Rig_slack, VI.def_mkM (x := "slack") (q := "Rig.slack") rfl rfl rfl rfl ?a1 ?a2 ?a3 ?a4 ?a5⟩
      (case a1 => k_is); (case a2 => k_is); (case a3 => k_is); (case a4 => k_is); (case a5 => k_is)
     | 23 =>
      cases h
      refine' ⟨KL.inC (KL.top 28) 18, _, KL.ok_m_Rig_hold, VI.def_mkM (x := "hold") (q := "Rig.hold") rfl rfl rfl rfl ?a1 ?a2 ?a3 ?a4 ?a5⟩
      (case a1 => k_is); (case a2 => k_is); (case a3 => k_is); (case a4 => k_is); (case a5 => k_is)
     | 24 =>
      cases h
      refine' ⟨KL.inC (KL.top 28) 19, _, KL.ok_m_Rig_weight, VI.def_mkM (x := "weight") (q := "Rig.weight") rfl rfl rfl rfl ?a1 ?a2 ?a3 ?a4 ?a5⟩
      (case a1 => k_is); (case a2 => k_is); (case a3 => k_is); (case a4 => k_is); (case a5 => k_is)
     | 25 =>
      cases h
      refine' ⟨KL.top 30, _, KL.ok_q_row, VI.def_mk (x := "_law_row") (q := "_law_row") rfl rfl rfl ?a1 ?a2 ?a3 ?a4⟩
      (case a1 => k_is); (case a2 => k_is); (case a3 => k_is); (case a4 => k_is)
     | 26 =>
      cases h
      refine' ⟨KL.top 31, _, KL.ok_q_draw, VI.def_mk (x := "_law_draw") (q := "_law_draw") rfl rfl rfl ?a1 ?a2 ?a3 ?a4⟩
      (case a1 => k_is); (case a2 => k_is); (case a3 => k_is); (case a4 => k_is)
     | 27 =>
      cases h
      refine' ⟨KL.top 32, _, KL.ok_q_great, VI.def_mk (x := "_law_great") (q := "_law_great") rfl rfl rfl ?a1 ?a2 ?a3 ?a4⟩
      (case a1 => k_is); (case a2 => k_is); (case a3 => k_is); (case a4 => k_is)
     | 28 =>
      cases h
      refine' ⟨KL.top 33, _, KL.ok_q_alike, VI.def_mk (x := "_law_alike") (q := "_law_alike") rfl rfl rfl ?a1 ?a2 ?a3 ?a4⟩
      (case a1 => k_is); (case a2 => k_is); (case a3 => k_is); (case a4 => k_is)
     | 29 =>
      cases h
      refine' ⟨KL.top 34, _, KL.ok_q_names, VI.def_mk (x := "_law_names") (q := "_law_names") rfl rfl rfl ?a1 ?a2 ?a3 ?a4⟩
      (case a1 => k_is); (case a2 => k_is); (case a3 => k_is); (case a4 => k_is)
     | 30 =>
      cases h
      refine' ⟨KL.top 35, _, KL.ok_q_bar, VI.def_mk (x := "_law_bar") (q := "_law_bar") rfl rfl rfl ?a1 ?a2 ?a3 ?a4⟩
      (case a1 => k_is); (case a2 => k_is); (case a3 => k_is); (case a4 => k_is)
     | 31 =>
      cases h
      refine' ⟨KL.top 36, _, KL.ok_q_piece, VI.def_mk (x := "_law_piece") (q := "_law_piece") rfl rfl rfl ?a1 ?a2 ?a3 ?a4⟩
      (case a1 => k_is); (case a2 => k_is); (case a3 => k_is); (case a4 => k_is)
     | 32 =>
      cases h
      refine' ⟨KL.top 37, _, KL.ok_q_bay, VI.def_mk (x := "_law_bay") (q := "_law_bay") rfl rfl rfl ?a1 ?a2 ?a3 ?a4⟩
      (case a1 => k_is); (case a2 => k_is); (case a3 => k_is); (case a4 => k_is)
     | 33 =>
      cases h
      refine' ⟨KL.top 38, _, KL.ok_q_lines, VI.def_mk (x := "_law_lines") (q := "_law_lines") rfl rfl rfl ?a1 ?a2 ?a3 ?a4⟩
      (case a1 => k_is); (case a2 => k_is); (case a3 => k_is); (case a4 => k_is)
     | 34 =>
      cases h
      refine' ⟨KL.top 40, _, KL.ok_q_rig, VI.def_mk (x := "_law_rig") (q := "_law_rig") rfl rfl rfl ?a1 ?a2 ?a3 ?a4⟩
      (case a1 => k_is); (case a2 => k_is); (case a3 => k_is); (case a4 => k_is)
     | 35 =>
      cases h
      refine' ⟨KL.top 41, _, KL.ok_q_some, VI.def_mk (x := "_law_some") (q := "_law_some") rfl rfl rfl ?a1 ?a2 ?a3 ?a4⟩
      (case a1 => k_is); (case a2 => k_is); (case a3 => k_is); (case a4 => k_is)
     | 36 =>
      cases h
      refine' ⟨KL.top 42, _, KL.ok_q_lean, VI.def_mk (x := "_law_lean") (q := "_law_lean") rfl rfl rfl ?a1 ?a2 ?a3 ?a4⟩
      (case a1 => k_is); (case a2 => k_is); (case a3 => k_is); (case a4 => k_is)
     | 37 =>
      cases h
      refine' ⟨KL.top 43, _, KL.ok_q_asked, VI.def_mk (x := "_law_asked") (q := "_law_asked") rfl rfl rfl ?a1 ?a2 ?a3 ?a4⟩
      (case a1 => k_is); (case a2 => k_is); (case a3 => k_is); (case a4 => k_is)
     | 38 =>
      cases h
      refine' ⟨KL.top 44, _, KL.ok_q_due, VI.def_mk (x := "_law_due") (q := "_law_due") rfl rfl rfl ?a1 ?a2 ?a3 ?a4⟩
      (case a1 => k_is); (case a2 => k_is); (case a3 => k_is); (case a4 => k_is)
     | 39 =>
      cases h
      refine' ⟨KL.top 45, _, KL.ok_law, VI.def_mk (x := "law") (q := "law") rfl rfl rfl ?a1 ?a2 ?a3 ?a4⟩
      (case a1 => k_is); (case a2 => k_is); (case a3 => k_is); (case a4 => k_is)
     | i + 40 => simp at h
