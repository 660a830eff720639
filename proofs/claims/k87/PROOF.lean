import PyProof.Rows.All
import Wide.All
import OpenK.AllK
import Wide.FinOn
import HandS.ForMost
import HandS.TupAny
import HandS.TupMul
import HandS.Wide
import HandS.IsInst
import HandS.Star
import HandS.Flow
import HandS.Lambda
import PyProof.ListStr
import HandS.NoneIn
import HandS.FStr
import KE.KUnpack
import PyProof.CollectIter
import KE.IntTextLaws
import PyProof.Rows.StrReprJoin
import KE.KStateDown
import Wide.Once
import HandS.Ends
import HandS.Words
import HandS.WordsExc
import HandS.Defaults
import HandS.Head0
import HandS.Head1
import HandS.Head2
import HandS.HeadEnd
import HandS.HeadHook1
import HandS.HeadHook2
import HandS.ForExc
import HandS.TryMany
import HandS.ExcField
import HandS.HotCalls
import KE.KTryMore
import HandS.ExcInit
import HandS.HeadWalk
import KE.KIntText
import PyProof.Rows.StrOr
import PyProof.Rows.StrDigitsNeg
import PySem.Challenge.RW_graincourse_k87_numbers_of_thirty_digits
set_option Elab.async false
set_option linter.all false
set_option maxRecDepth 100000
namespace Gh
open PySem PySem.Spec PyProof.Rows L2
section
variable {X : Cx}
/-! ### text * number, tuple * number -/
def repS (x : Str) (n : Nat) : Str := ⟨(List.replicate n x.cps.toList).flatten.toArray⟩
theorem foldl_app (l : List (List Nat)) : ∀ acc : Array Nat, (l.map List.toArray).foldl (· ++ ·) acc = acc ++ l.flatten.toArray := by
  induction l with
  | nil => intro acc; simp
  | cons x r ih =>
    intro acc
    rw [List.map_cons, List.foldl_cons, ih, List.flatten_cons]
    simp
theorem repS_fold (x : Str) (n : Nat) : (⟨(List.replicate n x.cps).foldl (· ++ ·) #[]⟩ : Str) = repS x n := by
  have e : List.replicate n x.cps = (List.replicate n x.cps.toList).map List.toArray := by
    rw [List.map_replicate]
  unfold repS
  rw [e, foldl_app]
  simp
theorem op_mulS : OpR X (binaryOp .Mult) (fun x y H Q => ∃ z n, x = .str z ∧ y = .int n ∧ 0 ≤ n ∧ n ≤ 1000000 ∧ z.length * n.toNat ≤ 1000000 ∧ Q (.str (repS z n.toNat)) H) := by
  intro pins s σ H x y v u Q I rx ry h
  obtain ⟨z, n, rfl, rfl, h0, h1, hz, q⟩ := h
  obtain ⟨t, rfl⟩ := rx
  obtain ⟨t', rfl⟩ := ry
  refine P.mul_str (by rw [decide_eq_false (by omega), decide_eq_false (by omega)]; rfl) (fun c1 c2 => ?_) (fun c1 c2 => ?_) ?_
  · have hn : 0 < n := by omega
    have hq : (1000000 : Int) ≤ (2 ^ 63 - 1) / n := by
      rw [Int.le_ediv_iff_mul_le hn]
      have : 1000000 * n ≤ 1000000 * 1000000 := Int.mul_le_mul_of_nonneg_left h1 (by decide)
      omega
    have h2 : 1 ≤ n.toNat := by omega
    have h3 : z.length ≤ z.length * n.toNat := Nat.le_mul_of_pos_right _ (by omega)
    omega
  · show decide (z.length * n.toNat > sizeLine) = false
    rw [sizeLine_eq]
    exact decide_eq_false (by omega)
  · by_cases c1 : n < 1
    · rw [if_pos c1]
      have e : repS z n.toNat = Str.empty := by
        have : n.toNat = 0 := by omega
        rw [this]
        rfl
      rw [e] at q
      exact ⟨by decide, .str _, H, I.tok _, ⟨_, rfl⟩, q⟩
    · rw [if_neg c1]
      by_cases c2 : (n == 1 || z.length == 0) = true
      · rw [if_pos c2]
        have e : repS z n.toNat = z := by
          have hc : n = 1 ∨ z.length = 0 := by simpa using c2
          rcases hc with rfl | hc
          · show (⟨([z.cps.toList].flatten).toArray⟩ : Str) = z
            simp
          · have hz0 : z.cps = #[] := Array.eq_empty_of_size_eq_zero hc
            cases z with
            | mk cps =>
              simp only at hz0
              subst hz0
              unfold repS
              simp
        rw [e] at q
        exact ⟨.str _, H, I, ⟨_, rfl⟩, q⟩
      · rw [if_neg c2, repS_fold]
        refine ⟨?_, .str _, H, I.tok _, ⟨_, rfl⟩, q⟩
        show _ ≤ sizeLine
        have : (repS z n.toNat).length = z.length * n.toNat := by
          unfold repS Str.length
          simp [Nat.mul_comm]
        rw [this, sizeLine_eq]
        omega

/-- t * 1, () * n: the tuple itself -/
theorem tuple_mulS (l : Addr) (items : Array Value) (n : Nat) (dd : Option Addr) (sl : Array (Option Value)) (x : Int) (u : Tok) (c0 : (decide (x < -(2 ^ 63)) || decide (x ≥ 2 ^ 63)) = false) (c1 : (items.isEmpty || x == 1) = true) :
    Meets (Builtin.«tuple.__mul__» ⟨[.ref l, .int x u], []⟩) (fun _ R s => s.heap.get? l = some { cls := .type "tuple", dict := dd, data := .seq items n, slots := sl } ∧ R (.ok (.ret (Value.ref l))) s) :=
  .of_wp fun prog w A R s h => by
    obtain ⟨hp, g, d, tk, os⟩ := s
    obtain ⟨hl, h⟩ := h
    have f1 := AutoSeq1.idx_int
    wp_walk using wpAny_loadPart' hl
    repeat (first
      | (refine wpAny_ite_false (decide_eq_false (by rw [c0]; exact Bool.false_ne_true)) ?_; wp_walk using wpAny_loadPart' hl)
      | (refine wpAny_ite_true (decide_eq_true c1) ?_; wp_walk using wpAny_loadPart' hl))
    exact ⟨_, rfl, h⟩
def rRepS (K : PySem.W.Frag) : R2 := fun x y H Q => ∃ l k xs, x = .ref l ∧ y = .int k ∧ SqT K H l xs ∧ (xs = [] ∨ k = 1) ∧ 1 ≤ k ∧ k ≤ 1000 ∧ Q (.ref l) H
theorem op_repS : OpR X (binaryOp .Mult) (rRepS X.K) := by
  intro pins s σ H x y v u Q I rx ry h
  obtain ⟨l, k, xs, rfl, rfl, hT, hne, h1, h2, q⟩ := h
  cases rx
  obtain ⟨t, rfl⟩ := ry
  obtain ⟨its, r, ⟨⟨cls, dd, data, sl⟩, ho, hc, n, hd⟩, hs⟩ := I.tuple hT
  simp only at hc hd
  subst hc hd
  have hle : its.length = xs.length := r.length.symm
  have c0 : (decide (k < -(2 ^ 63)) || decide (k ≥ 2 ^ 63)) = false := by
    rw [decide_eq_false (by omega), decide_eq_false (by omega)] <;> rfl
  have c1 : (its.toArray.isEmpty || k == 1) = true := by
    rcases hne with z | z
    · rw [z] at hle
      have : its = [] := List.eq_nil_of_length_eq_zero hle
      rw [this]
      rfl
    · rw [z]
      simp
  exact wpAny_binaryOp_repeat_ref (T := "tuple") (U := "int") (by decide) ⟨_, ho, rfl⟩ (fun s' => typeIs_int s' k t) noFill_tuple_mul F.fills_int_mul F.slot_int_rmul repeat_tuple F.slot_int_index.lookup
    (call_meets F.slot_int_rmul (typeIs_int s k t) F.entry_int_rmul (F.args_int_rmul_2 _ _) (int_rmul_tuple k t l its.toArray n dd sl)
      ⟨ho, rfl, ⟨_, ho, rfl⟩, call_meets F.slot_tuple_mul ⟨_, ho, rfl⟩ F.entry_tuple_mul (F.args_tuple_mul_2 _ _) (tuple_mulS l its.toArray n dd sl k t c0 c1) ⟨ho, .ref l, H, I, rfl, q⟩⟩)
end
end Gh

/-! The ghost layer: data without addresses, owned objects, readings over them. -/
namespace Gh
open PySem L2
abbrev Fg := PySem.W.Frag

/-- data: values without the heap; a reference stands for an owned object (or any other) -/
inductive D where
  | non | bl (b : Bool) | int (i : Int) | str (x : Str) | tup (ds : List D) | lst (ds : List D) | ref (a : Addr) | ty (n : String)
  /-- a list that is only read (the script) -/
  | fro (ds : List D)

/-- an owned object -/
inductive GO where
  /-- a list that is owned -/
  | lst (ds : List D)
  /-- the law's bag -/
  | bag
  /-- an instance -/
  | ins (C : Addr) (fs : List (Str × D))
  /-- a dict by ints and texts -/
  | dct (kvs : List (Key × D))
  /-- the dict of an exception -/
  | xd (fs : List (Str × D))
  /-- a code object's table: the lambdas that it tells bear the name q -/
  | tab (q : Str)

abbrev GH := Addr → Option GO
def put (h : GH) (a : Addr) (g : GO) : GH := fun b => if b = a then some g else h b
theorem put_same {h : GH} {a : Addr} {g : GO} : put h a g a = some g := by unfold put; rw [if_pos rfl]
theorem put_ne {h : GH} {a b : Addr} {g : GO} (e : b ≠ a) : put h a g b = h b := by unfold put; rw [if_neg e]
def del (h : GH) (a : Addr) : GH := fun b => if b = a then none else h b
theorem del_same {h : GH} {a : Addr} : del h a a = none := by unfold del; rw [if_pos rfl]
theorem del_ne {h : GH} {a b : Addr} (e : b ≠ a) : del h a b = h b := by unfold del; rw [if_neg e]

/-- a tuple that is read: not owned, or of the module -/
def TpF (K : Fg) (h : GH) (H : Hp) (a : Addr) (xs : List V) : Prop :=
  (h a = none ∧ Rd H a (.tup xs)) ∨
    ∃ (o : Obj) (its : Array Value) (n : Nat), K.lookup a = some o ∧ o.cls = .type "tuple" ∧ o.data = .seq its n ∧ its.size ≤ sizeLine ∧ Vals xs its.toList
/-- a list that is read: not owned, or of the module -/
def LsF (K : Fg) (h : GH) (H : Hp) (a : Addr) (xs : List V) : Prop :=
  (h a = none ∧ Rd H a (.lst xs)) ∨
    ∃ (o : Obj) (its : Array Value) (n : Nat), K.lookup a = some o ∧ o.cls = .type "list" ∧ o.dict = none ∧ o.data = .seq its n ∧ its.size ≤ sizeLine ∧ Vals xs its.toList
theorem LsF.sq {K : Fg} {h : GH} {H : Hp} {a : Addr} {xs : List V} (t : LsF K h H a xs) : SqL K H a xs := by
  rcases t with ⟨_, t⟩ | t
  · exact .inl t
  · exact .inr t
theorem TpF.sq {K : Fg} {h : GH} {H : Hp} {a : Addr} {xs : List V} (t : TpF K h H a xs) : SqT K H a xs := by
  rcases t with ⟨_, t⟩ | t
  · exact .inl t
  · exact .inr t
mutual
inductive Dv (K : Fg) (h : GH) (H : Hp) : V → D → Prop
  | non : Dv K h H .non .non
  | bl (b : Bool) : Dv K h H (.bl b) (.bl b)
  | int (i : Int) : Dv K h H (.int i) (.int i)
  | str (x : Str) : Dv K h H (.str x) (.str x)
  | ty (n : String) : Dv K h H (.ty n) (.ty n)
  | ref (a : Addr) : Dv K h H (.ref a) (.ref a)
  | tup {a : Addr} {xs : List V} {ds : List D} : TpF K h H a xs → Dvs K h H xs ds → Dv K h H (.ref a) (.tup ds)
  | lst {a : Addr} {xs : List V} {ds : List D} : h a = none → H a = some (.lst xs) → Dvs K h H xs ds → Dv K h H (.ref a) (.lst ds)
  | fro {a : Addr} {xs : List V} {ds : List D} : LsF K h H a xs → Dvs K h H xs ds → Dv K h H (.ref a) (.fro ds)
inductive Dvs (K : Fg) (h : GH) (H : Hp) : List V → List D → Prop
  | nil : Dvs K h H [] []
  | cons {v : V} {vs : List V} {d : D} {ds : List D} : Dv K h H v d → Dvs K h H vs ds → Dvs K h H (v :: vs) (d :: ds)
end

/-- no table -/
def NT (o : HO) : Prop := ∀ ps, o ≠ .tbl ps
/-- from (h, H) to (h', H'): what is not owned stands (but for tables); what is newly owned was not there -/
structure Step (h : GH) (H : Hp) (h' : GH) (H' : Hp) : Prop where
  keep : ∀ a o, h a = none → NT o → H a = some o → H' a = some o
  own : ∀ a, h' a ≠ none → h a ≠ none ∨ H a = none ∨ ∃ ps, H a = some (.tbl ps)
theorem Step.kp {h h' : GH} {H H' : Hp} (s : Step h H h' H') {a : Addr} {o : HO} (e : h a = none) (q : H a = some o) (nt : NT o := by intro _ z; cases z) : H' a = some o := s.keep a o e nt q
theorem Step.refl (h : GH) (H : Hp) : Step h H h H := ⟨fun _ _ _ _ e => e, fun _ e => .inl e⟩
theorem Step.free {h h' : GH} {H H' : Hp} (s : Step h H h' H') {a : Addr} {o : HO} (e : h a = none) (q : H a = some o) (nt : NT o := by intro _ z; cases z) : h' a = none := by
  cases z : h' a with
  | none => rfl
  | some g =>
    rcases s.own a (by rw [z]; simp) with y | y | ⟨ps, y⟩
    · exact absurd e y
    · rw [q] at y; cases y
    · rw [q] at y; cases y; exact absurd rfl (nt ps)
theorem Step.trans {h h1 h2 : GH} {H H1 H2 : Hp} (a : Step h H h1 H1) (b : Step h1 H1 h2 H2) : Step h H h2 H2 where
  keep := fun x o e nt q => b.keep x o (a.free e q nt) nt (a.keep x o e nt q)
  own := fun x e => by
    rcases b.own x e with y | y | ⟨ps, y⟩
    · exact a.own x y
    · cases z : h x with
      | some g => exact .inl (by simp)
      | none =>
        cases q : H x with
        | none => exact .inr (.inl rfl)
        | some o =>
          by_cases nt : NT o
          · rw [a.keep x o z nt q] at y; cases y
          · have : ∃ ps, o = .tbl ps := Classical.byContradiction fun w => nt fun ps w2 => w ⟨ps, w2⟩
            obtain ⟨ps, rfl⟩ := this
            exact .inr (.inr ⟨ps, rfl⟩)
    · cases z : h x with
      | some g => exact .inl (by simp)
      | none =>
        cases q : H x with
        | none => exact .inr (.inl rfl)
        | some o =>
          by_cases nt : NT o
          · rw [a.keep x o z nt q] at y; cases y; exact absurd rfl (nt ps)
          · have : ∃ ps, o = .tbl ps := Classical.byContradiction fun w => nt fun ps w2 => w ⟨ps, w2⟩
            obtain ⟨ps', rfl⟩ := this
            exact .inr (.inr ⟨ps', rfl⟩)
/-- a new object -/
theorem Step.new {h : GH} {H : Hp} {p : Addr} {o : HO} (n : H p = none) : Step h H h (upd H p o) :=
  ⟨fun a u _ _ e => by rw [upd_ne (ne_of_none e n)]; exact e, fun _ e => .inl e⟩
/-- a new owned object -/
theorem Step.newO {h : GH} {H : Hp} {p : Addr} {o : HO} {g : GO} (n : H p = none) : Step h H (put h p g) (upd H p o) :=
  ⟨fun a u _ _ e => by rw [upd_ne (ne_of_none e n)]; exact e, fun a e => by
    by_cases z : a = p
    · subst z; exact .inr (.inl n)
    · rw [put_ne z] at e; exact .inl e⟩
/-- an owned object is changed -/
theorem Step.set {h : GH} {H : Hp} {p : Addr} {o : HO} {g : GO} (n : h p ≠ none) : Step h H (put h p g) (upd H p o) :=
  ⟨fun a u e _ q => by rw [upd_ne (fun z => by subst z; exact n e)]; exact q, fun a e => by
    by_cases z : a = p
    · subst z; exact .inl n
    · rw [put_ne z] at e; exact .inl e⟩
/-- an owned object is let go -/
theorem Step.del {h : GH} {H : Hp} {p : Addr} : Step h H (del h p) H :=
  ⟨fun _ _ _ _ q => q, fun a e => by
    by_cases z : a = p
    · subst z; rw [del_same] at e; exact absurd rfl e
    · rw [del_ne z] at e; exact .inl e⟩
theorem TpF.mono {K : Fg} {h h' : GH} {H H' : Hp} {a : Addr} {xs : List V} (s : Step h H h' H') (t : TpF K h H a xs) : TpF K h' H' a xs := by
  rcases t with ⟨n, t | ⟨o, t⟩⟩ | t
  · exact .inl ⟨s.free n t, .inl (s.kp n t)⟩
  · exact .inl ⟨s.free n t, .inr ⟨o, s.kp n t⟩⟩
  · exact .inr t
theorem LsF.mono {K : Fg} {h h' : GH} {H H' : Hp} {a : Addr} {xs : List V} (s : Step h H h' H') (t : LsF K h H a xs) : LsF K h' H' a xs := by
  rcases t with ⟨n, t | ⟨o, t⟩⟩ | t
  · exact .inl ⟨s.free n t, .inl (s.kp n t)⟩
  · exact .inl ⟨s.free n t, .inr ⟨o, s.kp n t⟩⟩
  · exact .inr t
mutual
theorem Dv.mono {K : Fg} {h h' : GH} {H H' : Hp} (s : Step h H h' H') : ∀ {v : V} {d : D}, Dv K h H v d → Dv K h' H' v d
  | _, _, .non => .non
  | _, _, .bl b => .bl b
  | _, _, .int i => .int i
  | _, _, .str x => .str x
  | _, _, .ty n => .ty n
  | _, _, .ref a => .ref a
  | _, _, .tup t ds => .tup (t.mono s) (Dvs.mono s ds)
  | _, _, .lst n q ds => .lst (s.free n q) (s.kp n q) (Dvs.mono s ds)
  | _, _, .fro t ds => .fro (t.mono s) (Dvs.mono s ds)
theorem Dvs.mono {K : Fg} {h h' : GH} {H H' : Hp} (s : Step h H h' H') : ∀ {v : List V} {d : List D}, Dvs K h H v d → Dvs K h' H' v d
  | _, _, .nil => .nil
  | _, _, .cons a r => .cons (Dv.mono s a) (Dvs.mono s r)
end
theorem Dvs.length {K : Fg} {h : GH} {H : Hp} : ∀ {vs : List V} {ds : List D}, Dvs K h H vs ds → vs.length = ds.length
  | _, _, .nil => rfl
  | _, _, .cons _ r => by rw [List.length_cons, List.length_cons, Dvs.length r]
theorem Dvs.get {K : Fg} {h : GH} {H : Hp} : ∀ {vs : List V} {ds : List D} {i : Nat} {d : D}, Dvs K h H vs ds → ds[i]? = some d → ∃ v, vs[i]? = some v ∧ Dv K h H v d
  | _, _, _, _, .nil, e => by simp at e
  | _, _, 0, _, .cons a _, e => by simp at e; subst e; exact ⟨_, rfl, a⟩
  | _, _, i + 1, d, .cons _ r, e => by
    obtain ⟨v, h1, h2⟩ := Dvs.get (i := i) (d := d) r (by simpa using e)
    exact ⟨v, by simpa using h1, h2⟩
theorem Dvs.append {K : Fg} {h : GH} {H : Hp} : ∀ {vs ws : List V} {ds es : List D}, Dvs K h H vs ds → Dvs K h H ws es → Dvs K h H (vs ++ ws) (ds ++ es)
  | _, _, _, _, .nil, s => s
  | _, _, _, _, .cons r t, s => .cons r (Dvs.append t s)
theorem Dvs.take {K : Fg} {h : GH} {H : Hp} : ∀ {vs : List V} {ds : List D} (n : Nat), Dvs K h H vs ds → Dvs K h H (vs.take n) (ds.take n)
  | _, _, 0, _ => .nil
  | _, _, _ + 1, .nil => .nil
  | _, _, n + 1, .cons r t => .cons r (Dvs.take n t)
theorem Dvs.drop {K : Fg} {h : GH} {H : Hp} : ∀ {vs : List V} {ds : List D} (n : Nat), Dvs K h H vs ds → Dvs K h H (vs.drop n) (ds.drop n)
  | _, _, 0, r => r
  | _, _, _ + 1, .nil => .nil
  | _, _, n + 1, .cons _ t => Dvs.drop n t
theorem Dvs.set {K : Fg} {h : GH} {H : Hp} {x : V} {u : D} (r : Dv K h H x u) : ∀ {xs : List V} {us : List D} (i : Nat), Dvs K h H xs us → Dvs K h H (xs.set i x) (us.set i u)
  | _, _, _, .nil => .nil
  | _, _, 0, .cons _ t => .cons r t
  | _, _, i + 1, .cons q t => .cons q (Dvs.set r i t)
theorem Dvs.getV {K : Fg} {h : GH} {H : Hp} : ∀ {vs : List V} {ds : List D} {i : Nat} {v : V}, Dvs K h H vs ds → vs[i]? = some v → ∃ d, ds[i]? = some d ∧ Dv K h H v d
  | _, _, _, _, .nil, e => by simp at e
  | _, _, 0, _, .cons a _, e => by simp at e; subst e; exact ⟨_, rfl, a⟩
  | _, _, i + 1, d, .cons _ r, e => by
    obtain ⟨v, h1, h2⟩ := Dvs.getV (i := i) (v := d) r (by simpa using e)
    exact ⟨v, by simpa using h1, h2⟩

/-! ### owned objects -/
/-- the law's bag: the script's ints, the place, the rest of a great number, the salt, the count -/
def BagOk (K : Fg) (h : GH) (H : Hp) (a : Addr) : Prop := ∃ (l : Addr) (ns : List Int) (i g s c : Int), H a = some (.lst [.ref l, .int i, .int g, .int s, .int c]) ∧ h l = none ∧ H l = some (.lst (ns.map V.int)) ∧
  ns.length ≤ 63 ∧ 0 ≤ i ∧ i ≤ (ns.length : Int) ∧ 0 ≤ g ∧ 0 ≤ s ∧ s < 2147483647 ∧ 0 ≤ c
def GOk (K : Fg) (h : GH) (H : Hp) (a : Addr) : GO → Prop
  | .lst ds => ∃ xs, H a = some (.lst xs) ∧ Dvs K h H xs ds
  | .bag => BagOk K h H a
  | .ins C fs => ∃ (dx : Addr) (vs : List V), H a = some (.ins C dx ((fs.map (·.1)).zip vs)) ∧ Dvs K h H vs (fs.map (·.2))
  | .dct kvs => ∃ vs : List V, H a = some (.dK ((kvs.map (·.1)).zip vs)) ∧ Dvs K h H vs (kvs.map (·.2))
  | .xd fs => ∃ vs : List V, H a = some (.xd ((fs.map (·.1)).zip vs)) ∧ Dvs K h H vs (fs.map (·.2))
  | .tab q => ∃ ps : Array Value, H a = some (.tbl ps) ∧ PySem.TriplesOk ps.toList ∧ ∀ (pos : Pos) (cv : Value), codeAmong pos ps.toList = some cv → ∃ c, cv = .ref c ∧ h c = none ∧ H c = some (LamX.CodeO c q)
def Rel (K : Fg) (h : GH) (H : Hp) : Prop := ∀ a g, h a = some g → GOk K h H a g
/-- an object that stands as it stood is as it was -/
theorem GOk.mono {K : Fg} {h h' : GH} {H H' : Hp} {a : Addr} {g : GO} (s : Step h H h' H') (e : ∀ o, H a = some o → H' a = some o) (k : GOk K h H a g) : GOk K h' H' a g := by
  cases g with
  | lst ds => obtain ⟨xs, q, r⟩ := k; exact ⟨xs, e _ q, r.mono s⟩
  | bag =>
    obtain ⟨l, ns, i, g, sa, c, q, n, ql, r⟩ := k
    exact ⟨l, ns, i, g, sa, c, e _ q, s.free n ql, s.kp n ql, r⟩
  | ins C fs => obtain ⟨dx, vs, q, r⟩ := k; exact ⟨dx, vs, e _ q, r.mono s⟩
  | dct kvs => obtain ⟨vs, q, r⟩ := k; exact ⟨vs, e _ q, r.mono s⟩
  | xd fs => obtain ⟨vs, q, r⟩ := k; exact ⟨vs, e _ q, r.mono s⟩
  | tab q =>
    obtain ⟨ps, q1, q2, q3⟩ := k
    refine ⟨ps, e _ q1, q2, fun pos cv hc => ?_⟩
    obtain ⟨c, e1, e2, e3⟩ := q3 pos cv hc
    exact ⟨c, e1, s.free e2 e3 (LamX.codeO_ne), s.kp e2 e3 (LamX.codeO_ne)⟩
theorem GOk.there {K : Fg} {h : GH} {H : Hp} {a : Addr} {g : GO} (k : GOk K h H a g) : ∃ o, H a = some o := by
  cases g with
  | lst ds => obtain ⟨xs, q, r⟩ := k; exact ⟨_, q⟩
  | bag => obtain ⟨l, ns, i, g, sa, c, q, _⟩ := k; exact ⟨_, q⟩
  | ins C fs => obtain ⟨dx, vs, q, r⟩ := k; exact ⟨_, q⟩
  | dct kvs => obtain ⟨vs, q, r⟩ := k; exact ⟨_, q⟩
  | xd fs => obtain ⟨vs, q, r⟩ := k; exact ⟨_, q⟩
  | tab q => obtain ⟨ps, q1, _⟩ := k; exact ⟨_, q1⟩
theorem Rel.new {K : Fg} {h : GH} {H : Hp} {p : Addr} {o : HO} (r : Rel K h H) (n : H p = none) : Rel K h (upd H p o) := fun a g e =>
  (r a g e).mono (Step.new n) fun u q => by rw [upd_ne (ne_of_none q n)]; exact q
theorem Rel.free {K : Fg} {h : GH} {H : Hp} {p : Addr} (r : Rel K h H) (n : H p = none) : h p = none := by
  cases e : h p with
  | none => rfl
  | some g =>
    obtain ⟨o, q⟩ := (r p g e).there
    rw [n] at q; cases q
/-- an owned object is new or changed -/
theorem Rel.put {K : Fg} {h : GH} {H : Hp} {p : Addr} {o : HO} {g : GO} (r : Rel K h H) (s : Step h H (put h p g) (upd H p o)) (k : GOk K (put h p g) (upd H p o) p g) : Rel K (put h p g) (upd H p o) := fun a u e => by
  by_cases z : a = p
  · subst z; rw [put_same] at e; cases e; exact k
  · rw [put_ne z] at e
    exact (r a u e).mono s fun v q => by rw [upd_ne z]; exact q
theorem Rel.del {K : Fg} {h : GH} {H : Hp} {p : Addr} (r : Rel K h H) : Rel K (del h p) H := fun a u e => by
  by_cases z : a = p
  · subst z; rw [del_same] at e; cases e
  · rw [del_ne z] at e
    exact (r a u e).mono Step.del fun v q => q

/-! ### slots -/
abbrev GS := List (Option D)
/-- an anchor: what holds at all times from here on -/
structure AN where
  ok : GH → Hp → Prop
  mono : ∀ {h : GH} {H : Hp} {h' : GH} {H' : Hp}, Step h H h' H' → ok h H → ok h' H'
def AN.top : AN := ⟨fun _ _ => True, fun _ _ => trivial⟩
def AN.step (h0 : GH) (H0 : Hp) : AN := ⟨fun h H => Step h0 H0 h H, fun s t => t.trans s⟩
structure Sl (K : Fg) (An : AN) (h : GH) (H : Hp) (σ : St) (s : GS) : Prop where
  len : σ.length = s.length
  at' : ∀ (i : Nat) (d : D), s[i]? = some (some d) → ∃ v, σ[i]? = some (some v) ∧ Dv K h H v d
  an : An.ok h H
theorem Sl.mono {K : Fg} {An : AN} {h h' : GH} {H H' : Hp} {σ : St} {s : GS} (t : Step h H h' H') (k : Sl K An h H σ s) : Sl K An h' H' σ s :=
  ⟨k.1, fun i d e => let ⟨v, q, r⟩ := k.2 i d e; ⟨v, q, r.mono t⟩, An.mono t k.an⟩
theorem Sl.set {K : Fg} {An : AN} {h : GH} {H : Hp} {σ : St} {s : GS} {i : Nat} {v : V} {d : D} (k : Sl K An h H σ s) (r : Dv K h H v d) : Sl K An h H (σ.set i (some v)) (s.set i (some d)) := by
  refine ⟨by rw [List.length_set, List.length_set]; exact k.1, fun j e q => ?_, k.an⟩
  by_cases z : i = j
  · subst z
    have hl : i < s.length := by
      have := (List.getElem?_eq_some_iff.mp q).1
      rw [List.length_set] at this; exact this
    rw [List.getElem?_set_self hl] at q
    cases q
    exact ⟨v, List.getElem?_set_self (by rw [k.1]; exact hl), r⟩
  · rw [List.getElem?_set_ne z] at q
    obtain ⟨u, q1, q2⟩ := k.2 j e q
    exact ⟨u, by rw [List.getElem?_set_ne z]; exact q1, q2⟩
theorem Sl.unset {K : Fg} {An : AN} {h : GH} {H : Hp} {σ : St} {s : GS} {i : Nat} {v : Option V} (k : Sl K An h H σ s) : Sl K An h H (σ.set i v) (s.set i none) := by
  refine ⟨by rw [List.length_set, List.length_set]; exact k.1, fun j e q => ?_, k.an⟩
  by_cases z : i = j
  · subst z
    have hl : i < s.length := by
      have := (List.getElem?_eq_some_iff.mp q).1
      rw [List.length_set] at this; exact this
    rw [List.getElem?_set_self hl] at q
    cases q
  · rw [List.getElem?_set_ne z] at q
    obtain ⟨u, q1, q2⟩ := k.2 j e q
    exact ⟨u, by rw [List.getElem?_set_ne z]; exact q1, q2⟩
def startG (N : List Str) (ds : List D) : GS := ds.map some ++ List.replicate (N.length - ds.length) none
theorem Sl.begin {K : Fg} {An : AN} {h : GH} {H : Hp} {N : List Str} {vs : List V} {ds : List D} (r : Dvs K h H vs ds) (an : An.ok h H) : Sl K An h H (L2.start N vs) (startG N ds) := by
  have hl := r.length
  refine ⟨by unfold L2.start startG; simp [hl], fun i d e => ?_, an⟩
  unfold startG at e
  by_cases z : i < ds.length
  · rw [List.getElem?_append_left (by simpa using z), List.getElem?_map] at e
    cases q : ds[i]? with
    | none => rw [q] at e; cases e
    | some d' =>
      rw [q] at e
      have e' : d' = d := Option.some.inj (Option.some.inj e)
      subst e'
      obtain ⟨v, h1, h2⟩ := r.get q
      refine ⟨v, ?_, h2⟩
      unfold L2.start
      rw [List.getElem?_append_left (by rw [List.length_map, hl]; exact z), List.getElem?_map, h1]
      rfl
  · rw [List.getElem?_append_right (by simpa using Nat.le_of_not_lt z)] at e
    exfalso
    have := List.mem_of_getElem? e
    rw [List.mem_replicate] at this
    cases this.2

/-! ### readings -/
abbrev GP := D → GH → Prop
abbrev gTE := GS → GH → GP → Prop
abbrev gTT := GS → GH → (Bool → GH → Prop) → Prop
abbrev gTA := GS → GH → (List D → GH → Prop) → Prop
def gE (K : Fg) (An : AN) (g : gTE) : TE := fun σ H Q => ∃ s h P, Rel K h H ∧ Sl K An h H σ s ∧ g s h P ∧ ∀ v H' d h', Step h H h' H' → Rel K h' H' → Dv K h' H' v d → P d h' → Q v H'
def gT (K : Fg) (An : AN) (g : gTT) : TT := fun σ H Q => ∃ s h P, Rel K h H ∧ Sl K An h H σ s ∧ g s h P ∧ ∀ b H' h', Step h H h' H' → Rel K h' H' → P b h' → Q b H'
def gA (K : Fg) (An : AN) (g : gTA) : TA := fun σ H Q => ∃ s h P, Rel K h H ∧ Sl K An h H σ s ∧ g s h P ∧ ∀ vs H' ds h', Step h H h' H' → Rel K h' H' → Dvs K h' H' vs ds → P ds h' → Q vs H'
/-- a new list: p is its own -/
def gF (K : Fg) (An : AN) (g : gTA) : TE := fun σ H Q => ∃ s h P, Rel K h H ∧ Sl K An h H σ s ∧ g s h P ∧ ∀ p ds H' h1, h1 p = none → Step h H (put h1 p (.lst ds)) H' → Rel K (put h1 p (.lst ds)) H' → P ds h1 → Q (.ref p) H'
structure GEnds where
  nx : GS → GH → Prop
  rt : GP
  bk : GS → GH → Prop := fun _ _ => False
  ct : GS → GH → Prop := fun _ _ => False
abbrev gTS := GEnds → GS → GH → Prop
/-- the ends as they are wanted -/
structure Meets (K : Fg) (An : AN) (h : GH) (H : Hp) (N : GEnds) (De : Ends) : Prop where
  nx : ∀ σ' H' s' h', Step h H h' H' → Rel K h' H' → Sl K An h' H' σ' s' → N.nx s' h' → De.nx σ' H'
  rt : ∀ v H' d h', Step h H h' H' → Rel K h' H' → Dv K h' H' v d → N.rt d h' → De.rt v H'
  bk : ∀ σ' H' s' h', Step h H h' H' → Rel K h' H' → Sl K An h' H' σ' s' → N.bk s' h' → De.bk σ' H'
  ct : ∀ σ' H' s' h', Step h H h' H' → Rel K h' H' → Sl K An h' H' σ' s' → N.ct s' h' → De.ct σ' H'
theorem Meets.after {K : Fg} {An : AN} {h h1 : GH} {H H1 : Hp} {N : GEnds} {De : Ends} (m : Meets K An h H N De) (t : Step h H h1 H1) : Meets K An h1 H1 N De :=
  ⟨fun σ' H' s' h' a => m.nx σ' H' s' h' (t.trans a), fun v H' d h' a => m.rt v H' d h' (t.trans a), fun σ' H' s' h' a => m.bk σ' H' s' h' (t.trans a), fun σ' H' s' h' a => m.ct σ' H' s' h' (t.trans a)⟩
def gS (K : Fg) (An : AN) (g : gTS) : TS := fun De σ H => ∃ s h N, Rel K h H ∧ Sl K An h H σ s ∧ g N s h ∧ Meets K An h H N De

section
variable {X : Cx} {An : AN}
theorem _root_.L2.PE.imp {e : Expr} {t t' : TE} (h : PE X e t) (k : ∀ σ H Q, t' σ H Q → t σ H Q) : PE X e t' := ⟨fun pins s σ H Q I q => h.run pins s σ H Q I (k σ H Q q)⟩
theorem _root_.L2.PT.imp {e : Expr} {t t' : TT} (h : PT X e t) (k : ∀ σ H Q, t' σ H Q → t σ H Q) : PT X e t' := ⟨fun pins s σ H Q I q => h.run pins s σ H Q I (k σ H Q q)⟩
theorem _root_.L2.PW.imp {e : Expr} {t t' : TT} (h : PW X e t) (k : ∀ σ H Q, t' σ H Q → t σ H Q) : PW X e t' := ⟨fun wh pins s σ H Q I q => h.run wh pins s σ H Q I (k σ H Q q)⟩
theorem _root_.L2.PA.imp {e : List Expr} {t t' : TA} (h : PA X e t) (k : ∀ σ H Q, t' σ H Q → t σ H Q) : PA X e t' := ⟨fun pos pins s σ H Q I q => h.run pos pins s σ H Q I (k σ H Q q)⟩
theorem _root_.L2.PS.imp {e : Stmt} {t t' : TS} (h : PS X e t) (k : ∀ De σ H, t' De σ H → t De σ H) : PS X e t' := ⟨fun pins s σ H De I q => h.run pins s σ H De I (k De σ H q)⟩
theorem _root_.L2.PSs.imp {e : List Stmt} {t t' : TS} (h : PSs X e t) (k : ∀ De σ H, t' De σ H → t De σ H) : PSs X e t' := ⟨fun pins s σ H De I q => h.run pins s σ H De I (k De σ H q)⟩

/-! ### names, constants -/
def gVar (i : Nat) : gTE := fun s h P => ∃ d, s[i]? = some (some d) ∧ P d h
def gC (d : D) : gTE := fun _ h P => P d h
variable {pos : Pos}
theorem e_var (i : Nat) {x : Str} (hN : X.N[i]? = some x := by rfl) (hv : Vis X.env.scope x := by first | exact Or.inl rfl | exact Or.inr (Or.inl rfl) | exact Or.inr (Or.inr rfl)) (hd : (x == ("__debug__" : Str)) = false := by decide)
    (hcd : (x == ("__classdict__" : Str)) = false := by decide) : PE X (.Name x pos) (gE X.K An (gVar i)) :=
  (pe_var (i := i) hN hv hd hcd).imp fun σ H Q ⟨s, h, P, r, l, ⟨d, e, p⟩, k⟩ => let ⟨v, q1, q2⟩ := l.2 i d e; ⟨v, q1, k v H d h (Step.refl h H) r q2 p⟩
theorem e_int {i j} : PE X (.Constant (.int i) j pos) (gE X.K An (gC (.int i))) := pe_int.imp fun _ H _ ⟨_, h, _, r, _, p, k⟩ => k _ H _ h (Step.refl h H) r (.int i) p
theorem e_bl {b j} : PE X (.Constant (.bool b) j pos) (gE X.K An (gC (.bl b))) := pe_bl.imp fun _ H _ ⟨_, h, _, r, _, p, k⟩ => k _ H _ h (Step.refl h H) r (.bl b) p
theorem e_non {j} : PE X (.Constant .none j pos) (gE X.K An (gC .non)) := pe_non.imp fun _ H _ ⟨_, h, _, r, _, p, k⟩ => k _ H _ h (Step.refl h H) r .non p
theorem e_str {x j} : PE X (.Constant (.str x) j pos) (gE X.K An (gC (.str x))) := pe_str.imp fun _ H _ ⟨_, h, _, r, _, p, k⟩ => k _ H _ h (Step.refl h H) r (.str x) p
/-- a constant of the module, whatever the heap is -/
theorem e_glob {x : Str} {v : V} {u : Value} {d : D} (hm : X.mg x = some u) (rv : RelV v u) (dv : ∀ h H, Dv X.K h H v d) (hg : Gl X x := by rfl) (hd : (x == ("__debug__" : Str)) = false := by decide) : PE X (.Name x pos) (gE X.K An (gC d)) :=
  (pe_glob hg hm rv hd).imp fun _ H _ ⟨_, h, _, r, _, p, k⟩ => k _ H _ h (Step.refl h H) r (dv h H) p
theorem e_bltn {x : Str} {v : V} {u : Value} {d : D} (hm : X.mg x = none) (hv : bootBuiltins x = some u) (rv : RelV v u) (dv : ∀ h H, Dv X.K h H v d) (hg : Gl X x := by rfl) (hn : x ≠ "__name__" := by decide) (hd : (x == ("__debug__" : Str)) = false := by decide) : PE X (.Name x pos) (gE X.K An (gC d)) :=
  (pe_bltn hg hm hv rv hn hd).imp fun _ H _ ⟨_, h, _, r, _, p, k⟩ => k _ H _ h (Step.refl h H) r (dv h H) p

/-! ### operations -/
abbrev R3 := GH → D → D → D → Prop
def OPL (K : Fg) (r : R2) (R : R3) : Prop := ∀ x y H h a b c Q, Rel K h H → Dv K h H x a → Dv K h H y b → R h a b c → (∀ v H', Step h H h H' → Rel K h H' → Dv K h H' v c → Q v H') → r x y H Q
def gBin (R : R3) (ga gb : gTE) : gTE := fun s h P => ga s h fun a h1 => gb s h1 fun b h2 => ∃ c, R h2 a b c ∧ P c h2
theorem two {K : Fg} {An : AN} {r : R2} {R : R3} {ga gb : gTE} (o : OPL K r R) (σ : St) (H : Hp) (Q : VK) (q : gE K An (gBin R ga gb) σ H Q) : tOp r (gE K An ga) (gE K An gb) σ H Q := by
  obtain ⟨s, h, P, re, l, g, k⟩ := q
  refine ⟨s, h, _, re, l, g, fun x H1 a h1 s1 re1 dx g1 => ?_⟩
  refine ⟨s, h1, _, re1, l.mono s1, g1, fun y H2 b h2 s2 re2 dy g2 => ?_⟩
  obtain ⟨c, hr, p⟩ := g2
  exact o x y H2 h2 a b c Q re2 (dx.mono s2) dy hr fun v H' s3 re3 dv => k v H' c h2 ((s1.trans s2).trans s3) re3 dv p
variable {a b : Expr} {ga gb : gTE}
theorem e_bin {op : Operator} {r : R2} {R : R3} (ho : OpR X (binaryOp op) r) (o : OPL X.K r R) (ha : PE X a (gE X.K An ga)) (hb : PE X b (gE X.K An gb)) : PE X (.BinOp a op b pos) (gE X.K An (gBin R ga gb)) :=
  (pe_op ho ha hb).imp fun σ H Q q => two o σ H Q q
theorem e_cmp {op : CmpOp} {r : R2} {R : R3} (ho : OpR X (compareOp op) r) (o : OPL X.K r R) (ha : PE X a (gE X.K An ga)) (hb : PE X b (gE X.K An gb)) (hm : behindInMarks op b = false) : PE X (.Compare a [op] [b] pos) (gE X.K An (gBin R ga gb)) :=
  (pe_cmpR ho ha hb hm).imp fun σ H Q q => two o σ H Q q
def UNL (K : Fg) (r : V → Hp → VK → Prop) (R : GH → D → D → Prop) : Prop := ∀ x H h a c Q, Rel K h H → Dv K h H x a → R h a c → (∀ v H', Step h H h H' → Rel K h H' → Dv K h H' v c → Q v H') → r x H Q
def gUn (R : GH → D → D → Prop) (ga : gTE) : gTE := fun s h P => ga s h fun a h1 => ∃ c, R h1 a c ∧ P c h1
theorem e_un {op : UnaryOp} {r : V → Hp → VK → Prop} {R : GH → D → D → Prop} (ho : UnR X (unaryOp op) r) (o : UNL X.K r R) (ha : PE X a (gE X.K An ga)) : PE X (.UnaryOp op a pos) (gE X.K An (gUn R ga)) :=
  (pe_un ho ha).imp fun σ H Q ⟨s, h, P, re, l, g, k⟩ => ⟨s, h, _, re, l, g, fun x H1 a h1 s1 re1 dx ⟨c, hr, p⟩ => o x H1 h1 a c Q re1 dx hr fun v H' s3 re3 dv => k v H' c h1 (s1.trans s3) re3 dv p⟩
end
end Gh

namespace Gh
open PySem L2
/-! ### operators by the data -/
/-- an owned list is seen as a list -/
def vw (h : GH) : D → D
  | .ref p => match h p with
    | some (.lst ds) => .lst ds
    | _ => .ref p
  | d => d
theorem vw_own {h : GH} {p : Addr} {ds : List D} (e : h p = some (.lst ds)) : vw h (.ref p) = .lst ds := by
  simp only [vw, e]
section
variable {K : Fg} {h : GH} {H : Hp} {v : V} {d : D}
theorem vw_lst {ds : List D} (r : Rel K h H) (k : Dv K h H v d) (e : vw h d = .lst ds) : ∃ p xs, v = .ref p ∧ H p = some (.lst xs) ∧ Dvs K h H xs ds := by
  cases k with
  | lst n q rs => cases e; exact ⟨_, _, rfl, q, rs⟩
  | ref a =>
    unfold vw at e
    dsimp only at e
    cases z : h a with
    | none => rw [z] at e; cases e
    | some g =>
      rw [z] at e
      cases g with
      | lst es =>
        cases e
        obtain ⟨xs, q, rs⟩ := r a _ z
        exact ⟨a, xs, rfl, q, rs⟩
      | bag => cases e
      | ins C fs => cases e
      | dct kvs => cases e
      | xd fs => cases e
      | tab q => cases e
  | _ => cases e
theorem vw_tup {ds : List D} (k : Dv K h H v d) (e : vw h d = .tup ds) : ∃ p xs, v = .ref p ∧ TpF K h H p xs ∧ Dvs K h H xs ds := by
  cases k with
  | tup t rs => cases e; exact ⟨_, _, rfl, t, rs⟩
  | ref a =>
    unfold vw at e
    dsimp only at e
    split at e <;> cases e
  | _ => cases e
theorem vw_fro {ds : List D} (k : Dv K h H v d) (e : vw h d = .fro ds) : ∃ p xs, v = .ref p ∧ LsF K h H p xs ∧ Dvs K h H xs ds := by
  cases k with
  | fro t rs => cases e; exact ⟨_, _, rfl, t, rs⟩
  | ref a =>
    unfold vw at e
    dsimp only at e
    split at e <;> cases e
  | _ => cases e
theorem vw_int {i : Int} (k : Dv K h H v d) (e : vw h d = .int i) : v = .int i := by
  cases k with
  | int j => cases e; rfl
  | ref a =>
    unfold vw at e
    dsimp only at e
    split at e <;> cases e
  | _ => cases e
theorem vw_str {x : Str} (k : Dv K h H v d) (e : vw h d = .str x) : v = .str x := by
  cases k with
  | str j => cases e; rfl
  | ref a =>
    unfold vw at e
    dsimp only at e
    split at e <;> cases e
  | _ => cases e
theorem vw_bl {x : Bool} (k : Dv K h H v d) (e : vw h d = .bl x) : v = .bl x := by
  cases k with
  | bl j => cases e; rfl
  | ref a =>
    unfold vw at e
    dsimp only at e
    split at e <;> cases e
  | _ => cases e
theorem vw_non (k : Dv K h H v d) (e : vw h d = .non) : v = .non := by
  cases k with
  | non => rfl
  | ref a =>
    unfold vw at e
    dsimp only at e
    split at e <;> cases e
  | _ => cases e
theorem Dvs.lst_new {ds : List D} {xs : List V} {p : Addr} (re : Rel K h H) (k : Dvs K h H xs ds) (n : H p = none) : Dv K h (upd H p (.lst xs)) (.ref p) (.lst ds) :=
  .lst (re.free n) upd_same (k.mono (Step.new n))
theorem Dvs.tup_new {ds : List D} {xs : List V} {p : Addr} (re : Rel K h H) (k : Dvs K h H xs ds) (n : H p = none) : Dv K h (upd H p (.tup xs)) (.ref p) (.tup ds) :=
  .tup (.inl ⟨re.free n, .inl upd_same⟩) (k.mono (Step.new n))
end
/-- + -/
def RAdd : R3 := fun h a b c => match vw h a, vw h b with
  | .int i, .int j => c = .int (i + j)
  | .str x, .str y => x.length + y.length ≤ sizeLine ∧ c = .str (x ++ y)
  | .lst xs, .lst ys => xs.length + ys.length ≤ sizeLine ∧ c = .lst (xs ++ ys)
  | .tup xs, .tup ys => xs.length + ys.length ≤ sizeLine ∧ c = .tup (xs ++ ys)
  | _, _ => False
def RSub : R3 := fun h a b c => match vw h a, vw h b with
  | .int i, .int j => c = .int (i - j)
  | _, _ => False
def RMul : R3 := fun h a b c => match vw h a, vw h b with
  | .int i, .int j => (CMul i j ∨ CMulW i j) ∧ c = .int (i * j)
  | .str x, .int n => (0 ≤ n ∧ n ≤ 1000000 ∧ x.length * n.toNat ≤ 1000000) ∧ c = .str (repS x n.toNat)
  | .tup xs, .int n => (1 ≤ n ∧ n ≤ 1000 ∧ xs.length ≤ 1000) ∧ c = .tup (List.replicate n.toNat xs).flatten
  | .lst xs, .int n => (-(2 ^ 63) ≤ n ∧ n < 2 ^ 63 ∧ xs.length * n.toNat ≤ sizeLine) ∧ c = .lst (List.replicate n.toNat xs).flatten
  | _, _ => False
def RFdiv : R3 := fun h a b c => match vw h a, vw h b with
  | .int i, .int j => (j ≠ 0 ∧ j.natAbs.log2 < 9000) ∧ c = .int (i.fdiv j)
  | _, _ => False
def RMod : R3 := fun h a b c => match vw h a, vw h b with
  | .int i, .int j => j ≠ 0 ∧ c = .int (i.fmod j)
  | _, _ => False
def RPow : R3 := fun h a b c => match vw h a, vw h b with
  | .int i, .int j => CPow i j ∧ c = .int (i ^ j.toNat)
  | _, _ => False
def RCmp (f : Int → Int → Bool) : R3 := fun h a b c => match vw h a, vw h b with
  | .int i, .int j => c = .bl (f i j)
  | _, _ => False
/-- an int rule -/
theorem opl_int {K : Fg} {C : Int → Int → Prop} {g : Int → Int → V} {gd : Int → Int → D} (hg : ∀ i j h H, Dv K h H (g i j) (gd i j)) : OPL K (rI C g) (fun h a b c => match vw h a, vw h b with
    | .int i, .int j => C i j ∧ c = gd i j
    | _, _ => False) := by
  intro x y H h a b c Q re dx dy hr k
  cases ea : vw h a <;> cases eb : vw h b <;> simp only [ea, eb] at hr
  rename_i i j
  obtain ⟨hc, rfl⟩ := hr
  exact ⟨i, j, vw_int dx ea, vw_int dy eb, hc, k _ H (Step.refl h H) re (hg i j h H)⟩
theorem opl_int0 {K : Fg} {g : Int → Int → V} {gd : Int → Int → D} (hg : ∀ i j h H, Dv K h H (g i j) (gd i j)) : OPL K (rI0 g) (fun h a b c => match vw h a, vw h b with
    | .int i, .int j => c = gd i j
    | _, _ => False) := by
  intro x y H h a b c Q re dx dy hr k
  cases ea : vw h a <;> cases eb : vw h b <;> simp only [ea, eb] at hr
  rename_i i j
  subst hr
  exact ⟨i, j, vw_int dx ea, vw_int dy eb, k _ H (Step.refl h H) re (hg i j h H)⟩
section
variable {X : Cx} {An : AN}
/-! the operators of the layer, of all kinds -/
def rAddA (K : Fg) : R2 := fun x y H Q => (rI0 (fun i j => .int (i + j))) x y H Q ∨ (∃ i j, x = .str i ∧ y = .str j ∧ i.length + j.length ≤ sizeLine ∧ Q (.str (i ++ j)) H) ∨ rCat x y H Q ∨ rCatA K x y H Q
theorem oAdd : OpR X (binaryOp .Add) (rAddA X.K) := op_add.or (op_add_str.or (op_cat.or op_catA))
theorem lAdd {K : Fg} : OPL K (rAddA K) RAdd := by
  intro x y H h a b c Q re dx dy hr k
  unfold RAdd at hr
  cases ea : vw h a <;> cases eb : vw h b <;> simp only [ea, eb] at hr
  · subst hr
    exact .inl ⟨_, _, vw_int dx ea, vw_int dy eb, k _ H (Step.refl h H) re (.int _)⟩
  · obtain ⟨hz, rfl⟩ := hr
    exact .inr (.inl ⟨_, _, vw_str dx ea, vw_str dy eb, hz, k _ H (Step.refl h H) re (.str _)⟩)
  · obtain ⟨hz, rfl⟩ := hr
    obtain ⟨p, xs, e1, h1, r1⟩ := vw_tup dx ea
    obtain ⟨q, ys, e2, h2, r2⟩ := vw_tup dy eb
    refine .inr (.inr (.inr ⟨p, q, xs, ys, e1, e2, h1.sq, h2.sq, by rw [r1.length, r2.length]; exact hz, fun z => ?_, fun z z' => ?_, fun _ _ t n => ?_⟩))
    · subst z
      cases r1
      exact k _ H (Step.refl h H) re (.tup h2 r2)
    · subst z'
      cases r2
      rw [List.append_nil] at k
      exact k _ H (Step.refl h H) re (.tup h1 r1)
    · exact k _ _ (Step.new n) (re.new n) ((r1.append r2).tup_new re n)
  · obtain ⟨hz, rfl⟩ := hr
    obtain ⟨p, xs, e1, h1, r1⟩ := vw_lst re dx ea
    obtain ⟨q, ys, e2, h2, r2⟩ := vw_lst re dy eb
    refine .inr (.inr (.inl ⟨p, q, xs, ys, e1, e2, h1, h2, by rw [r1.length, r2.length]; exact hz, fun t n => ?_⟩))
    exact k _ _ (Step.new n) (re.new n) ((r1.append r2).lst_new re n)
theorem lSub {K : Fg} : OPL K (rI0 fun i j => .int (i - j)) RSub := opl_int0 (gd := fun i j => .int (i - j)) fun i j _ _ => .int _
theorem Dvs.rep {K : Fg} {h : GH} {H : Hp} {vs : List V} {ds : List D} (r : Dvs K h H vs ds) : ∀ n : Nat, Dvs K h H (List.replicate n vs).flatten (List.replicate n ds).flatten
  | 0 => .nil
  | n + 1 => by
    rw [List.replicate_succ, List.replicate_succ, List.flatten_cons, List.flatten_cons]
    exact r.append (Dvs.rep r n)
def rMulA (K : Fg) : R2 := fun x y H Q => (rI CMul fun i j => .int (i * j)) x y H Q ∨ (rI CMulW fun i j => .int (i * j)) x y H Q ∨ (∃ z n, x = .str z ∧ y = .int n ∧ 0 ≤ n ∧ n ≤ 1000000 ∧ z.length * n.toNat ≤ 1000000 ∧ Q (.str (repS z n.toNat)) H) ∨ rRepT K x y H Q ∨ rRepS K x y H Q ∨ rRep x y H Q
theorem oMul : OpR X (binaryOp .Mult) (rMulA X.K) := op_mul.or (op_mulW.or (op_mulS.or (op_repT.or (op_repS.or op_rep))))
theorem rep_nil {α : Type} (n : Nat) : (List.replicate n ([] : List α)).flatten = [] := by
  induction n with
  | zero => rfl
  | succ n ih => rw [List.replicate_succ, List.flatten_cons, ih]; rfl
theorem lMul {K : Fg} : OPL K (rMulA K) RMul := by
  intro x y H h a b c Q re dx dy hr k
  unfold RMul at hr
  cases ea : vw h a <;> cases eb : vw h b <;> simp only [ea, eb] at hr
  · obtain ⟨hc, rfl⟩ := hr
    rcases hc with hc | hc
    · exact .inl ⟨_, _, vw_int dx ea, vw_int dy eb, hc, k _ H (Step.refl h H) re (.int _)⟩
    · exact .inr (.inl ⟨_, _, vw_int dx ea, vw_int dy eb, hc, k _ H (Step.refl h H) re (.int _)⟩)
  · obtain ⟨⟨h0, h1, hz⟩, rfl⟩ := hr
    exact .inr (.inr (.inl ⟨_, _, vw_str dx ea, vw_int dy eb, h0, h1, hz, k _ H (Step.refl h H) re (.str _)⟩))
  · rename_i ds n
    obtain ⟨⟨h0, h1, hz⟩, rfl⟩ := hr
    obtain ⟨p, xs, e1, t, rs⟩ := vw_tup dx ea
    by_cases hc : ds = [] ∨ n = 1
    · have e : (List.replicate n.toNat ds).flatten = ds := by
        rcases hc with rfl | rfl
        · exact rep_nil _
        · show [ds].flatten = ds
          simp
      rw [e] at k
      refine .inr (.inr (.inr (.inr (.inl ⟨p, n, xs, e1, vw_int dy eb, t.sq, ?_, h0, h1, k _ H (Step.refl h H) re (.tup t rs)⟩))))
      rcases hc with rfl | rfl
      · cases rs; exact .inl rfl
      · exact .inr rfl
    · have h2 : 2 ≤ n := by
        have : n ≠ 1 := fun z => hc (.inr z)
        omega
      refine .inr (.inr (.inr (.inl ⟨p, n, xs, e1, vw_int dy eb, t.sq, fun z => ?_, h2, h1, by rw [rs.length]; exact hz, fun q nq => k _ _ (Step.new nq) (re.new nq) ((rs.rep _).tup_new re nq)⟩)))
      subst z
      cases rs
      exact hc (.inl rfl)
  · rename_i ds n
    obtain ⟨⟨h0, h1, hz⟩, rfl⟩ := hr
    obtain ⟨p, xs, e1, t, rs⟩ := vw_lst re dx ea
    exact .inr (.inr (.inr (.inr (.inr ⟨p, n, xs, e1, vw_int dy eb, t, h0, h1, by rw [rs.length]; exact hz, fun q nq => k _ _ (Step.new nq) (re.new nq) ((rs.rep _).lst_new re nq)⟩))))
theorem oFdiv : OpR X (binaryOp .FloorDiv) (rI (fun _ j => j ≠ 0 ∧ j.natAbs.log2 < 9000) fun i j => .int (i.fdiv j)) := opI fun i j _ _ _ _ _ hc q => PyProof.Rows.floordiv_int hc.1 q (.inl (PyProof.noPylong_of_log2 hc.2))
theorem lFdiv {K : Fg} : OPL K (rI (fun _ j => j ≠ 0 ∧ j.natAbs.log2 < 9000) fun i j => .int (i.fdiv j)) RFdiv := opl_int (gd := fun i j => .int (i.fdiv j)) fun i j _ _ => .int _
theorem lMod {K : Fg} : OPL K (rI (fun _ j => j ≠ 0) fun i j => .int (i.fmod j)) RMod := opl_int (gd := fun i j => .int (i.fmod j)) fun i j _ _ => .int _
theorem lPow {K : Fg} : OPL K (rI CPow fun i j => .int (i ^ j.toNat)) RPow := opl_int (gd := fun i j => .int (i ^ j.toNat)) fun i j _ _ => .int _
theorem lCmp {K : Fg} {f : Int → Int → Bool} : OPL K (rI0 fun i j => .bl (f i j)) (RCmp f) := opl_int0 (gd := fun i j => .bl (f i j)) fun i j _ _ => .bl _
variable {a b : Expr} {ga gb : gTE} {pos : Pos}
theorem e_add (ha : PE X a (gE X.K An ga)) (hb : PE X b (gE X.K An gb)) : PE X (.BinOp a .Add b pos) (gE X.K An (gBin RAdd ga gb)) := e_bin oAdd lAdd ha hb
theorem e_sub (ha : PE X a (gE X.K An ga)) (hb : PE X b (gE X.K An gb)) : PE X (.BinOp a .Sub b pos) (gE X.K An (gBin RSub ga gb)) := e_bin op_sub lSub ha hb
theorem e_mul (ha : PE X a (gE X.K An ga)) (hb : PE X b (gE X.K An gb)) : PE X (.BinOp a .Mult b pos) (gE X.K An (gBin RMul ga gb)) := e_bin oMul lMul ha hb
theorem e_fdiv (ha : PE X a (gE X.K An ga)) (hb : PE X b (gE X.K An gb)) : PE X (.BinOp a .FloorDiv b pos) (gE X.K An (gBin RFdiv ga gb)) := e_bin oFdiv lFdiv ha hb
theorem e_mod (ha : PE X a (gE X.K An ga)) (hb : PE X b (gE X.K An gb)) : PE X (.BinOp a .Mod b pos) (gE X.K An (gBin RMod ga gb)) := e_bin op_modN lMod ha hb
theorem e_pow (ha : PE X a (gE X.K An ga)) (hb : PE X b (gE X.K An gb)) : PE X (.BinOp a .Pow b pos) (gE X.K An (gBin RPow ga gb)) := e_bin op_pow lPow ha hb
theorem e_lt (ha : PE X a (gE X.K An ga)) (hb : PE X b (gE X.K An gb)) : PE X (.Compare a [.Lt] [b] pos) (gE X.K An (gBin (RCmp fun i j => decide (i < j)) ga gb)) := e_cmp op_lt lCmp ha hb (nomark _)
theorem e_le (ha : PE X a (gE X.K An ga)) (hb : PE X b (gE X.K An gb)) : PE X (.Compare a [.LtE] [b] pos) (gE X.K An (gBin (RCmp fun i j => decide (i ≤ j)) ga gb)) := e_cmp op_le lCmp ha hb (nomark _)
theorem e_gt (ha : PE X a (gE X.K An ga)) (hb : PE X b (gE X.K An gb)) : PE X (.Compare a [.Gt] [b] pos) (gE X.K An (gBin (RCmp fun i j => decide (j < i)) ga gb)) := e_cmp op_gt lCmp ha hb (nomark _)
theorem e_ge (ha : PE X a (gE X.K An ga)) (hb : PE X b (gE X.K An gb)) : PE X (.Compare a [.GtE] [b] pos) (gE X.K An (gBin (RCmp fun i j => decide (j ≤ i)) ga gb)) := e_cmp op_ge lCmp ha hb (nomark _)
end
/-! ### == by the data -/
mutual
def toP : D → Option PyData
  | .non => some .none
  | .bl b => some (.bool b)
  | .int i => some (.int i)
  | .str x => some (.str x)
  | .tup ds => (toPs ds).map .tuple
  | .lst ds => (toPs ds).map .list
  | .ref _ => none
  | .ty _ => none
  | .fro _ => none
def toPs : List D → Option (List PyData)
  | [] => some []
  | d :: r => (toP d).bind fun x => (toPs r).map (x :: ·)
end
mutual
theorem Dv.dp {K : Fg} {h : GH} {H : Hp} : ∀ {v : V} {d : D} {p : PyData}, Dv K h H v d → toP d = some p → Dp K H v p
  | _, _, _, .non, e => by cases e; exact .non
  | _, _, _, .bl b, e => by cases e; exact .bl b
  | _, _, _, .int i, e => by cases e; exact .int i
  | _, _, _, .str x, e => by cases e; exact .str x
  | _, _, _, .ty n, e => by cases e
  | _, _, _, .ref a, e => by cases e
  | _, _, _, .fro _ _, e => by cases e
  | _, _, _, .tup (ds := ds) t rs, e => by
    rw [toP] at e
    cases q : toPs ds with
    | none => rw [q] at e; cases e
    | some ps => rw [q] at e; cases e; exact .tup t.sq (Dvs.dp rs q)
  | _, _, _, .lst (ds := ds) n t rs, e => by
    rw [toP] at e
    cases q : toPs ds with
    | none => rw [q] at e; cases e
    | some ps => rw [q] at e; cases e; exact .lst (.inl (.inl t)) (Dvs.dp rs q)
theorem Dvs.dp {K : Fg} {h : GH} {H : Hp} : ∀ {v : List V} {d : List D} {p : List PyData}, Dvs K h H v d → toPs d = some p → DpAll K H v p
  | _, _, _, .nil, e => by cases e; exact .nil
  | _, _, _, .cons (d := d) (ds := ds) a r, e => by
    rw [toPs] at e
    cases q : toP d with
    | none => rw [q] at e; cases e
    | some x =>
      cases q2 : toPs ds with
      | none => rw [q, q2] at e; cases e
      | some xs => rw [q, q2] at e; cases e; exact .cons (Dv.dp a q) (Dvs.dp r q2)
end
theorem vw_dp {K : Fg} {h : GH} {H : Hp} {v : V} {d : D} {p : PyData} (re : Rel K h H) (k : Dv K h H v d) (e : toP (vw h d) = some p) : Dp K H v p := by
  cases k with
  | ref a =>
    cases z : h a with
    | none =>
      have q : vw h (.ref a) = .ref a := by simp only [vw, z]
      rw [q] at e; cases e
    | some g =>
      cases g with
      | lst es =>
        rw [vw_own z] at e
        obtain ⟨xs, q, rs⟩ := re a _ z
        rw [toP] at e
        cases q2 : toPs es with
        | none => rw [q2] at e; cases e
        | some ps => rw [q2] at e; cases e; exact .lst (.inl (.inl q)) (rs.dp q2)
      | bag => have q : vw h (.ref a) = .ref a := by { simp only [vw, z] }; rw [q] at e; cases e
      | ins C fs => have q : vw h (.ref a) = .ref a := by { simp only [vw, z] }; rw [q] at e; cases e
      | dct kvs => have q : vw h (.ref a) = .ref a := by { simp only [vw, z] }; rw [q] at e; cases e
      | xd kvs => have q : vw h (.ref a) = .ref a := by { simp only [vw, z] }; rw [q] at e; cases e
      | tab kvs => have q : vw h (.ref a) = .ref a := by { simp only [vw, z] }; rw [q] at e; cases e
  | non => exact Dv.dp (h := h) .non e
  | bl b => exact Dv.dp (h := h) (.bl b) e
  | int b => exact Dv.dp (h := h) (.int b) e
  | str b => exact Dv.dp (h := h) (.str b) e
  | ty b => exact Dv.dp (h := h) (.ty b) e
  | tup t rs => exact Dv.dp (h := h) (.tup t rs) e
  | lst n t rs => exact Dv.dp (h := h) (.lst n t rs) e
  | fro t rs => exact Dv.dp (h := h) (.fro t rs) e
def REq (neg : Bool) : R3 := fun h a b c => match vw h a, vw h b with
  | .int i, .int j => c = .bl (if neg then !decide (i = j) else decide (i = j))
  | .str i, .str j => c = .bl (if neg then !decide (i = j) else decide (i = j))
  | x, y => ∃ p q, toP x = some p ∧ toP y = some q ∧ SeqAt.shaped p = true ∧ SeqAt.shaped q = true ∧ c = .bl (if neg then !PyData.eqv p q else PyData.eqv p q)
end Gh

namespace Gh
open PySem L2
section
variable {X : Cx} {An : AN} {a b c : Expr} {ga gb gc : gTE} {pos : Pos}
theorem dec_vint {i j : Int} : decide (V.int i = V.int j) = decide (i = j) := by rw [Bool.eq_iff_iff]; simp
theorem dec_vstr {i j : Str} : decide (V.str i = V.str j) = decide (i = j) := by rw [Bool.eq_iff_iff]; simp
def rEqA (K : Fg) : R2 := fun x y H Q => rEq x y H Q ∨ rEqD K x y H Q
def rNeA (K : Fg) : R2 := fun x y H Q => rNe x y H Q ∨ rNeD K x y H Q
theorem lEq {K : Fg} : OPL K (rEqA K) (REq false) := by
  intro x y H h a b c Q re dx dy hr k
  unfold REq at hr
  split at hr
  · rename_i i j ea eb
    subst hr
    rw [vw_int dx ea, vw_int dy eb]
    refine .inl ⟨rfl, ?_⟩
    rw [dec_vint]
    exact k _ H (Step.refl h H) re (.bl _)
  · rename_i i j ea eb
    subst hr
    rw [vw_str dx ea, vw_str dy eb]
    refine .inl ⟨rfl, ?_⟩
    rw [dec_vstr]
    exact k _ H (Step.refl h H) re (.bl _)
  · obtain ⟨p, q, e1, e2, s1, s2, rfl⟩ := hr
    exact .inr ⟨p, q, vw_dp re dx e1, vw_dp re dy e2, s1, s2, k _ H (Step.refl h H) re (.bl _)⟩
theorem lNe {K : Fg} : OPL K (rNeA K) (REq true) := by
  intro x y H h a b c Q re dx dy hr k
  unfold REq at hr
  split at hr
  · rename_i i j ea eb
    subst hr
    rw [vw_int dx ea, vw_int dy eb]
    refine .inl ⟨rfl, ?_⟩
    rw [dec_vint]
    exact k _ H (Step.refl h H) re (.bl _)
  · rename_i i j ea eb
    subst hr
    rw [vw_str dx ea, vw_str dy eb]
    refine .inl ⟨rfl, ?_⟩
    rw [dec_vstr]
    exact k _ H (Step.refl h H) re (.bl _)
  · obtain ⟨p, q, e1, e2, s1, s2, rfl⟩ := hr
    exact .inr ⟨p, q, vw_dp re dx e1, vw_dp re dy e2, s1, s2, k _ H (Step.refl h H) re (.bl _)⟩
theorem e_eq {k : Nat} (hr : Room k X.A) (ha : PE X a (gE X.K An ga)) (hb : PE X b (gE X.K An gb)) : PE X (.Compare a [.Eq] [b] pos) (gE X.K An (gBin (REq false) ga gb)) := e_cmp (op_eq.or (op_eqD hr.units)) lEq ha hb (nomark _)
theorem e_ne {k : Nat} (hr : Room k X.A) (ha : PE X a (gE X.K An ga)) (hb : PE X b (gE X.K An gb)) : PE X (.Compare a [.NotEq] [b] pos) (gE X.K An (gBin (REq true) ga gb)) := e_cmp (op_ne.or (op_neD hr.units)) lNe ha hb (nomark _)
/-! is None -/
def isN : D → Bool
  | .non => true
  | _ => false
def RIsN (neg : Bool) : GH → D → D → Prop := fun _ a c => c = .bl (if neg then !isN a else isN a)
theorem dv_isN {K : Fg} {h : GH} {H : Hp} {v : V} {d : D} (k : Dv K h H v d) : decide (v = .non) = isN d := by
  cases k <;> rfl
theorem e_isN {j} {p : Pos} (ha : PE X a (gE X.K An ga)) : PE X (.Compare a [.Is] [.Constant .none j p] pos) (gE X.K An (gUn (RIsN false) ga)) :=
  (pe_cmpR op_isN ha pe_non (nomark _)).imp fun σ H Q ⟨s, h, P, re, l, g, k⟩ => ⟨s, h, _, re, l, g, fun x H1 a h1 s1 re1 dx ⟨c, hr, p⟩ => by
    subst hr
    refine ⟨rfl, ?_⟩
    rw [dv_isN dx]
    exact k _ H1 _ h1 s1 re1 (.bl _) p⟩
theorem e_notN {j} {p : Pos} (ha : PE X a (gE X.K An ga)) : PE X (.Compare a [.IsNot] [.Constant .none j p] pos) (gE X.K An (gUn (RIsN true) ga)) :=
  (pe_cmpR op_notN ha pe_non (nomark _)).imp fun σ H Q ⟨s, h, P, re, l, g, k⟩ => ⟨s, h, _, re, l, g, fun x H1 a h1 s1 re1 dx ⟨c, hr, p⟩ => by
    subst hr
    refine ⟨rfl, ?_⟩
    rw [dv_isN dx]
    exact k _ H1 _ h1 s1 re1 (.bl _) p⟩
/-! negation -/
def RNeg : GH → D → D → Prop := fun h a c => match vw h a with
  | .int i => c = .int (-i)
  | _ => False
theorem e_neg (ha : PE X a (gE X.K An ga)) : PE X (.UnaryOp .USub a pos) (gE X.K An (gUn RNeg ga)) := e_un un_neg (by
  intro x H h a c Q re dx hr k
  unfold RNeg at hr
  split at hr
  · rename_i i ea
    subst hr
    exact ⟨i, vw_int dx ea, k _ H (Step.refl h H) re (.int _)⟩
  · exact hr.elim) ha
/-! ### tests, and, or, not, if -/
def gB (ga : gTE) : gTT := fun s h P => ga s h fun d h1 => ∃ b, d = .bl b ∧ P b h1
def gNot (gt : gTT) : gTT := fun s h P => gt s h fun b h1 => P (!b) h1
def gAnd (gt gu : gTT) : gTT := fun s h P => gt s h fun b h1 => if b = true then gu s h1 P else P false h1
def gOr (gt gu : gTT) : gTT := fun s h P => gt s h fun b h1 => if b = true then P true h1 else gu s h1 P
variable {gt gu : gTT}
theorem dv_bl {K : Fg} {h : GH} {H : Hp} {v : V} {b : Bool} (k : Dv K h H v (.bl b)) : v = .bl b := by cases k; rfl
theorem tB_of {K : Fg} {An : AN} (σ : St) (H : Hp) (Q : Bool → Hp → Prop) (q : gT K An (gB ga) σ H Q) : tB (gE K An ga) σ H Q := by
  obtain ⟨s, h, P, re, l, g, k⟩ := q
  refine ⟨s, h, _, re, l, g, fun x H1 a h1 s1 re1 dx ⟨b, e, p⟩ => ?_⟩
  subst e
  exact ⟨b, dv_bl dx, k b H1 h1 s1 re1 p⟩
theorem t_val (ha : PE X a (gE X.K An ga)) (he : ∀ whole, isTrue a X.env whole = (do let v ← whole; standAt a.pos; holding [v] (truthy v)) := by intro _; rfl) : PT X a (gT X.K An (gB ga)) := (pt_val ha he).imp tB_of
theorem t_not (ht : PT X a (gT X.K An gt)) : PT X (.UnaryOp .Not a pos) (gT X.K An (gNot gt)) := (pt_not ht).imp fun σ H Q ⟨s, h, P, re, l, g, k⟩ => ⟨s, h, _, re, l, g, fun b H' h' s1 re1 p => k (!b) H' h' s1 re1 p⟩

variable {rest : List Expr}
theorem and_of {K : Fg} {An : AN} (σ : St) (H : Hp) (Q : Bool → Hp → Prop) (q : gT K An (gAnd gt gu) σ H Q) : tAnd (gT K An gt) (gT K An gu) σ H Q := by
  obtain ⟨s, h, P, re, l, g, k⟩ := q
  refine ⟨s, h, _, re, l, g, fun b H1 h1 s1 re1 p => ?_⟩
  cases b with
  | true =>
    rw [if_pos rfl] at p
    rw [if_pos rfl]
    exact ⟨s, h1, _, re1, l.mono s1, p, fun b H2 h2 s2 re2 p2 => k b H2 h2 (s1.trans s2) re2 p2⟩
  | false =>
    rw [if_neg Bool.false_ne_true] at p
    rw [if_neg Bool.false_ne_true]
    exact k false H1 h1 s1 re1 p
theorem or_of {K : Fg} {An : AN} (σ : St) (H : Hp) (Q : Bool → Hp → Prop) (q : gT K An (gOr gt gu) σ H Q) : tOr (gT K An gt) (gT K An gu) σ H Q := by
  obtain ⟨s, h, P, re, l, g, k⟩ := q
  refine ⟨s, h, _, re, l, g, fun b H1 h1 s1 re1 p => ?_⟩
  cases b with
  | true =>
    rw [if_pos rfl] at p
    rw [if_pos rfl]
    exact k true H1 h1 s1 re1 p
  | false =>
    rw [if_neg Bool.false_ne_true] at p
    rw [if_neg Bool.false_ne_true]
    exact ⟨s, h1, _, re1, l.mono s1, p, fun b H2 h2 s2 re2 p2 => k b H2 h2 (s1.trans s2) re2 p2⟩
theorem w_and1 (ha : PT X a (gT X.K An gt)) : PW X (.BoolOp .And [a] pos) (gT X.K An gt) := pw_and1 ha
theorem w_or1 (ha : PT X a (gT X.K An gt)) : PW X (.BoolOp .Or [a] pos) (gT X.K An gt) := pw_or1 ha
theorem w_and (ha : PT X a (gT X.K An gt)) (hb : PW X (.BoolOp .And (b :: rest) pos) (gT X.K An gu)) : PW X (.BoolOp .And (a :: b :: rest) pos) (gT X.K An (gAnd gt gu)) := (pw_and ha hb).imp and_of
theorem w_or (ha : PT X a (gT X.K An gt)) (hb : PW X (.BoolOp .Or (b :: rest) pos) (gT X.K An gu)) : PW X (.BoolOp .Or (a :: b :: rest) pos) (gT X.K An (gOr gt gu)) := (pw_or ha hb).imp or_of
/-! as values, of truth values -/
def gAndV (ga gb : gTE) : gTE := fun s h P => ga s h fun a h1 => ∃ c, a = .bl c ∧ if c = true then gb s h1 P else P (.bl false) h1
def gOrV (ga gb : gTE) : gTE := fun s h P => ga s h fun a h1 => ∃ c, a = .bl c ∧ if c = true then P (.bl true) h1 else gb s h1 P
def gNotV (ga : gTE) : gTE := fun s h P => ga s h fun a h1 => ∃ c, a = .bl c ∧ P (.bl (!c)) h1
theorem e_one {op} (h : PE X a (gE X.K An ga)) : PE X (.BoolOp op [a] pos) (gE X.K An ga) := pe_one h
theorem e_and (ha : PE X a (gE X.K An ga)) (hb : PE X (.BoolOp .And (b :: rest) pos) (gE X.K An gb)) : PE X (.BoolOp .And (a :: b :: rest) pos) (gE X.K An (gAndV ga gb)) := (pe_and ha hb).imp fun σ H Q ⟨s, h, P, re, l, g, k⟩ => by
  refine ⟨s, h, _, re, l, g, fun x H1 a h1 s1 re1 dx ⟨c, e, p⟩ => ?_⟩
  subst e
  refine ⟨c, dv_bl dx, ?_⟩
  cases c with
  | true =>
    rw [if_pos rfl] at p
    rw [if_pos rfl]
    exact ⟨s, h1, _, re1, l.mono s1, p, fun v H2 d h2 s2 re2 dv p2 => k v H2 d h2 (s1.trans s2) re2 dv p2⟩
  | false =>
    rw [if_neg Bool.false_ne_true] at p
    rw [if_neg Bool.false_ne_true]
    exact k _ H1 _ h1 s1 re1 (.bl _) p
theorem e_or (ha : PE X a (gE X.K An ga)) (hb : PE X (.BoolOp .Or (b :: rest) pos) (gE X.K An gb)) : PE X (.BoolOp .Or (a :: b :: rest) pos) (gE X.K An (gOrV ga gb)) := (pe_or ha hb).imp fun σ H Q ⟨s, h, P, re, l, g, k⟩ => by
  refine ⟨s, h, _, re, l, g, fun x H1 a h1 s1 re1 dx ⟨c, e, p⟩ => ?_⟩
  subst e
  refine ⟨c, dv_bl dx, ?_⟩
  cases c with
  | true =>
    rw [if_pos rfl] at p
    rw [if_pos rfl]
    exact k _ H1 _ h1 s1 re1 (.bl _) p
  | false =>
    rw [if_neg Bool.false_ne_true] at p
    rw [if_neg Bool.false_ne_true]
    exact ⟨s, h1, _, re1, l.mono s1, p, fun v H2 d h2 s2 re2 dv p2 => k v H2 d h2 (s1.trans s2) re2 dv p2⟩
theorem e_not (ha : PE X a (gE X.K An ga)) : PE X (.UnaryOp .Not a pos) (gE X.K An (gNotV ga)) := (pe_not ha).imp fun σ H Q ⟨s, h, P, re, l, g, k⟩ => ⟨s, h, _, re, l, g, fun x H1 a h1 s1 re1 dx ⟨c, e, p⟩ => by
  subst e
  exact ⟨c, dv_bl dx, k _ H1 _ h1 s1 re1 (.bl _) p⟩⟩
def gIf (gt : gTT) (ga gb : gTE) : gTE := fun s h P => gt s h fun c h1 => if c = true then ga s h1 P else gb s h1 P
theorem e_if (hc : PT X c (gT X.K An gt)) (ha : PE X a (gE X.K An ga)) (hb : PE X b (gE X.K An gb)) : PE X (.IfExp c a b pos) (gE X.K An (gIf gt ga gb)) := (pe_ifExp hc ha hb).imp fun σ H Q ⟨s, h, P, re, l, g, k⟩ => by
  refine ⟨s, h, _, re, l, g, fun c H1 h1 s1 re1 p => ?_⟩
  cases c with
  | true =>
    rw [if_pos rfl] at p
    rw [if_pos rfl]
    exact ⟨s, h1, _, re1, l.mono s1, p, fun v H2 d h2 s2 re2 dv p2 => k v H2 d h2 (s1.trans s2) re2 dv p2⟩
  | false =>
    rw [if_neg Bool.false_ne_true] at p
    rw [if_neg Bool.false_ne_true]
    exact ⟨s, h1, _, re1, l.mono s1, p, fun v H2 d h2 s2 re2 dv p2 => k v H2 d h2 (s1.trans s2) re2 dv p2⟩
/-- a < b < c -/
def gChain (R R' : R3) (ga gb gc : gTE) : gTE := fun s h P => ga s h fun a h1 => gb s h1 fun b h2 => ∃ z, R h2 a b (.bl z) ∧ if z = true then gc s h2 fun c h3 => ∃ y, R' h3 b c y ∧ P y h3 else P (.bl false) h2
theorem e_chain {op op' : CmpOp} {r r' : R2} {R R' : R3} (ho : OpR X (compareOp op) r) (ho' : OpR X (compareOp op') r') (o : OPL X.K r R) (o' : OPL X.K r' R') (ha : PE X a (gE X.K An ga)) (hb : PE X b (gE X.K An gb)) (hc : PE X c (gE X.K An gc)) (hm : lastMarks [op, op'] [b, c] = false) :
    PE X (.Compare a [op, op'] [b, c] pos) (gE X.K An (gChain R R' ga gb gc)) := (pe_chain ho ho' ha hb hc hm).imp fun σ H Q ⟨s, h, P, re, l, g, k⟩ => by
  refine ⟨s, h, _, re, l, g, fun x H1 a h1 s1 re1 dx g1 => ?_⟩
  refine ⟨s, h1, _, re1, l.mono s1, g1, fun y H2 b h2 s2 re2 dy ⟨z, hz, g2⟩ => ?_⟩
  refine o x y H2 h2 a b (.bl z) _ re2 (dx.mono s2) dy hz fun v H3 s3 re3 dv => ⟨z, dv_bl dv, ?_⟩
  have s13 := (s1.trans s2).trans s3
  cases z with
  | true =>
    rw [if_pos rfl] at g2
    rw [if_pos rfl]
    refine ⟨s, h2, _, re3, l.mono s13, g2, fun y' H4 c h4 s4 re4 dy' ⟨y2, hy, p⟩ => ?_⟩
    exact o' y y' H4 h4 b c y2 Q re4 (dy.mono (s3.trans s4)) dy' hy fun v H5 s5 re5 dv => k v H5 y2 h4 ((s13.trans s4).trans s5) re5 dv p
  | false =>
    rw [if_neg Bool.false_ne_true] at g2
    rw [if_neg Bool.false_ne_true]
    exact k _ H3 _ h2 s13 re3 (.bl _) g2
/-! ### subscripts -/
def RIx : R3 := fun h a b c => match vw h a, vw h b with
  | .lst ds, .int i => atI ds i = some c
  | .tup ds, .int i => atI ds i = some c
  | .str x, .int i => x.length ≤ sizeLine ∧ ∃ k, atI x.cps.toList i = some k ∧ c = .str ⟨#[k]⟩
  | _, _ => False
theorem Dvs.at {K : Fg} {h : GH} {H : Hp} {vs : List V} {ds : List D} {i : Int} {d : D} (r : Dvs K h H vs ds) (e : atI ds i = some d) : ∃ v, atI vs i = some v ∧ Dv K h H v d := by
  unfold atI at e ⊢
  rw [r.length]
  cases q : ixN ds.length i with
  | none => rw [q] at e; cases e
  | some j =>
    rw [q] at e
    obtain ⟨v, h1, h2⟩ := r.get (show ds[j]? = some d from e)
    exact ⟨v, h1, h2⟩
theorem lIx {K : Fg} : OPL K (rIx K) RIx := by
  intro x y H h a b c Q re dx dy hr k
  unfold RIx at hr
  split at hr
  · rename_i ds i ea eb
    obtain ⟨p, xs, e1, q, rs⟩ := vw_lst re dx ea
    obtain ⟨v, hv, dv⟩ := rs.at hr
    exact .inl ⟨p, xs, i, v, e1, vw_int dy eb, .inl (.inl q), hv, k v H (Step.refl h H) re dv⟩
  · rename_i ds i ea eb
    obtain ⟨p, xs, e1, q, rs⟩ := vw_tup dx ea
    obtain ⟨v, hv, dv⟩ := rs.at hr
    exact .inr (.inl ⟨p, xs, i, v, e1, vw_int dy eb, q.sq, hv, k v H (Step.refl h H) re dv⟩)
  · rename_i x i ea eb
    obtain ⟨hz, j, hj, rfl⟩ := hr
    exact .inr (.inr ⟨x, i, j, vw_str dx ea, vw_int dy eb, hz, hj, k _ H (Step.refl h H) re (.str _)⟩)
  · exact hr.elim
theorem e_ix (ha : PE X a (gE X.K An ga)) (hb : PE X b (gE X.K An gb)) (hs : PlainIx b := by exact fun _ _ => rfl) : PE X (.Subscript a b pos) (gE X.K An (gBin RIx ga gb)) := (pe_ix ix_seq ha hb hs).imp fun σ H Q q => two lIx σ H Q q
/-! slices -/
abbrev gTO := GS → GH → (Option Int → GH → Prop) → Prop
def gO (K : Fg) (An : AN) (g : gTO) : TO := fun σ H Q => ∃ s h P, Rel K h H ∧ Sl K An h H σ s ∧ g s h P ∧ ∀ o H' h', Step h H h' H' → Rel K h' H' → P o h' → Q o H'
def gNoPart : gTO := fun _ h P => P none h
def gPart (ga : gTE) : gTO := fun s h P => ga s h fun d h1 => ∃ i, d = .int i ∧ P (some i) h1
theorem _root_.L2.PO.imp {e : Option Expr} {t t' : TO} (h : PO X e t) (k : ∀ σ H Q, t' σ H Q → t σ H Q) : PO X e t' := ⟨fun pins s σ H Q I q => h.run pins s σ H Q I (k σ H Q q)⟩
theorem o_none : PO X none (gO X.K An gNoPart) := po_none.imp fun σ H Q ⟨s, h, P, re, l, g, k⟩ => k none H h (Step.refl h H) re g
theorem o_some (ha : PE X a (gE X.K An ga)) : PO X (some a) (gO X.K An (gPart ga)) := (po_some ha).imp fun σ H Q ⟨s, h, P, re, l, g, k⟩ => ⟨s, h, _, re, l, g, fun x H1 a h1 s1 re1 dx ⟨i, e, p⟩ => by
  subst e
  cases dx
  exact ⟨i, rfl, k _ H1 h1 s1 re1 p⟩⟩
def cutD {α : Type} (xs : List α) (lo hi : Option Int) : List α := (xs.drop (HT.sIx xs.length 0 lo)).take (HT.sIx xs.length xs.length hi - HT.sIx xs.length 0 lo)
def RSl : GH → D → Option Int → Option Int → D → Prop := fun h a lo hi c => match vw h a with
  | .lst ds => c = .lst (cutD ds lo hi)
  | .tup ds => c = .tup (cutD ds lo hi)
  | .str x => x.length ≤ sizeLine ∧ c = .str (cutS x lo hi)
  | .fro ds => c = .lst (cutD ds lo hi)
  | _ => False
def gSl (ga : gTE) (gl gh : gTO) : gTE := fun s h P => ga s h fun a h1 => gl s h1 fun lo h2 => gh s h2 fun hi h3 => ∃ c, RSl h3 a lo hi c ∧ P c h3
theorem Dvs.cut {K : Fg} {h : GH} {H : Hp} {vs : List V} {ds : List D} {lo hi : Option Int} (r : Dvs K h H vs ds) : Dvs K h H (cutV vs lo hi) (cutD ds lo hi) := by
  unfold cutV cutD
  rw [r.length]
  exact (r.drop _).take _
def rSlAll (K : Fg) : V → Option Int → Option Int → Hp → VK → Prop := fun x lo hi H Q => rSlL K x lo hi H Q ∨ rSlA K x lo hi H Q ∨ rSlS x lo hi H Q
theorem slOr {r r' : V → Option Int → Option Int → Hp → VK → Prop} (h : SlR X r) (h' : SlR X r') : SlR X (fun x lo hi H Q => r x lo hi H Q ∨ r' x lo hi H Q) := by
  intro pins s σ H x v vl vu lo hi sl Q I rx hs pl pu q
  rcases q with q | q
  · exact h pins s σ H x v vl vu lo hi sl Q I rx hs pl pu q
  · exact h' pins s σ H x v vl vu lo hi sl Q I rx hs pl pu q
theorem sl_all : SlR X (rSlAll X.K) := slOr sl_list (slOr sl_tupA sl_str)
theorem e_sl {lo hi : Option Expr} {gl gh : gTO} {p2 : Pos} (ha : PE X a (gE X.K An ga)) (hl : PO X lo (gO X.K An gl)) (hh : PO X hi (gO X.K An gh)) : PE X (.Subscript a (.Slice lo hi none p2) pos) (gE X.K An (gSl ga gl gh)) := (pe_slice sl_all ha hl hh).imp fun σ H Q ⟨s, h, P, re, l, g, k⟩ => by
  refine ⟨s, h, _, re, l, g, fun x H1 a h1 s1 re1 dx g1 => ?_⟩
  refine ⟨s, h1, _, re1, l.mono s1, g1, fun lo H2 h2 s2 re2 g2 => ?_⟩
  refine ⟨s, h2, _, re2, l.mono (s1.trans s2), g2, fun hi H3 h3 s3 re3 ⟨c, hc, p⟩ => ?_⟩
  have s13 := (s1.trans s2).trans s3
  have dx3 := dx.mono (s2.trans s3)
  unfold RSl at hc
  split at hc
  · rename_i ds ea
    subst hc
    obtain ⟨pa, xs, e1, q, rs⟩ := vw_lst re3 dx3 ea
    exact .inl ⟨pa, xs, e1, .inl (.inl q), fun t n => k _ _ _ h3 (s13.trans (Step.new n)) (re3.new n) (rs.cut.lst_new re3 n) p⟩
  · rename_i ds ea
    subst hc
    obtain ⟨pa, xs, e1, q, rs⟩ := vw_tup dx3 ea
    refine .inr (.inl ⟨pa, xs, e1, q.sq, fun z => ?_, fun z t n => ?_⟩)
    · have e : cutD ds lo hi = ds := by
        unfold cutD
        rw [← rs.length, z.1, z.2, List.drop_zero, Nat.sub_zero, rs.length, List.take_length]
      rw [e] at p
      exact k _ H3 _ h3 s13 re3 (.tup q rs) p
    · exact k _ _ _ h3 (s13.trans (Step.new n)) (re3.new n) (rs.cut.tup_new re3 n) p
  · rename_i x ea
    obtain ⟨hz, rfl⟩ := hc
    exact .inr (.inr ⟨x, vw_str dx3 ea, hz, k _ H3 _ h3 s13 re3 (.str _) p⟩)
  · rename_i ds ea
    subst hc
    obtain ⟨pa, xs, e1, q, rs⟩ := vw_fro dx3 ea
    exact .inl ⟨pa, xs, e1, q.sq, fun t n => k _ _ _ h3 (s13.trans (Step.new n)) (re3.new n) (rs.cut.lst_new re3 n) p⟩
  · exact hc.elim
end
end Gh

namespace Gh
open PySem L2
theorem put_del {h : GH} {p : Addr} {g : GO} (e : h p = none) : del (put h p g) p = h := by
  funext b
  by_cases z : b = p
  · subst z; rw [del_same, e]
  · rw [del_ne z, put_ne z]
theorem put_put {h : GH} {p : Addr} {g g' : GO} : put (put h p g) p g' = put h p g' := by
  funext b
  by_cases z : b = p
  · subst z; rw [put_same, put_same]
  · rw [put_ne z, put_ne z, put_ne z]
section
variable {X : Cx} {An : AN} {a b e : Expr} {es : List Expr} {ga gb : gTE} {gas : gTA} {pos : Pos}
/-! ### arguments, displays -/
def aNil : gTA := fun _ h P => P [] h
def aCons (ga : gTE) (gr : gTA) : gTA := fun s h P => ga s h fun d h1 => gr s h1 fun ds h2 => P (d :: ds) h2
theorem a_nil : PA X [] (gA X.K An aNil) := pa_nil.imp fun σ H Q ⟨s, h, P, re, l, g, k⟩ => k _ H _ h (Step.refl h H) re .nil g
theorem a_cons (ha : PE X e (gE X.K An ga)) (hr : PA X es (gA X.K An gas)) (hs : starEach (e :: es) X.env = (false, eval e X.env) :: starEach es X.env := by rfl) : PA X (e :: es) (gA X.K An (aCons ga gas)) := (pa_cons ha hr hs).imp fun σ H Q ⟨s, h, P, re, l, g, k⟩ => by
  refine ⟨s, h, _, re, l, g, fun x H1 d h1 s1 re1 dx g1 => ?_⟩
  exact ⟨s, h1, _, re1, l.mono s1, g1, fun xs H2 ds h2 s2 re2 dxs p => k _ H2 _ h2 (s1.trans s2) re2 (.cons (dx.mono s2) dxs) p⟩
def gTup (ga : gTA) : gTE := fun s h P => ga s h fun ds h1 => ds.length ≤ sizeLine ∧ P (.tup ds) h1
def fLst (ga : gTA) : gTA := fun s h P => ga s h fun ds h1 => ds.length ≤ sizeLine ∧ P ds h1
theorem e_tup {x1} (ha : PA X es (gA X.K An gas)) : PE X (.Tuple es x1 pos) (gE X.K An (gTup gas)) := (pe_tup ha).imp fun σ H Q ⟨s, h, P, re, l, g, k⟩ => ⟨s, h, _, re, l, g, fun xs H1 ds h1 s1 re1 dxs ⟨hz, p⟩ => by
  refine ⟨by rw [dxs.length]; exact hz, fun t n => ?_⟩
  exact k _ _ _ h1 (s1.trans (Step.new n)) (re1.new n) (dxs.tup_new re1 n) p⟩
theorem Rel.newO {K : Fg} {h : GH} {H : Hp} {p : Addr} {xs : List V} {ds : List D} (r : Rel K h H) (n : H p = none) (k : Dvs K h H xs ds) : Rel K (Gh.put h p (GO.lst ds)) (upd H p (.lst xs)) :=
  r.put (g := GO.lst ds) (Step.newO n) ⟨xs, upd_same, k.mono (Step.newO n)⟩
theorem f_lst (ha : PA X es (gA X.K An gas)) : PE X (.List es pos) (gF X.K An (fLst gas)) := (pe_lst ha).imp fun σ H Q ⟨s, h, P, re, l, g, k⟩ => ⟨s, h, _, re, l, g, fun xs H1 ds h1 s1 re1 dxs ⟨hz, p⟩ => by
  refine ⟨by rw [dxs.length]; exact hz, fun t n => ?_⟩
  exact k t ds _ h1 (re1.free n) (s1.trans (Step.newO n)) (re1.newO n dxs) p⟩
/-- a new list as a value -/
def gFr (g : gTA) : gTE := fun s h P => g s h fun ds h1 => P (.lst ds) h1
theorem Rel.letgo {K : Fg} {h : GH} {H : Hp} {p : Addr} {ds : List D} (r : Rel K h H) (e : h p = some (.lst ds)) : Dv K (Gh.del h p) H (.ref p) (.lst ds) := by
  obtain ⟨xs, q, rs⟩ := r p _ e
  exact .lst del_same q (rs.mono Step.del)
theorem e_fr {g : gTA} (he : PE X e (gF X.K An g)) : PE X e (gE X.K An (gFr g)) := he.imp fun σ H Q ⟨s, h, P, re, l, g, k⟩ => ⟨s, h, _, re, l, g, fun p ds H' h1 n s1 re1 pp => by
  have d := re1.letgo put_same
  have re2 := re1.del (p := p)
  have s2 : Step h H (Gh.del (Gh.put h1 p (GO.lst ds)) p) H' := s1.trans Step.del
  rw [put_del n] at d re2 s2
  exact k _ H' _ h1 s2 re2 d pp⟩
/-! ### calls of defs -/
abbrev GSpec := List D → GH → GP → Prop
def GSP (K : Fg) (S : GSpec) : Sp := fun vs H Q _ => ∃ ds h P, Rel K h H ∧ Dvs K h H vs ds ∧ S ds h P ∧ ∀ v H' d h', Step h H h' H' → Rel K h' H' → Dv K h' H' v d → P d h' → Q v H'
/-- a def of the module, by its name -/
def Fc (P : Program) (w : World) (K : Fg) (mg : Str → Option Value) (base : Heap) (k : Nat) (x : Str) (S : GSpec) : Prop :=
  ∃ f : Addr, FnR P w K mg base CX0 k f (GSP K S) ∧ mg x = some (.ref f) ∧ PySem.W.keepIn K (.ref f) = true
theorem Fc.mono {P : Program} {w : World} {K : Fg} {mg : Str → Option Value} {base : Heap} {j k : Nat} {x : Str} {S : GSpec} (c : Fc P w K mg base j x S) (h : j ≤ k) : Fc P w K mg base k x S :=
  let ⟨f, F, m, kp⟩ := c; ⟨f, F.mono h, m, kp⟩
theorem Fc.imp {P : Program} {w : World} {K : Fg} {mg : Str → Option Value} {base : Heap} {k : Nat} {x : Str} {S S' : GSpec} (c : Fc P w K mg base k x S) (h : ∀ ds h P, S' ds h P → S ds h P) : Fc P w K mg base k x S' :=
  let ⟨f, F, m, kp⟩ := c; ⟨f, F.imp fun vs H Q E ⟨ds, h0, P, re, dv, s, k⟩ => ⟨ds, h0, P, re, dv, h _ _ _ s, k⟩, m, kp⟩
def gCall (S : GSpec) (ga : gTA) : gTE := fun s h P => ga s h fun ds h1 => S ds h1 P
theorem call_of {K : Fg} {An : AN} {S : GSpec} {E : XK} (σ : St) (H : Hp) (Q : VK) (q : gE K An (gCall S gas) σ H Q) : gA K An gas σ H fun vs H1 => GSP K S vs H1 Q E := by
  obtain ⟨s, h, P, re, l, g, k⟩ := q
  refine ⟨s, h, _, re, l, g, fun vs H1 ds h1 s1 re1 dvs g1 => ?_⟩
  exact ⟨ds, h1, P, re1, dvs, g1, fun v H' d h' s2 re2 dv p => k v H' d h' (s1.trans s2) re2 dv p⟩
theorem e_call {k j : Nat} {x : Str} {S : GSpec} {p : Pos} (c : Fc X.prog X.w X.K X.mg X.base k x S) (hr : Room j X.A) (hk : k ≤ j) (ha : PA X (e :: es) (gA X.K An gas)) (hg : Gl X x := by rfl) (hdb : (x == ("__debug__" : Str)) = false := by decide)
    (he : starEach (e :: es) X.env = (false, eval e X.env) :: starEach es X.env := by rfl) (hpl : (backTo pos (starEach es X.env)).any (·.1) = false := by rfl) :
    PE X (.Call (.Name x p) (e :: es) [] pos) (gE X.K An (gCall S gas)) := by
  obtain ⟨f, F, hm, kp⟩ := c
  refine ⟨fun pins s σ H Q I h => ?_⟩
  refine wpAny_Call_Name_kw (ld_glob I hg hm ?_ hdb)
  refine PySem.W.callWith_K (h₀ := X.base) I.ok.mod.kin kp (thn (ha.run pos pins s σ H _ I (call_of (E := E0) σ H Q h)) fun us s1 ⟨vs, H1, I1, r, q⟩ => ⟨I1.kIn, ?_⟩) he hpl
  exact wpAny_call (run_fnR F (hr.mono hk) pass0 I1 r q)
theorem e_call0 {k j : Nat} {x : Str} {S : GSpec} {p : Pos} (c : Fc X.prog X.w X.K X.mg X.base k x S) (hr : Room j X.A) (hk : k ≤ j) (hg : Gl X x := by rfl) (hdb : (x == ("__debug__" : Str)) = false := by decide) :
    PE X (.Call (.Name x p) [] [] pos) (gE X.K An (gCall S aNil)) := by
  obtain ⟨f, F, hm, kp⟩ := c
  refine ⟨fun pins s σ H Q I h => ?_⟩
  refine wpAny_Call_Name_kw (ld_glob I hg hm ?_ hdb)
  obtain ⟨sl, h0, P, re, l, g, k⟩ := h
  exact PySem.W.callWith_K0 I.kIn kp (wpAny_call (run_fnR (us := []) F (hr.mono hk) pass0 I .nil ⟨[], h0, P, re, .nil, g, k⟩))
/-! ### calls of built-ins -/
abbrev RC2 := GH → List D → D → Prop
def CLL (K : Fg) (r : List V → Hp → VK → Prop) (R : RC2) : Prop := ∀ vs H h ds c Q, Rel K h H → Dvs K h H vs ds → R h ds c → (∀ v H', Step h H h H' → Rel K h H' → Dv K h H' v c → Q v H') → r vs H Q
def gCB (R : RC2) (ga : gTA) : gTE := fun s h P => ga s h fun ds h1 => ∃ c, R h1 ds c ∧ P c h1
theorem cb_of {K : Fg} {An : AN} {r : List V → Hp → VK → Prop} {R : RC2} (o : CLL K r R) (σ : St) (H : Hp) (Q : VK) (q : gE K An (gCB R gas) σ H Q) : tCB r (gA K An gas) σ H Q := by
  obtain ⟨s, h, P, re, l, g, k⟩ := q
  refine ⟨s, h, _, re, l, g, fun vs H1 ds h1 s1 re1 dvs ⟨c, hc, p⟩ => ?_⟩
  exact o vs H1 h1 ds c Q re1 dvs hc fun v H' s2 re2 dv => k v H' c h1 (s1.trans s2) re2 dv p
theorem e_cb {x : Str} {id : String} {r : List V → Hp → VK → Prop} {R : RC2} {p : Pos} (hc : CallR X (.builtin id) r) (o : CLL X.K r R) (hm : X.mg x = none) (hv : bootBuiltins x = some (.builtin id)) (ha : PA X (e :: es) (gA X.K An gas)) (hg : Gl X x := by rfl)
    (hn : x ≠ "__name__" := by decide) (hd : (x == ("__debug__" : Str)) = false := by decide) (he : starEach (e :: es) X.env = (false, eval e X.env) :: starEach es X.env := by rfl) (hpl : (backTo pos (starEach es X.env)).any (·.1) = false := by rfl) :
    PE X (.Call (.Name x p) (e :: es) [] pos) (gE X.K An (gCB R gas)) := (pe_callB hc hg hm hv ha hn hd he hpl).imp (cb_of o)
end
end Gh

namespace Gh
open PySem L2
/-! ### built-ins -/
section
variable {X : Cx} {An : AN} {a b e : Expr} {es : List Expr} {ga gb : gTE} {gas : gTA} {pos p : Pos}
def RLen : RC2 := fun h ds c => ∃ d, ds = [d] ∧ match vw h d with
  | .lst xs => c = .int (xs.length : Nat)
  | .tup xs => c = .int (xs.length : Nat)
  | .str x => x.length ≤ sizeLine ∧ c = .int (x.length : Nat)
  | _ => False
theorem dvs1 {K : Fg} {h : GH} {H : Hp} {vs : List V} {d : D} (k : Dvs K h H vs [d]) : ∃ v, vs = [v] ∧ Dv K h H v d := by
  cases k with
  | cons a r => cases r; exact ⟨_, rfl, a⟩
theorem dvs2 {K : Fg} {h : GH} {H : Hp} {vs : List V} {d d' : D} (k : Dvs K h H vs [d, d']) : ∃ v v', vs = [v, v'] ∧ Dv K h H v d ∧ Dv K h H v' d' := by
  cases k with
  | cons a r =>
    obtain ⟨v', rfl, q⟩ := dvs1 r
    exact ⟨_, _, rfl, a, q⟩
theorem lLen {K : Fg} : CLL K (fun xs H Q => ∃ x n, xs = [x] ∧ LenV K x H n ∧ Q (.int n) H) RLen := by
  intro vs H h ds c Q re dvx hr k
  obtain ⟨d, rfl, hr⟩ := hr
  obtain ⟨v, rfl, dv⟩ := dvs1 dvx
  split at hr
  · rename_i xs ea
    subst hr
    obtain ⟨q, ys, e1, h1, rs⟩ := vw_lst re dv ea
    refine ⟨v, xs.length, rfl, ?_, k _ H (Step.refl h H) re (.int _)⟩
    rw [e1]
    exact .inl ⟨ys, .inl (.inl h1), rs.length.symm⟩
  · rename_i xs ea
    subst hr
    obtain ⟨q, ys, e1, h1, rs⟩ := vw_tup dv ea
    refine ⟨v, xs.length, rfl, ?_, k _ H (Step.refl h H) re (.int _)⟩
    rw [e1]
    exact .inr ⟨ys, h1.sq, rs.length.symm⟩
  · rename_i x ea
    obtain ⟨hz, rfl⟩ := hr
    refine ⟨v, x.length, rfl, ?_, k _ H (Step.refl h H) re (.int _)⟩
    rw [vw_str dv ea]
    exact ⟨hz, rfl⟩
  · exact hr.elim
theorem e_len (hm : X.mg "len" = none) (ha : PA X [e] (gA X.K An gas)) (hg : Gl X "len" := by rfl) (he : starEach [e] X.env = [(false, eval e X.env)] := by rfl) : PE X (.Call (.Name "len" p) [e] [] pos) (gE X.K An (gCB RLen gas)) :=
  e_cb call_len lLen hm PySem.boot_len ha hg (by decide) (by decide) he (by rfl)
def RAbs : RC2 := fun h ds c => ∃ d, ds = [d] ∧ match vw h d with
  | .int i => c = .int (i.natAbs : Nat)
  | _ => False
theorem lAbs {K : Fg} : CLL K (fun xs H Q => ∃ i, xs = [.int i] ∧ Q (.int (if i < 0 then -i else i)) H) RAbs := by
  intro vs H h ds c Q re dvx hr k
  obtain ⟨d, rfl, hr⟩ := hr
  obtain ⟨v, rfl, dv⟩ := dvs1 dvx
  split at hr
  · rename_i i ea
    subst hr
    refine ⟨i, by rw [vw_int dv ea], ?_⟩
    have e : (if i < 0 then -i else i) = ((i.natAbs : Nat) : Int) := by split <;> omega
    rw [e]
    exact k _ H (Step.refl h H) re (.int _)
  · exact hr.elim
theorem e_abs (hm : X.mg "abs" = none) (ha : PA X [e] (gA X.K An gas)) (hg : Gl X "abs" := by rfl) (he : starEach [e] X.env = [(false, eval e X.env)] := by rfl) : PE X (.Call (.Name "abs" p) [e] [] pos) (gE X.K An (gCB RAbs gas)) :=
  e_cb call_abs lAbs hm (by decide +kernel) ha hg (by decide) (by decide) he (by rfl)
theorem e_ct {x : Str} {T : String} {r : List V → Hp → VK → Prop} {R : RC2} (hc : CallR X (.type T) r) (o : CLL X.K r R) (hm : X.mg x = none) (hv : bootBuiltins x = some (.type T)) (ha : PA X (e :: es) (gA X.K An gas)) (hg : Gl X x := by rfl)
    (hn : x ≠ "__name__" := by decide) (hd : (x == ("__debug__" : Str)) = false := by decide) (he : starEach (e :: es) X.env = (false, eval e X.env) :: starEach es X.env := by rfl) (hpl : (backTo pos (starEach es X.env)).any (·.1) = false := by rfl) :
    PE X (.Call (.Name x p) (e :: es) [] pos) (gE X.K An (gCB R gas)) := (pe_callTy hc hg hm hv ha hn hd he hpl).imp (cb_of o)
def RInt : RC2 := fun h ds c => ∃ d, ds = [d] ∧ match vw h d with
  | .int i => c = .int i
  | .bl b => c = .int (if b then 1 else 0)
  | .str x => x.length ≤ 640 ∧ ∃ n, PySem.intText? x = some n ∧ c = .int n
  | _ => False
def rIntA : List V → Hp → VK → Prop := fun xs H Q => ((∃ i, xs = [.int i] ∧ Q (.int i) H) ∨ ∃ k, xs = [.bl k] ∧ Q (.int (if k then 1 else 0)) H) ∨ ∃ a n, xs = [.str a] ∧ PySem.intText? a = some n ∧ a.length ≤ 640 ∧ Q (.int n) H
theorem crOr {f : Value} {r r' : List V → Hp → VK → Prop} (h : CallR X f r) (h' : CallR X f r') : CallR X f (fun xs H Q => r xs H Q ∨ r' xs H Q) := by
  intro pins s σ H xs us Q I rv q
  rcases q with q | q
  · exact h pins s σ H xs us Q I rv q
  · exact h' pins s σ H xs us Q I rv q
theorem lInt {K : Fg} : CLL K rIntA RInt := by
  intro vs H h ds c Q re dvx hr k
  obtain ⟨d, rfl, hr⟩ := hr
  obtain ⟨v, rfl, dv⟩ := dvs1 dvx
  split at hr
  · rename_i i ea
    subst hr
    exact .inl (.inl ⟨i, by rw [vw_int dv ea], k _ H (Step.refl h H) re (.int _)⟩)
  · rename_i i ea
    subst hr
    exact .inl (.inr ⟨i, by rw [vw_bl dv ea], k _ H (Step.refl h H) re (.int _)⟩)
  · rename_i x ea
    obtain ⟨hz, n, hn, rfl⟩ := hr
    exact .inr ⟨x, n, by rw [vw_str dv ea], hn, hz, k _ H (Step.refl h H) re (.int _)⟩
  · exact hr.elim
theorem e_intc (hm : X.mg "int" = none) (ha : PA X [e] (gA X.K An gas)) (hg : Gl X "int" := by rfl) (he : starEach [e] X.env = [(false, eval e X.env)] := by rfl) : PE X (.Call (.Name "int" p) [e] [] pos) (gE X.K An (gCB RInt gas)) :=
  e_ct (crOr call_int1 call_int_str) lInt hm (by decide +kernel) ha hg (by decide) (by decide) he (by rfl)
def bls : List D → Option (List Bool)
  | [] => some []
  | .bl b :: r => (bls r).map (b :: ·)
  | _ => none
theorem Dvs.bls {K : Fg} {h : GH} {H : Hp} : ∀ {vs : List V} {ds : List D} {bs : List Bool}, Dvs K h H vs ds → Gh.bls ds = some bs → vs = bs.map V.bl
  | _, _, _, .nil, e => by cases e; rfl
  | _, _, _, .cons (d := d) (ds := ds) a r, e => by
    cases d with
    | bl b =>
      rw [Gh.bls] at e
      cases q : Gh.bls ds with
      | none => rw [q] at e; cases e
      | some cs =>
        rw [q] at e
        cases e
        cases a
        rw [Dvs.bls r q]
        rfl
    | _ => cases e
def RAll (any : Bool) : RC2 := fun h ds c => ∃ d xs bs, ds = [d] ∧ vw h d = .lst xs ∧ bls xs = some bs ∧ c = .bl (if any then bs.any id else bs.all id)
theorem lAll {K : Fg} : CLL K (rAll K) (RAll false) := by
  intro vs H h ds c Q re dvx hr k
  obtain ⟨d, xs, bs, rfl, ea, eb, rfl⟩ := hr
  obtain ⟨v, rfl, dv⟩ := dvs1 dvx
  obtain ⟨q, ys, e1, h1, rs⟩ := vw_lst re dv ea
  have e2 := rs.bls eb
  subst e2
  exact ⟨q, bs, by rw [e1], .inl (.inl h1), k _ H (Step.refl h H) re (.bl _)⟩
theorem lAny {K : Fg} : CLL K (rAny K) (RAll true) := by
  intro vs H h ds c Q re dvx hr k
  obtain ⟨d, xs, bs, rfl, ea, eb, rfl⟩ := hr
  obtain ⟨v, rfl, dv⟩ := dvs1 dvx
  obtain ⟨q, ys, e1, h1, rs⟩ := vw_lst re dv ea
  have e2 := rs.bls eb
  subst e2
  exact ⟨q, bs, by rw [e1], .inl (.inl h1), k _ H (Step.refl h H) re (.bl _)⟩
theorem e_all (hc : X.calm = true) (hm : X.mg "all" = none) (ha : PA X [e] (gA X.K An gas)) (hg : Gl X "all" := by rfl) (he : starEach [e] X.env = [(false, eval e X.env)] := by rfl) : PE X (.Call (.Name "all" p) [e] [] pos) (gE X.K An (gCB (RAll false) gas)) :=
  e_cb (cr_all hc) lAll hm (by decide +kernel) ha hg (by decide) (by decide) he (by rfl)
theorem e_any (hc : X.calm = true) (hm : X.mg "any" = none) (ha : PA X [e] (gA X.K An gas)) (hg : Gl X "any" := by rfl) (he : starEach [e] X.env = [(false, eval e X.env)] := by rfl) : PE X (.Call (.Name "any" p) [e] [] pos) (gE X.K An (gCB (RAll true) gas)) :=
  e_cb (cr_any hc) lAny hm (by decide +kernel) ha hg (by decide) (by decide) he (by rfl)
/-! isinstance -/
def tyN : D → Option String
  | .non => some "NoneType"
  | .bl _ => some "bool"
  | .int _ => some "int"
  | .str _ => some "str"
  | .tup _ => some "tuple"
  | .lst _ => some "list"
  | _ => none
theorem vw_ty {K : Fg} {h : GH} {H : Hp} {v : V} {d : D} {n : String} (re : Rel K h H) (k : Dv K h H v d) (e : tyN (vw h d) = some n) : TyX K H v (.type n) := by
  cases z : vw h d with
  | non => rw [z] at e; cases e; rw [vw_non k z]; exact .base .non
  | bl b => rw [z] at e; cases e; rw [vw_bl k z]; exact .base (.bl _)
  | int b => rw [z] at e; cases e; rw [vw_int k z]; exact .base (.int _)
  | str b => rw [z] at e; cases e; rw [vw_str k z]; exact .base (.str _)
  | tup b =>
    rw [z] at e; cases e
    obtain ⟨q, ys, e1, h1, rs⟩ := vw_tup k z
    rw [e1]
    rcases h1 with ⟨_, h1 | ⟨o, h1⟩⟩ | ⟨o, _, _, h1, h2, _⟩
    · exact .base (.tup h1)
    · exact .fTuple h1
    · exact .kTuple h1 h2
  | lst b =>
    rw [z] at e; cases e
    obtain ⟨q, ys, e1, h1, rs⟩ := vw_lst re k z
    rw [e1]
    exact .base (.lst h1)
  | ref a => rw [z] at e; cases e
  | ty a => rw [z] at e; cases e
  | fro a => rw [z] at e; cases e
/-- isinstance(x, T), T a built-in class -/
def RIsi : RC2 := fun h ds c => ∃ d n t r, ds = [d, .ty n] ∧ tyN (vw h d) = some t ∧ kitB t n = some r ∧ c = .bl r
theorem lIsi {K : Fg} : CLL K (rIsi K) RIsi := by
  intro vs H h ds c Q re dvx hr k
  obtain ⟨d, n, t, r, rfl, et, ek, rfl⟩ := hr
  obtain ⟨v, v', rfl, dv, dw⟩ := dvs2 dvx
  cases dw
  exact ⟨v, _, _, _, r, rfl, .ty n, vw_ty re dv et, kit_ty ek, k _ H (Step.refl h H) re (.bl _)⟩
theorem e_isi (hm : X.mg "isinstance" = none) (ha : PA X [a, b] (gA X.K An gas)) (hg : Gl X "isinstance" := by rfl) (he : starEach [a, b] X.env = (false, eval a X.env) :: starEach [b] X.env := by rfl) (hpl : (backTo pos (starEach [b] X.env)).any (·.1) = false := by rfl) : PE X (.Call (.Name "isinstance" p) [a, b] [] pos) (gE X.K An (gCB RIsi gas)) :=
  e_cb call_isi lIsi hm (by decide +kernel) ha hg (by decide) (by decide) he hpl
theorem e_ty {x : Str} {n : String} (hm : X.mg x = none) (hv : bootBuiltins x = some (.type n)) (hg : Gl X x := by rfl) (hn : x ≠ "__name__" := by decide) (hd : (x == ("__debug__" : Str)) = false := by decide) : PE X (.Name x pos) (gE X.K An (gC (.ty n))) :=
  e_bltn hm hv (v := .ty n) rfl (fun _ _ => .ty n) hg hn hd
/-- isinstance(x, (T1, T2)) -/
def RIsi2 (n m : String) : GH → D → D → Prop := fun h d c => ∃ t r1 r2, tyN (vw h d) = some t ∧ kitB t n = some r1 ∧ kitB t m = some r2 ∧ c = .bl (r1 || r2)
theorem e_isi2 {x y : Str} {n m : String} {k : Nat} {p1 p2 p3 : Pos} (hm : X.mg "isinstance" = none) (hx : X.mg x = none) (hy : X.mg y = none) (vx : bootBuiltins x = some (.type n)) (vy : bootBuiltins y = some (.type m)) (ha : PE X a (gE X.K An ga)) (hg : Gl X "isinstance" := by rfl) (gx : Gl X x := by rfl) (gy : Gl X y := by rfl)
    (h1 : x ≠ "__name__" := by decide) (h2 : y ≠ "__name__" := by decide) (d1 : (x == ("__debug__" : Str)) = false := by decide) (d2 : (y == ("__debug__" : Str)) = false := by decide)
    (he : starEach [a, .Tuple [.Name x p1, .Name y p2] k p3] X.env = (false, eval a X.env) :: starEach [.Tuple [.Name x p1, .Name y p2] k p3] X.env := by rfl) (hpl : (backTo pos (starEach [.Tuple [.Name x p1, .Name y p2] k p3] X.env)).any (·.1) = false := by rfl) :
    PE X (.Call (.Name "isinstance" p) [a, .Tuple [.Name x p1, .Name y p2] k p3] [] pos) (gE X.K An (gUn (RIsi2 n m) ga)) :=
  (pe_callB call_isiT hg hm (by decide +kernel) (pa_cons ha (pa_cons (pe_tup (pa_cons (pe_bltn (v := .ty n) gx hx vx rfl h1 d1) (pa_cons (pe_bltn (v := .ty m) gy hy vy rfl h2 d2) pa_nil))) pa_nil) he) (by decide) (by decide) he hpl).imp fun σ H Q ⟨s, h, P, re, l, g, kk⟩ => by
    refine ⟨s, h, _, re, l, g, fun v H1 d h1 s1 re1 dv ⟨c, ⟨t, r1, r2, et, e1, e2, ec⟩, pp⟩ => ?_⟩
    subst ec
    refine ⟨by show 2 ≤ sizeLine; decide, fun tp n => ?_⟩
    refine ⟨v, tp, _, _, _, (r1 || r2), rfl, upd_same, .cons (.ty _) (.cons (.ty _) .nil), vw_ty (re1.new n) (dv.mono (Step.new n)) et, ?_, kk _ _ _ h1 (s1.trans (Step.new n)) (re1.new n) (.bl _) pp⟩
    refine kitAny_cons (kit_ty e1) (fun z => ?_) (fun z => by rw [z]; rfl)
    subst z
    refine kitAny_cons (kit_ty e2) (fun z => ?_) (fun z => by rw [z]; rfl)
    subst z
    exact kitAny_nil
end
end Gh

namespace Gh
open PySem L2
section
variable {X : Cx} {An : AN} {a b e : Expr} {es : List Expr} {ga gb : gTE} {gas : gTA} {gt : gTT} {pos p : Pos} {st : Stmt} {sts : List Stmt} {g g1 g2 : gTS}
/-! ### blocks, simple statements -/
def sNext : gTS := fun N s h => N.nx s h
def sSeq (g1 g2 : gTS) : gTS := fun N s h => g1 { N with nx := g2 N } s h
theorem b_nil : PSs X [] (gS X.K An sNext) := pss_nil.imp fun De σ H ⟨s, h, N, re, l, g, m⟩ => m.nx σ H s h (Step.refl h H) re l g
theorem b_cons (h1 : PS X st (gS X.K An g1)) (h2 : PSs X sts (gS X.K An g2)) : PSs X (st :: sts) (gS X.K An (sSeq g1 g2)) := (pss_cons h1 h2).imp fun De σ H ⟨s, h, N, re, l, g, m⟩ => by
  refine ⟨s, h, _, re, l, g, fun σ' H' s' h' a re' l' q => ?_, m.rt, m.bk, m.ct⟩
  exact ⟨s', h', N, re', l', q, m.after a⟩
theorem b_one (h1 : PS X st (gS X.K An g)) : PSs X [st] (gS X.K An g) := pss_one h1
def sSet (i : Nat) (ga : gTE) : gTS := fun N s h => ga s h fun d h1 => N.nx (s.set i (some d)) h1
theorem set_of {K : Fg} {An : AN} {i : Nat} (De : Ends) (σ : St) (H : Hp) (q : gS K An (sSet i ga) De σ H) : tAsg (gE K An ga) (gName i) De σ H := by
  obtain ⟨s, h, N, re, l, g, m⟩ := q
  refine ⟨s, h, _, re, l, g, fun v H1 d h1 s1 re1 dv p => ?_⟩
  exact m.nx _ H1 _ h1 s1 re1 ((l.mono s1).set dv) p
theorem s_set {i : Nat} {x : Str} {pos' : Pos} (hN : X.N.Nodup) (he : PE X e (gE X.K An ga)) (hi : X.N[i]? = some x := by rfl) (hx : Loc X.env.scope x := by first | exact Or.inl rfl | exact Or.inr rfl) (hs : swapsWith e (some (.Name x pos')) pos.line X.env = pure false := by rfl)
    (hf : X.fn x = true ∨ X.env.scope.names.lookup x = some .local := by first | exact .inl rfl | exact .inr rfl) : PS X (.Assign [.Name x pos'] e pos) (gS X.K An (sSet i ga)) := (ps_set hN hi hx he hs hf).imp set_of
/-- x = a new list, which x owns -/
def sOwn (i : Nat) (ga : gTA) : gTS := fun N s h => ga s h fun ds h1 => ∀ p, h1 p = none → N.nx (s.set i (some (.ref p))) (put h1 p (.lst ds))
theorem own_of {K : Fg} {An : AN} {i : Nat} (De : Ends) (σ : St) (H : Hp) (q : gS K An (sOwn i gas) De σ H) : tAsg (gF K An gas) (gName i) De σ H := by
  obtain ⟨s, h, N, re, l, g, m⟩ := q
  refine ⟨s, h, _, re, l, g, fun t ds H1 h1 n s1 re1 p => ?_⟩
  exact m.nx _ H1 _ _ s1 re1 ((l.mono s1).set (.ref t)) (p t n)
theorem s_own {i : Nat} {x : Str} {pos' : Pos} (hN : X.N.Nodup) (he : PE X e (gF X.K An gas)) (hi : X.N[i]? = some x := by rfl) (hx : Loc X.env.scope x := by first | exact Or.inl rfl | exact Or.inr rfl) (hs : swapsWith e (some (.Name x pos')) pos.line X.env = pure false := by rfl)
    (hf : X.fn x = true ∨ X.env.scope.names.lookup x = some .local := by first | exact .inl rfl | exact .inr rfl) : PS X (.Assign [.Name x pos'] e pos) (gS X.K An (sOwn i gas)) := (ps_set hN hi hx he hs hf).imp own_of
/-- return; an owned list may be let go -/
def sRet (ga : gTE) : gTS := fun N s h => ga s h fun d h1 => N.rt d h1 ∨ ∃ p ds, d = .ref p ∧ h1 p = some (.lst ds) ∧ N.rt (.lst ds) (del h1 p)
theorem s_ret (he : PE X e (gE X.K An ga)) : PS X (.Return (some e) pos) (gS X.K An (sRet ga)) := (ps_ret he).imp fun De σ H ⟨s, h, N, re, l, g, m⟩ => by
  refine ⟨s, h, _, re, l, g, fun v H1 d h1 s1 re1 dv pp => ?_⟩
  rcases pp with pp | ⟨q, ds, rfl, e, pp⟩
  · exact m.rt v H1 d h1 s1 re1 dv pp
  · cases dv
    exact m.rt _ H1 _ _ (s1.trans Step.del) re1.del (re1.letgo e) pp
def sIf (gt : gTT) (g1 g2 : gTS) : gTS := fun N s h => gt s h fun b h1 => if b = true then g1 N s h1 else g2 N s h1
theorem s_if {c : Expr} {as bs : List Stmt} (hc : PT X c (gT X.K An gt)) (ha : PSs X as (gS X.K An g1)) (hb : PSs X bs (gS X.K An g2)) : PS X (.If c as bs pos) (gS X.K An (sIf gt g1 g2)) := (ps_if hc ha hb).imp fun De σ H ⟨s, h, N, re, l, g, m⟩ => by
  refine ⟨s, h, _, re, l, g, fun b H1 h1 s1 re1 p => ?_⟩
  cases b with
  | true =>
    rw [if_pos rfl] at p
    rw [if_pos rfl]
    exact ⟨s, h1, N, re1, l.mono s1, p, m.after s1⟩
  | false =>
    rw [if_neg Bool.false_ne_true] at p
    rw [if_neg Bool.false_ne_true]
    exact ⟨s, h1, N, re1, l.mono s1, p, m.after s1⟩
def sDrop (ga : gTE) : gTS := fun N s h => ga s h fun _ h1 => N.nx s h1
theorem s_expr (he : PE X e (gE X.K An ga)) (hs : swapsWith e none pos.line X.env = pure false := by rfl) : PS X (.Expr e pos) (gS X.K An (sDrop ga)) := (ps_expr he hs).imp fun De σ H ⟨s, h, N, re, l, g, m⟩ =>
  ⟨s, h, _, re, l, g, fun v H1 d h1 s1 re1 dv p => m.nx _ H1 _ h1 s1 re1 (l.mono s1) p⟩
def sNever : gTS := fun _ _ _ => False
theorem s_never : PS X st (gS X.K An sNever) := ps_never.imp fun De σ H ⟨s, h, N, re, l, g, m⟩ => g
theorem b_never : PSs X sts (gS X.K An sNever) := pss_never.imp fun De σ H ⟨s, h, N, re, l, g, m⟩ => g
theorem s_pass : PS X (.Pass pos) (gS X.K An sNext) := ps_pass.imp fun De σ H ⟨s, h, N, re, l, g, m⟩ => m.nx σ H s h (Step.refl h H) re l g
def sCont : gTS := fun N s h => N.ct s h
theorem s_cont : PS X (.Continue pos) (gS X.K An sCont) := ps_continue.imp fun De σ H ⟨s, h, N, re, l, g, m⟩ => m.ct σ H s h (Step.refl h H) re l g
/-- a, b = x, y -/
def sPar (i j : Nat) (ga : gTA) : gTS := fun N s h => ga s h fun ds h1 => ∃ d e, ds = [d, e] ∧ N.nx ((s.set i (some d)).set j (some e)) h1
theorem s_par {i j : Nat} {x y : Str} {px py pt : Pos} {kt k2 pt2} (hc : X.calm = true) (hN : X.N.Nodup) (hi : X.N[i]? = some x) (hj : X.N[j]? = some y) (hij : i ≠ j)
    (hx : X.env.scope.names.lookup x = some .local) (hy : X.env.scope.names.lookup y = some .local) (ha : PA X [a, b] (gA X.K An gas))
    (hw : swappedStores [.Tuple [.Name x px, .Name y py] kt pt] (.Tuple [a, b] k2 pt2) X.env = pure (some [x, y]))
    (hs : swapsWithSole [.Tuple [.Name x px, .Name y py] kt pt] (.Tuple [a, b] k2 pt2) pos.line X.env = pure false := by rfl) :
    PS X (.Assign [.Tuple [.Name x px, .Name y py] kt pt] (.Tuple [a, b] k2 pt2) pos) (gS X.K An (sPar i j gas)) := (ps_par hc hN hi hj hij hx hy ha hw hs).imp fun De σ H ⟨s, h, N, re, l, g, m⟩ => by
  refine ⟨s, h, _, re, l, g, fun vs H1 ds h1 s1 re1 dv ⟨d, e, ed, p⟩ => ?_⟩
  subst ed
  obtain ⟨v, v', rfl, d1, d2⟩ := dvs2 dv
  exact ⟨v, v', rfl, m.nx _ H1 _ h1 s1 re1 (((l.mono s1).set d1).set d2) p⟩
/-! ### targets -/
abbrev gTG := D → GS → GH → (GS → GH → Prop) → Prop
def gG (K : Fg) (An : AN) (g : gTG) : TG := fun v σ H Q => ∃ d s h P, Rel K h H ∧ Sl K An h H σ s ∧ Dv K h H v d ∧ g d s h P ∧ ∀ σ' H' s' h', Step h H h' H' → Rel K h' H' → Sl K An h' H' σ' s' → P s' h' → Q σ' H'
theorem _root_.L2.PG.imp {t t' : TG} (h : PG X e t) (k : ∀ v σ H Q, t' v σ H Q → t v σ H Q) : PG X e t' := ⟨fun pins s σ H v u Q I r q => h.run pins s σ H v u Q I r (k v σ H Q q)⟩
def tgName (i : Nat) : gTG := fun d s h P => P (s.set i (some d)) h
theorem g_name (i : Nat) {x : Str} (hN : X.N.Nodup) (hi : X.N[i]? = some x := by rfl) (hx : Loc X.env.scope x := by first | exact Or.inl rfl | exact Or.inr rfl) (hf : X.fn x = true ∨ X.env.scope.names.lookup x = some .local := by first | exact .inl rfl | exact .inr rfl) : PG X (.Name x pos) (gG X.K An (tgName i)) :=
  (pg_name (i := i) hN hi hx hf).imp fun v σ H Q ⟨d, s, h, P, re, l, dv, g, k⟩ => k _ H _ h (Step.refl h H) re (l.set dv) g
abbrev gTGs := List D → GS → GH → (GS → GH → Prop) → Prop
def gGs (K : Fg) (An : AN) (g : gTGs) : TGs := fun vs σ H Q => ∃ ds s h P, Rel K h H ∧ Sl K An h H σ s ∧ Dvs K h H vs ds ∧ g ds s h P ∧ ∀ σ' H' s' h', Step h H h' H' → Rel K h' H' → Sl K An h' H' σ' s' → P s' h' → Q σ' H'
def tgNil : gTGs := fun ds s h P => ds = [] ∧ P s h
def tgCons (t : gTG) (u : gTGs) : gTGs := fun ds s h P => ∃ d r, ds = d :: r ∧ t d s h fun s' h' => u r s' h' P
theorem _root_.L2.PGs.imp {t t' : TGs} (h : PGs X es t) (k : ∀ v σ H Q, t' v σ H Q → t v σ H Q) : PGs X es t' := ⟨fun pins s σ H v u Q I r q => h.run pins s σ H v u Q I r (k v σ H Q q)⟩
theorem gs_nil : PGs X [] (gGs X.K An tgNil) := pgs_nil.imp fun v σ H Q ⟨d, s, h, P, re, l, dv, ⟨e, g⟩, k⟩ => by
  subst e
  cases dv
  exact ⟨rfl, k _ H _ h (Step.refl h H) re l g⟩
theorem gs_cons {t : gTG} {u : gTGs} (h1 : PG X e (gG X.K An t)) (h2 : PGs X es (gGs X.K An u)) (hs : (assignEach (e :: es) X.env).map (·.2) = assign e X.env :: (assignEach es X.env).map (·.2) := by rfl) : PGs X (e :: es) (gGs X.K An (tgCons t u)) := (pgs_cons h1 h2 hs).imp fun v σ H Q ⟨d, s, h, P, re, l, dv, ⟨d0, r0, e, g⟩, k⟩ => by
  subst e
  cases dv with
  | cons a r =>
    refine ⟨_, _, rfl, d0, s, h, _, re, l, a, g, fun σ' H' s' h' st re' l' q => ?_⟩
    exact ⟨r0, s', h', P, re', l', r.mono st, q, fun σ2 H2 s2 h2 st2 re2 l2 p => k σ2 H2 s2 h2 (st.trans st2) re2 l2 p⟩
def tgTup (n : Nat) (t : gTGs) : gTG := fun d s h P => ∃ ds, d = .tup ds ∧ ds.length = n ∧ t ds s h P
theorem g_tup {t : gTGs} {k n : Nat} (hc : X.calm = true) (h : PGs X es (gGs X.K An t)) (hn : (assignEach es X.env).length = n := by rfl) (hst : (assignEach es X.env).findIdx? (·.1) = none := by rfl) : PG X (.Tuple es k pos) (gG X.K An (tgTup n t)) := (pg_tup hc h hn hst).imp fun v σ H Q ⟨d, s, h, P, re, l, dv, ⟨ds, e, hl, g⟩, k⟩ => by
  subst e
  cases dv with
  | tup t rs => exact ⟨_, _, rfl, t.sq, by rw [rs.length]; exact hl, ds, s, h, P, re, l, rs, g, k⟩
/-- target = value -/
def sAsg (ga : gTE) (t : gTG) : gTS := fun N s h => ga s h fun d h1 => t d s h1 N.nx
theorem s_asg {tg : Expr} {t : gTG} (he : PE X e (gE X.K An ga)) (hg : PG X tg (gG X.K An t)) (hs : swapsWithSole [tg] e pos.line X.env = pure false := by rfl) (hw : swappedStores [tg] e X.env = pure none := by rfl)
    (h1 : (assignEach [tg] X.env).map (·.2) = [assign tg X.env] := by rfl) : PS X (.Assign [tg] e pos) (gS X.K An (sAsg ga t)) := (ps_asg he hg hs hw h1).imp fun De σ H ⟨s, h, N, re, l, g, m⟩ => by
  refine ⟨s, h, _, re, l, g, fun v H1 d h1 s1 re1 dv p => ?_⟩
  exact ⟨d, s, h1, N.nx, re1, l.mono s1, dv, p, fun σ' H' s' h' st => m.nx σ' H' s' h' (s1.trans st)⟩
/-! ### while -/
def sWhile (gt : gTT) (gb : gTS) : gTS := fun N s h => ∃ W : Nat → GS → GH → Prop, (∃ m, W m s h) ∧ ∀ m s h, W m s h →
  gt s h fun b h1 => if b = true then gb { nx := fun s' h' => ∃ m', m' < m ∧ W m' s' h', ct := fun s' h' => ∃ m', m' < m ∧ W m' s' h', bk := N.nx, rt := N.rt } s h1 else N.nx s h1
theorem s_while {c : Expr} {body : List Stmt} {gb : gTS} (hp : PassesOwn (model X.prog X.w) X.A X.env X.xe) (hc : PT X c (gT X.K An gt)) (hb : PSs X body (gS X.K An gb)) : PS X (.While c body [] pos) (gS X.K An (sWhile gt gb)) := (ps_while hp hc hb).imp fun De σ H ⟨s, h, N, re, l, g, m⟩ => by
  obtain ⟨W, ⟨m0, w0⟩, turn⟩ := g
  refine ⟨fun n σ1 H1 => ∃ s1 h1, Step h H h1 H1 ∧ Rel X.K h1 H1 ∧ Sl X.K An h1 H1 σ1 s1 ∧ W n s1 h1, ⟨m0, s, h, Step.refl h H, re, l, w0⟩, fun n σ1 H1 ⟨s1, h1, st1, re1, l1, w1⟩ => ?_⟩
  refine ⟨s1, h1, _, re1, l1, turn n s1 h1 w1, fun b H2 h2 st2 re2 p => ?_⟩
  cases b with
  | true =>
    rw [if_pos rfl] at p
    rw [if_pos rfl]
    refine ⟨fun σ' H' => ∃ m', m' < n ∧ ∃ s1 h1, Step h H h1 H' ∧ Rel X.K h1 H' ∧ Sl X.K An h1 H' σ' s1 ∧ W m' s1 h1, fun _ _ q => q, ?_⟩
    refine ⟨s1, h2, _, re2, l1.mono st2, p, fun σ3 H3 s3 h3 st3 re3 l3 ⟨m', hm, w3⟩ => ?_, fun v H3 d h3 st3 => m.rt v H3 d h3 ((st1.trans st2).trans st3), fun σ3 H3 s3 h3 st3 => m.nx σ3 H3 s3 h3 ((st1.trans st2).trans st3), fun σ3 H3 s3 h3 st3 re3 l3 ⟨m', hm, w3⟩ => ?_⟩
    · exact ⟨m', hm, s3, h3, (st1.trans st2).trans st3, re3, l3, w3⟩
    · exact ⟨m', hm, s3, h3, (st1.trans st2).trans st3, re3, l3, w3⟩
  | false =>
    rw [if_neg Bool.false_ne_true] at p
    rw [if_neg Bool.false_ne_true]
    exact m.nx σ1 H2 s1 h2 (st1.trans st2) re2 (l1.mono st2) p
end
end Gh

namespace Gh
open PySem L2
/-! ### what is walked -/
def Walk (K : Fg) (J : It) (h0 : GH) (H0 : Hp) (ds : List D) : Prop := ∀ h H, Step h0 H0 h H → Rel K h H →
  (∀ (i : Nat) (d : D), ds[i]? = some d → J.go i H ∧ ∀ x H', J.yld i H x H' → Step h H h H' ∧ Rel K h H' ∧ Dv K h H' x d) ∧ (∀ i : Nat, ds.length ≤ i → J.stop i H)
def gI (K : Fg) (An : AN) (g : gTA) : TI := fun σ H R => ∃ s h P, Rel K h H ∧ Sl K An h H σ s ∧ g s h P ∧ ∀ J ds H' h', Step h H h' H' → Rel K h' H' → Walk K J h' H' ds → P ds h' → R J H'
section
variable {X : Cx} {An : AN} {a b e tg iter : Expr} {es : List Expr} {ga gb : gTE} {gas : gTA} {gt : gTT} {pos p : Pos} {st : Stmt} {sts : List Stmt} {g g1 g2 : gTS}
theorem _root_.L2.PI.imp {t t' : TI} (h : PI X tg e t) (k : ∀ σ H R, t' σ H R → t σ H R) : PI X tg e t' := ⟨fun pins s σ H R I q => h.run pins s σ H R I (k σ H R q)⟩
theorem walk_list {K : Fg} {h : GH} {H : Hp} {q : Addr} {xs : List V} {ds : List D} (n : h q = none) (e : H q = some (.lst xs)) (rs : Dvs K h H xs ds) : Walk K (Itl K q) h H ds := by
  intro h1 H1 st re
  have e1 := st.kp n e
  have rs1 := rs.mono st
  refine ⟨fun i d hd => ?_, fun i hi => ⟨xs, .inl (.inl e1), by rw [rs.length]; exact hi⟩⟩
  obtain ⟨v, hv, dv⟩ := rs1.get hd
  refine ⟨⟨xs, v, .inl (.inl e1), hv⟩, fun x H' ⟨eH, hx⟩ => ?_⟩
  subst eH
  have := hx xs (.inl (.inl e1))
  rw [hv] at this
  cases this
  exact ⟨Step.refl _ _, re, dv⟩
theorem walk_tup {K : Fg} {h : GH} {H : Hp} {q : Addr} {xs : List V} {ds : List D} (t : TpF K h H q xs) (rs : Dvs K h H xs ds) : Walk K (Itt K q) h H ds := by
  intro h1 H1 st re
  have e1 := (t.mono st).sq
  have rs1 := rs.mono st
  refine ⟨fun i d hd => ?_, fun i hi => ⟨xs, e1, by rw [rs.length]; exact hi⟩⟩
  obtain ⟨v, hv, dv⟩ := rs1.get hd
  refine ⟨⟨xs, v, e1, hv⟩, fun x H' ⟨eH, hx⟩ => ?_⟩
  subst eH
  have := hx xs e1
  rw [hv] at this
  cases this
  exact ⟨Step.refl _ _, re, dv⟩
def rangeD (lo : Int) (n : Nat) : List D := (List.range n).map fun i => .int (lo + (i : Nat))
theorem rangeD_length (lo : Int) (n : Nat) : (rangeD lo n).length = n := by unfold rangeD; simp
theorem rangeD_get {lo : Int} {n i : Nat} {d : D} (e : (rangeD lo n)[i]? = some d) : i < n ∧ d = .int (lo + i) := by
  have hl : i < n := by
    have := (List.getElem?_eq_some_iff.mp e).1
    rwa [rangeD_length] at this
  refine ⟨hl, ?_⟩
  unfold rangeD at e
  rw [List.getElem?_map, List.getElem?_range hl] at e
  exact (Option.some.inj e).symm
theorem walk_range {K : Fg} {h : GH} {H : Hp} {lo : Int} {n : Nat} : Walk K (Itr lo n) h H (rangeD lo n) := by
  intro h1 H1 st re
  refine ⟨fun i d hd => ?_, fun i hi => by rw [rangeD_length] at hi; exact hi⟩
  obtain ⟨hi, rfl⟩ := rangeD_get hd
  refine ⟨hi, fun x H' ⟨eH, hx⟩ => ?_⟩
  subst eH hx
  exact ⟨Step.refl _ _, re, .int _⟩
def strD (x : Str) : List D := x.cps.toList.map fun c => .str ⟨#[c]⟩
theorem walk_str {K : Fg} {h : GH} {H : Hp} {x : Str} : Walk K (Its x) h H (strD x) := by
  intro h1 H1 st re
  have hl : (strD x).length = x.cps.size := by unfold strD; simp
  refine ⟨fun i d hd => ?_, fun i hi => by rw [hl] at hi; exact hi⟩
  unfold strD at hd
  rw [List.getElem?_map] at hd
  cases q : x.cps.toList[i]? with
  | none => rw [q] at hd; cases hd
  | some c =>
    rw [q] at hd
    cases hd
    have hi : i < x.cps.size := by
      have := (List.getElem?_eq_some_iff.mp q).1
      simpa using this
    refine ⟨hi, fun y H' ⟨eH, c', hc, hy⟩ => ?_⟩
    subst eH hy
    rw [← Array.getElem?_toList, q] at hc
    cases hc
    exact ⟨Step.refl _ _, re, .str _⟩
/-- for .. in e: a list, a tuple or a text -/
def iSeq (ga : gTE) : gTA := fun s h P => ga s h fun d h1 => match d with
  | .lst ds => P ds h1
  | .tup ds => P ds h1
  | .str x => P (strD x) h1
  | _ => False
def iAll (K : Fg) (tl : TE) : TI := fun σ H R => tl σ H fun x H1 => (∃ a, x = .ref a ∧ (∃ xs, SqL K H1 a xs) ∧ R (Itl K a) H1) ∨ (∃ a, x = .ref a ∧ (∃ xs, SqT K H1 a xs) ∧ R (Itt K a) H1) ∨ ∃ y, x = .str y ∧ R (Its y) H1
theorem pi_all {l : Expr} {tl : TE} (hl : PE X l tl) : PI X tg l (iAll X.K tl) := by
  refine ⟨fun pins s σ H R I h => ?_⟩
  refine thn (hl.run pins s σ H _ I h) fun v s1 ⟨x, H1, I1, r1, q1⟩ => ?_
  rcases q1 with ⟨q, e, ⟨xs, hq⟩, q1⟩ | ⟨q, e, ⟨xs, hq⟩, q1⟩ | ⟨y, e, q1⟩
  · subst e
    cases r1
    obtain ⟨its, rv, p, hz⟩ := I1.list hq
    refine wpAny_pyIter_list p.isList ?_
    refine ⟨s1.heap.objs.size, [s1.heap.objs.size], _, _, H1, rfl, I1.kept (t' := s1.toks) fun b o e => Heap.get?_push_of_some _ e, turn_list q _, ⟨_, Heap.get?_push_size _ rfl, rfl, rfl⟩, fun b hb => ?_, q1⟩
    have e : b = s1.heap.objs.size := by simpa using hb
    subst e
    exact I1.fpOk (Nat.le_refl _) (I1.hok.fresh (Nat.le_refl _))
  · subst e
    cases r1
    obtain ⟨its, rv, p, hz⟩ := I1.tuple hq
    refine wpAny_pyIter_tuple (show s1.heap.IsTuple q its.toArray from p) ?_
    refine ⟨s1.heap.objs.size, [s1.heap.objs.size], _, _, H1, rfl, I1.kept (t' := s1.toks) fun b o e => Heap.get?_push_of_some _ e, turn_tuple q _, ⟨_, Heap.get?_push_size _ rfl, rfl, rfl⟩, fun b hb => ?_, q1⟩
    have e : b = s1.heap.objs.size := by simpa using hb
    subst e
    exact I1.fpOk (Nat.le_refl _) (I1.hok.fresh (Nat.le_refl _))
  · subst e
    obtain ⟨t, rfl⟩ := r1
    cases ha : y.cps.all (· < 128)
    · exact wpAny_pyIter_wide ha (pi_one (tk := s1.toks) I1 _ (turn_str _ y t "str_iterator" (.inr rfl)) ⟨_, Heap.get?_push_size _ rfl, rfl, rfl⟩ q1)
    · exact wpAny_pyIter_ascii ha (pi_one (tk := s1.toks) I1 _ (turn_str _ y t "str_ascii_iterator" (.inl rfl)) ⟨_, Heap.get?_push_size _ rfl, rfl, rfl⟩ q1)
theorem i_seq (ha : PE X e (gE X.K An ga)) : PI X tg e (gI X.K An (iSeq ga)) := (pi_all ha).imp fun σ H R ⟨s, h, P, re, l, g, k⟩ => by
  refine ⟨s, h, _, re, l, g, fun v H1 d h1 s1 re1 dv p => ?_⟩
  cases dv with
  | lst n q rs => exact .inl ⟨_, rfl, ⟨_, .inl (.inl q)⟩, k _ _ H1 h1 s1 re1 (walk_list n q rs) p⟩
  | tup t rs => exact .inr (.inl ⟨_, rfl, ⟨_, t.sq⟩, k _ _ H1 h1 s1 re1 (walk_tup t rs) p⟩)
  | str x => exact .inr (.inr ⟨x, rfl, k _ _ H1 h1 s1 re1 walk_str p⟩)
  | _ => exact p.elim
def iRg1 (gas : gTA) : gTA := fun s h P => gas s h fun ds h1 => ∃ j : Int, ds = [.int j] ∧ (-(2 ^ 62) ≤ j ∧ j < 2 ^ 62) ∧ P (rangeD 0 j.toNat) h1
def iRg2 (gas : gTA) : gTA := fun s h P => gas s h fun ds h1 => ∃ i j : Int, ds = [.int i, .int j] ∧ (-(2 ^ 62) ≤ i ∧ i < 2 ^ 62 ∧ -(2 ^ 62) ≤ j ∧ j < 2 ^ 62) ∧ P (rangeD i (j - i).toNat) h1
theorem i_range1 (hm : X.mg "range" = none) (ha : PA X [a] (gA X.K An gas)) (hg : Gl X "range" := by rfl) (hs : starEach [a] X.env = [(false, eval a X.env)] := by rfl) : PI X tg (.Call (.Name "range" p) [a] [] pos) (gI X.K An (iRg1 gas)) := (pi_range1 hg hm ha hs).imp fun σ H R ⟨s, h, P, re, l, g, k⟩ => by
  refine ⟨s, h, _, re, l, g, fun vs H1 ds h1 s1 re1 dvx ⟨j, e, ⟨b1, b2⟩, p⟩ => ?_⟩
  subst e
  obtain ⟨v, rfl, dv⟩ := dvs1 dvx
  cases dv
  exact ⟨j, rfl, b1, b2, k _ _ H1 h1 s1 re1 walk_range p⟩
theorem i_range2 (hm : X.mg "range" = none) (ha : PA X [a, b] (gA X.K An gas)) (hg : Gl X "range" := by rfl) (hs : starEach [a, b] X.env = [(false, eval a X.env), (false, eval b X.env)] := by rfl) (hs2 : starEach [b] X.env = [(false, eval b X.env)] := by rfl) : PI X tg (.Call (.Name "range" p) [a, b] [] pos) (gI X.K An (iRg2 gas)) := (pi_range2 hg hm ha hs hs2).imp fun σ H R ⟨s, h, P, re, l, g, k⟩ => by
  refine ⟨s, h, _, re, l, g, fun vs H1 ds h1 s1 re1 dvx ⟨i, j, e, bb, p⟩ => ?_⟩
  subst e
  obtain ⟨v, v', rfl, dv, dw⟩ := dvs2 dvx
  cases dv
  cases dw
  exact ⟨i, j, rfl, bb, k _ _ H1 h1 s1 re1 walk_range p⟩
/-! ### for -/
def gLoop (gt : gTG) (gb : gTS) (N : GEnds) : List D → GS → GH → Prop
  | [], s, h => N.nx s h
  | d :: r, s, h => gt d s h fun s1 h1 => gb { nx := gLoop gt gb N r, ct := gLoop gt gb N r, bk := N.nx, rt := N.rt } s1 h1
def sFor (gi : gTA) (gt : gTG) (gb : gTS) : gTS := fun N s h => gi s h fun ds h1 => gLoop gt gb N ds s h1
theorem s_for {gi : gTA} {gtg : gTG} {gb : gTS} {body : List Stmt} (hp : PassesOwn (model X.prog X.w) X.A X.env X.xe) (hc : X.calm = true) (hi : PI X tg iter (gI X.K An gi)) (hg : PG X tg (gG X.K An gtg)) (hb : PSs X body (gS X.K An gb))
    (hs : ∀ x, foldedSetIterable iter X.env x = pure x := by intro _; rfl) : PS X (.For tg iter body [] pos) (gS X.K An (sFor gi gtg gb)) := (ps_for hp hc hi hg hb hs).imp fun De σ H ⟨s, h, N, re, l, g, m⟩ => by
  refine ⟨s, h, _, re, l, g, fun J ds H1 h1 s1 re1 wk p => ?_⟩
  refine ⟨fun i n σ2 H2 => n = ds.length - i ∧ ∃ s2 h2, Step h1 H1 h2 H2 ∧ Rel X.K h2 H2 ∧ Sl X.K An h2 H2 σ2 s2 ∧ gLoop gtg gb N (ds.drop i) s2 h2, ⟨ds.length, by simp, s, h1, Step.refl _ _, re1, l.mono s1, by rw [List.drop_zero]; exact p⟩, fun i n σ2 H2 ⟨en, s2, h2, st2, re2, l2, w2⟩ => ?_⟩
  obtain ⟨w_go, w_stop⟩ := wk h2 H2 st2 re2
  by_cases hi : i < ds.length
  · refine .inr ?_
    have hd : ds[i]? = some ds[i] := List.getElem?_eq_getElem hi
    rw [List.drop_eq_getElem_cons hi] at w2
    obtain ⟨go, yl⟩ := w_go i _ hd
    refine ⟨go, fun σ' H' => ds.length - (i + 1) < n ∧ ∃ s2 h2, Step h1 H1 h2 H' ∧ Rel X.K h2 H' ∧ Sl X.K An h2 H' σ' s2 ∧ gLoop gtg gb N (ds.drop (i + 1)) s2 h2, fun σ' H' ⟨q1, q2⟩ => ⟨_, q1, rfl, q2⟩, fun x H3 hy => ?_⟩
    obtain ⟨st3, re3, dx⟩ := yl x H3 hy
    refine ⟨ds[i], s2, h2, _, re3, l2.mono st3, dx, w2, fun σ4 H4 s4 h4 st4 re4 l4 q4 => ?_⟩
    have st14 := (st2.trans st3).trans st4
    have st04 := s1.trans st14
    refine ⟨s4, h4, _, re4, l4, q4, fun σ5 H5 s5 h5 st5 re5 l5 q5 => ?_, fun v H5 d h5 st5 => m.rt v H5 d h5 (st04.trans st5), fun σ5 H5 s5 h5 st5 => m.nx σ5 H5 s5 h5 (st04.trans st5), fun σ5 H5 s5 h5 st5 re5 l5 q5 => ?_⟩
    · exact ⟨by omega, s5, h5, st14.trans st5, re5, l5, q5⟩
    · exact ⟨by omega, s5, h5, st14.trans st5, re5, l5, q5⟩
  · refine .inl ⟨w_stop i (by omega), ?_⟩
    rw [List.drop_eq_nil_of_le (by omega)] at w2
    exact m.nx σ2 H2 s2 h2 (s1.trans st2) re2 l2 w2
/-! ### list comprehensions with one name -/
def wipeG (s : GS) : List Nat → GS
  | [] => s
  | v :: vs => (wipeG s vs).set v none
theorem Sl.wipe {K : Fg} {An : AN} {h : GH} {H : Hp} {σ : St} {s : GS} (l : Sl K An h H σ s) : ∀ vs : List Nat, Sl K An h H (L2.wipe σ vs) (wipeG s vs)
  | [] => l
  | v :: vs => by
    unfold L2.wipe wipeG
    exact (Sl.wipe l vs).unset
def gYes : gTT := fun _ h P => P true h
def gComp (gt : gTG) (gc : gTT) (ge : gTE) (s : GS) (p : Addr) (P : List D → GH → Prop) : List D → List D → GH → Prop
  | [], acc, h => P acc (del h p)
  | d :: r, acc, h => gt d s h fun s2 h2 => gc s2 h2 fun b h3 => if b = true then ge s2 h3 fun y h4 => acc.length < sizeLine ∧ h4 p = some (.lst acc) ∧ gComp gt gc ge s p P r (acc ++ [y]) (put h4 p (.lst (acc ++ [y]))) else h3 p = some (.lst acc) ∧ gComp gt gc ge s p P r acc h3
def fLc (gi : gTA) (gt : gTG) (gc : gTT) (ge : gTE) (vs : List Nat) : gTA := fun s h P => gi s h fun ds h1 => ∀ p, h1 p = none → gComp gt gc ge (wipeG s vs) p P ds [] (put h1 p (.lst []))
theorem put_get {h : GH} {p : Addr} {g : GO} (e : h p = some g) : put (del h p) p g = h := by
  funext b
  by_cases z : b = p
  · subst z; rw [put_same, e]
  · rw [put_ne z, del_ne z]
/-- the targets of a comprehension: g sets slots of vs alone -/
def TgOk (K : Fg) (An : AN) (vs : List Nat) (g : TG) (gt : gTG) : Prop := ∀ v σ H d s h (P : GS → GH → Prop) (Q : St → Hp → Prop), Rel K h H → Sl K An h H (L2.wipe σ vs) (wipeG s vs) → Dv K h H v d → gt d (wipeG s vs) h P →
  (∀ σ' H' s' h', L2.wipe σ' vs = L2.wipe σ vs → Step h H h' H' → Rel K h' H' → Sl K An h' H' σ' s' → P s' h' → Q σ' H') → g v (L2.wipe σ vs) H Q
theorem lc_of {K : Fg} {An : AN} {gi : gTA} {tr : TG} {gtg : gTG} {tt : TT} {gc : gTT} {ge : gTE} {vs : List Nat} (hg : TgOk K An vs tr gtg) (hc : ∀ σ H Q, gT K An gc σ H Q → tt σ H Q) (σ : St) (H : Hp) (Q : VK) (q : gF K An (fLc gi gtg gc ge vs) σ H Q) : tLc (gI K An gi) tr tt (gE K An ge) vs σ H Q := by
  obtain ⟨s, h, P, re, l, g, k⟩ := q
  refine ⟨s, h, _, re, l, g, fun J ds H1 h1 s1 re1 wk p t n => ?_⟩
  have n1 := re1.free n
  have s2 : Step h1 H1 (put h1 t (.lst [])) (upd H1 t (.lst [])) := Step.newO n
  have re2 : Rel K (put h1 t (.lst [])) (upd H1 t (.lst [])) := re1.newO n .nil
  have l2 : Sl K An (put h1 t (.lst [])) (upd H1 t (.lst [])) (L2.wipe σ vs) (wipeG s vs) := ((l.mono s1).mono s2).wipe vs
  refine ⟨fun i m H3 => m = ds.length - i ∧ ∃ acc h3, Step (put h1 t (.lst [])) (upd H1 t (.lst [])) h3 H3 ∧ Rel K h3 H3 ∧ h3 t = some (.lst acc) ∧ gComp gtg gc ge (wipeG s vs) t P (ds.drop i) acc h3,
    ⟨ds.length, by simp, [], _, Step.refl _ _, re2, put_same, by rw [List.drop_zero]; exact p t n1⟩, fun i m H3 ⟨em, acc, h3, st3, re3, ho, w3⟩ => ?_⟩
  obtain ⟨w_go, w_stop⟩ := wk h3 H3 (s2.trans st3) re3
  by_cases hi : i < ds.length
  · refine .inr ?_
    have hd : ds[i]? = some ds[i] := List.getElem?_eq_getElem hi
    rw [List.drop_eq_getElem_cons hi] at w3
    obtain ⟨go, yl⟩ := w_go i _ hd
    refine ⟨go, fun H' => ds.length - (i + 1) < m ∧ ∃ acc h3, Step (put h1 t (.lst [])) (upd H1 t (.lst [])) h3 H' ∧ Rel K h3 H' ∧ h3 t = some (.lst acc) ∧ gComp gtg gc ge (wipeG s vs) t P (ds.drop (i + 1)) acc h3, fun H' ⟨q1, q2⟩ => ⟨_, q1, rfl, q2⟩, fun x H4 hy => ?_⟩
    obtain ⟨st4, re4, dx⟩ := yl x H4 hy
    have l4 := l2.mono (st3.trans st4)
    refine hg x σ H4 _ s h3 _ _ re4 l4 dx w3 fun σ5 H5 s5 h5 ew st5 re5 l5 q5 => ⟨ew, ?_⟩
    refine hc σ5 H5 _ ⟨s5, h5, _, re5, l5, q5, fun b H6 h6 st6 re6 q6 => ?_⟩
    have st16 := ((st3.trans st4).trans st5).trans st6
    cases b with
    | true =>
      rw [if_pos rfl] at q6
      refine iteT ?_
      refine ⟨s5, h6, _, re6, l5.mono st6, q6, fun y H7 d h7 st7 re7 dy ⟨hz, ho7, q7⟩ => ?_⟩
      obtain ⟨xs, hx, rs⟩ := re7 t _ ho7
      refine ⟨xs, hx, by rw [rs.length]; exact hz, by omega, acc ++ [d], _, (st16.trans st7).trans (Step.set (g := GO.lst (acc ++ [d])) (by rw [ho7]; simp)), ?_, put_same, q7⟩
      have st8 : Step h7 H7 (put h7 t (GO.lst (acc ++ [d]))) (upd H7 t (.lst (xs ++ [y]))) := Step.set (by rw [ho7]; simp)
      exact re7.put st8 ⟨_, upd_same, (rs.mono st8).append (.cons (dy.mono st8) .nil)⟩
    | false =>
      rw [if_neg Bool.false_ne_true] at q6
      refine iteF ?_
      exact ⟨by omega, acc, h6, st16, re6, q6.1, q6.2⟩
  · refine .inl ⟨w_stop i (by omega), ?_⟩
    rw [List.drop_eq_nil_of_le (by omega)] at w3
    have st := (s1.trans s2).trans st3
    have e := put_get ho
    refine k t acc H3 (del h3 t) del_same ?_ ?_ w3
    · rw [e]; exact st
    · rw [e]; exact re3
theorem wipe_set {σ : St} {i : Nat} {v : Option V} : ∀ {vs : List Nat}, i ∈ vs → L2.wipe ((L2.wipe σ vs).set i v) vs = L2.wipe σ vs := by
  intro vs hi
  have len : ∀ us : List Nat, (L2.wipe σ us).length = σ.length := wipe_length σ
  have get : ∀ (us : List Nat) (τ : St) (j : Nat), (L2.wipe τ us)[j]? = if j < τ.length then (if j ∈ us then some none else τ[j]?) else none := by
    intro us τ j
    induction us with
    | nil =>
      unfold L2.wipe
      by_cases hj : j < τ.length
      · rw [if_pos hj]; simp
      · rw [if_neg hj]; exact List.getElem?_eq_none (by omega)
    | cons u us ih =>
      unfold L2.wipe
      by_cases hj : j < τ.length
      · rw [if_pos hj]
        by_cases hu : u = j
        · subst hu
          rw [List.getElem?_set_self (by rw [wipe_length]; exact hj), if_pos List.mem_cons_self]
        · rw [List.getElem?_set_ne hu, ih, if_pos hj]
          by_cases hm : j ∈ us
          · rw [if_pos hm, if_pos (List.mem_cons_of_mem _ hm)]
          · rw [if_neg hm, if_neg (by simp; exact ⟨fun z => hu z.symm, hm⟩)]
      · rw [if_neg hj]
        exact List.getElem?_eq_none (by rw [List.length_set, wipe_length]; omega)
  apply List.ext_getElem?
  intro j
  rw [get, get, List.length_set, len]
  by_cases hj : j < σ.length
  · rw [if_pos hj, if_pos hj]
    by_cases hm : j ∈ vs
    · rw [if_pos hm, if_pos hm]
    · rw [if_neg hm, if_neg hm, List.getElem?_set_ne (fun z => hm (by rw [← z]; exact hi)), get, if_pos hj, if_neg hm]
  · rw [if_neg hj, if_neg hj]
theorem tgOk_name {K : Fg} {An : AN} {i : Nat} {vs : List Nat} (hi : i ∈ vs) : TgOk K An vs (gName i) (tgName i) := fun v σ H d s h P Q re l dv g k => k _ H _ h (wipe_set hi) (Step.refl h H) re (l.set dv) g
/-- [elt for x in iter] -/
theorem f_lc {elt : Expr} {scope : Scope} {x : Str} {i : Nat} {px : Pos} {gi : gTA} {ge : gTE} (hc : X.calm = true) (hN : X.N.Nodup) (hi : PI X (.Name x px) iter (gI X.K An gi)) (ok : BlkOk X.N X.env.scope scope [(x, i)])
    (hg : ∀ (s : Shared) (H : Hp) (C : Addr) (cl : List (Str × Addr)) (fp : List Addr), PG (X.blk s H scope (compEnvC scope cl C X.env) fp) (.Name x px) (gName i))
    (he : ∀ (s : Shared) (H : Hp) (C : Addr) (cl : List (Str × Addr)) (fp : List Addr), PE (X.blk s H scope (compEnvC scope cl C X.env) fp) elt (gE X.K An ge)) (hs : ∀ x, foldedSetIterable iter X.env x = pure x := by intro _; rfl) :
    PE X (.ListComp elt [⟨.Name x px, iter, [], 0⟩] scope pos) (gF X.K An (fLc gi (tgName i) gYes ge [i])) :=
  (pe_lc (own := [(x, i)]) hc hN hi ok hg (fun _ _ _ _ _ => pts_nil) he hs).imp (lc_of (tgOk_name (by simp)) fun σ H Q ⟨s, h, P, re, l, g, k⟩ => k true H h (Step.refl h H) re g)
/-- [elt for x in iter if t] -/
theorem f_lcIf {elt t : Expr} {scope : Scope} {x : Str} {i : Nat} {px : Pos} {gi : gTA} {ge : gTE} {gc : gTT} (hc : X.calm = true) (hN : X.N.Nodup) (hi : PI X (.Name x px) iter (gI X.K An gi)) (ok : BlkOk X.N X.env.scope scope [(x, i)])
    (hg : ∀ (s : Shared) (H : Hp) (C : Addr) (cl : List (Str × Addr)) (fp : List Addr), PG (X.blk s H scope (compEnvC scope cl C X.env) fp) (.Name x px) (gName i))
    (ht : ∀ (s : Shared) (H : Hp) (C : Addr) (cl : List (Str × Addr)) (fp : List Addr), PT (X.blk s H scope (compEnvC scope cl C X.env) fp) t (gT X.K An gc))
    (he : ∀ (s : Shared) (H : Hp) (C : Addr) (cl : List (Str × Addr)) (fp : List Addr), PE (X.blk s H scope (compEnvC scope cl C X.env) fp) elt (gE X.K An ge)) (hs : ∀ x, foldedSetIterable iter X.env x = pure x := by intro _; rfl) :
    PE X (.ListComp elt [⟨.Name x px, iter, [t], 0⟩] scope pos) (gF X.K An (fLc gi (tgName i) gc ge [i])) :=
  (pe_lc (own := [(x, i)]) hc hN hi ok hg (fun s H C cl fp => pts_one (ht s H C cl fp)) he hs).imp (lc_of (tgOk_name (by simp)) fun _ _ _ q => q)
theorem frz_of {K : Fg} {An : AN} {g : gTA} (σ : St) (H : Hp) (Q : VK) (q : gE K An (gFr g) σ H Q) : gF K An g σ H Q := by
  obtain ⟨s, h, P, re, l, g, k⟩ := q
  refine ⟨s, h, _, re, l, g, fun p ds H' h1 n s1 re1 pp => ?_⟩
  have d := re1.letgo put_same
  have re2 := re1.del (p := p)
  have s2 : Step h H (Gh.del (Gh.put h1 p (GO.lst ds)) p) H' := s1.trans Step.del
  rw [put_del n] at d re2 s2
  exact k _ H' _ h1 s2 re2 d pp
theorem setF_of {K : Fg} {An : AN} {i : Nat} (De : Ends) (σ : St) (H : Hp) (q : gS K An (sSet i (gFr gas)) De σ H) : tAsg (gF K An gas) (gName i) De σ H := frz_of σ H _ (set_of De σ H q)
/-- y = [elt for x in iter], y a local -/
theorem s_lc {elt : Expr} {scope : Scope} {x y : Str} {i j : Nat} {px py spos : Pos} {gi : gTA} {ge : gTE} (hc : X.calm = true) (hN : X.N.Nodup) (hy : X.N[j]? = some y) (hyl : X.env.scope.names.lookup y = some .local)
    (hsw : swapsWith (.ListComp elt [⟨.Name x px, iter, [], 0⟩] scope pos) (some (.Name y py)) spos.line X.env = pure true) (hi : PI X (.Name x px) iter (gI X.K An gi)) (ok : BlkOk X.N X.env.scope scope [(x, i)])
    (hg : ∀ (s : Shared) (H : Hp) (C : Addr) (cl : List (Str × Addr)) (fp : List Addr), PG (X.blk s H scope (compEnvC scope cl C X.env) fp) (.Name x px) (gName i))
    (he : ∀ (s : Shared) (H : Hp) (C : Addr) (cl : List (Str × Addr)) (fp : List Addr), PE (X.blk s H scope (compEnvC scope cl C X.env) fp) elt (gE X.K An ge)) (hs : ∀ x, foldedSetIterable iter X.env x = pure x := by intro _; rfl) :
    PS X (.Assign [.Name y py] (.ListComp elt [⟨.Name x px, iter, [], 0⟩] scope pos) spos) (gS X.K An (sOwn j (fLc gi (tgName i) gYes ge [i]))) :=
  (ps_setLc (own := [(x, i)]) hc hN hy hyl hsw hi ok hg (fun _ _ _ _ _ => pts_nil) he hs).imp fun De σ H q => lc_of (tgOk_name (by simp)) (fun σ H Q ⟨s, h, P, re, l, g, k⟩ => k true H h (Step.refl h H) re g) σ H _ (own_of De σ H q)
theorem s_lcIf {elt t : Expr} {scope : Scope} {x y : Str} {i j : Nat} {px py spos : Pos} {gi : gTA} {ge : gTE} {gc : gTT} (hc : X.calm = true) (hN : X.N.Nodup) (hy : X.N[j]? = some y) (hyl : X.env.scope.names.lookup y = some .local)
    (hsw : swapsWith (.ListComp elt [⟨.Name x px, iter, [t], 0⟩] scope pos) (some (.Name y py)) spos.line X.env = pure true) (hi : PI X (.Name x px) iter (gI X.K An gi)) (ok : BlkOk X.N X.env.scope scope [(x, i)])
    (hg : ∀ (s : Shared) (H : Hp) (C : Addr) (cl : List (Str × Addr)) (fp : List Addr), PG (X.blk s H scope (compEnvC scope cl C X.env) fp) (.Name x px) (gName i))
    (ht : ∀ (s : Shared) (H : Hp) (C : Addr) (cl : List (Str × Addr)) (fp : List Addr), PT (X.blk s H scope (compEnvC scope cl C X.env) fp) t (gT X.K An gc))
    (he : ∀ (s : Shared) (H : Hp) (C : Addr) (cl : List (Str × Addr)) (fp : List Addr), PE (X.blk s H scope (compEnvC scope cl C X.env) fp) elt (gE X.K An ge)) (hs : ∀ x, foldedSetIterable iter X.env x = pure x := by intro _; rfl) :
    PS X (.Assign [.Name y py] (.ListComp elt [⟨.Name x px, iter, [t], 0⟩] scope pos) spos) (gS X.K An (sOwn j (fLc gi (tgName i) gc ge [i]))) :=
  (ps_setLc (own := [(x, i)]) hc hN hy hyl hsw hi ok hg (fun s H C cl fp => pts_one (ht s H C cl fp)) he hs).imp fun De σ H q => lc_of (tgOk_name (by simp)) (fun _ _ _ q => q) σ H _ (own_of De σ H q)
theorem s_lcF {elt : Expr} {scope : Scope} {x y : Str} {i j : Nat} {px py spos : Pos} {gi : gTA} {ge : gTE} (hc : X.calm = true) (hN : X.N.Nodup) (hy : X.N[j]? = some y) (hyl : X.env.scope.names.lookup y = some .local)
    (hsw : swapsWith (.ListComp elt [⟨.Name x px, iter, [], 0⟩] scope pos) (some (.Name y py)) spos.line X.env = pure true) (hi : PI X (.Name x px) iter (gI X.K An gi)) (ok : BlkOk X.N X.env.scope scope [(x, i)])
    (hg : ∀ (s : Shared) (H : Hp) (C : Addr) (cl : List (Str × Addr)) (fp : List Addr), PG (X.blk s H scope (compEnvC scope cl C X.env) fp) (.Name x px) (gName i))
    (he : ∀ (s : Shared) (H : Hp) (C : Addr) (cl : List (Str × Addr)) (fp : List Addr), PE (X.blk s H scope (compEnvC scope cl C X.env) fp) elt (gE X.K An ge)) (hs : ∀ x, foldedSetIterable iter X.env x = pure x := by intro _; rfl) :
    PS X (.Assign [.Name y py] (.ListComp elt [⟨.Name x px, iter, [], 0⟩] scope pos) spos) (gS X.K An (sSet j (gFr (fLc gi (tgName i) gYes ge [i])))) :=
  (ps_setLc (own := [(x, i)]) hc hN hy hyl hsw hi ok hg (fun _ _ _ _ _ => pts_nil) he hs).imp fun De σ H q => lc_of (tgOk_name (by simp)) (fun σ H Q ⟨s, h, P, re, l, g, k⟩ => k true H h (Step.refl h H) re g) σ H _ (setF_of De σ H q)
theorem s_lcIfF {elt t : Expr} {scope : Scope} {x y : Str} {i j : Nat} {px py spos : Pos} {gi : gTA} {ge : gTE} {gc : gTT} (hc : X.calm = true) (hN : X.N.Nodup) (hy : X.N[j]? = some y) (hyl : X.env.scope.names.lookup y = some .local)
    (hsw : swapsWith (.ListComp elt [⟨.Name x px, iter, [t], 0⟩] scope pos) (some (.Name y py)) spos.line X.env = pure true) (hi : PI X (.Name x px) iter (gI X.K An gi)) (ok : BlkOk X.N X.env.scope scope [(x, i)])
    (hg : ∀ (s : Shared) (H : Hp) (C : Addr) (cl : List (Str × Addr)) (fp : List Addr), PG (X.blk s H scope (compEnvC scope cl C X.env) fp) (.Name x px) (gName i))
    (ht : ∀ (s : Shared) (H : Hp) (C : Addr) (cl : List (Str × Addr)) (fp : List Addr), PT (X.blk s H scope (compEnvC scope cl C X.env) fp) t (gT X.K An gc))
    (he : ∀ (s : Shared) (H : Hp) (C : Addr) (cl : List (Str × Addr)) (fp : List Addr), PE (X.blk s H scope (compEnvC scope cl C X.env) fp) elt (gE X.K An ge)) (hs : ∀ x, foldedSetIterable iter X.env x = pure x := by intro _; rfl) :
    PS X (.Assign [.Name y py] (.ListComp elt [⟨.Name x px, iter, [t], 0⟩] scope pos) spos) (gS X.K An (sSet j (gFr (fLc gi (tgName i) gc ge [i])))) :=
  (ps_setLc (own := [(x, i)]) hc hN hy hyl hsw hi ok hg (fun s H C cl fp => pts_one (ht s H C cl fp)) he hs).imp fun De σ H q => lc_of (tgOk_name (by simp)) (fun _ _ _ q => q) σ H _ (setF_of De σ H q)
end
end Gh

namespace Gh
open PySem PySem.Spec PyProof.Rows L2
/-! ### methods that change an owned list -/
abbrev RM := GH → List D → List D → List D → D → Prop
def MTL (K : Fg) (r : V → List V → Hp → VK → Prop) (R : RM) : Prop := ∀ (p : Addr) (xs vs : List V) (ds es ds' : List D) (c : D) (H : Hp) (h : GH) (Q : VK), Rel K h H → H p = some (.lst xs) → Dvs K h H xs ds → Dvs K h H vs es → R h ds es ds' c →
  (∀ v xs', Dvs K h H xs' ds' → Dv K h H v c → Q v (upd H p (.lst xs'))) → r (.ref p) vs H Q
def gMl (R : RM) (go : gTE) (ga : gTA) : gTE := fun s h P => go s h fun o h1 => ∃ p ds0, o = .ref p ∧ h1 p = some (.lst ds0) ∧ ga s h1 fun es h2 => ∃ ds ds' c, h2 p = some (.lst ds) ∧ R h2 ds es ds' c ∧ P c (put h2 p (.lst ds'))
section
variable {X : Cx} {An : AN} {a b e o tg iter : Expr} {es : List Expr} {ga gb go : gTE} {gas : gTA} {gt : gTT} {pos p : Pos} {st : Stmt} {sts : List Stmt} {g g1 g2 : gTS}
theorem ml_fin {K : Fg} {r : V → List V → Hp → VK → Prop} {R : RM} (m : MTL K r R) {q : Addr} {vs : List V} {ds es ds' : List D} {c : D} {H : Hp} {h : GH} {Q : VK} (re : Rel K h H) (ho : h q = some (.lst ds)) (dv : Dvs K h H vs es) (hr : R h ds es ds' c)
    (k : ∀ v H', Step h H (put h q (.lst ds')) H' → Rel K (put h q (.lst ds')) H' → Dv K (put h q (.lst ds')) H' v c → Q v H') : r (.ref q) vs H Q := by
  obtain ⟨xs, hx, rs⟩ := re q _ ho
  refine m q xs vs ds es ds' c H h Q re hx rs dv hr fun v xs' rs' dv' => ?_
  have st : Step h H (put h q (GO.lst ds')) (upd H q (.lst xs')) := Step.set (by rw [ho]; simp)
  exact k v _ st (re.put st ⟨xs', upd_same, rs'.mono st⟩) (dv'.mono st)
theorem e_ml {name : Str} {id : String} {r : V → List V → Hp → VK → Prop} {R : RM} {apos cpos : Pos} (m : MTL X.K r R)
    (raw : ∀ {to : TE} {t : TA}, PE X o to → PA X (e :: es) t → PE X (.Call (.Attribute o name apos) (e :: es) [] cpos) (tBM X.K "list" r to t)) (ho : PE X o (gE X.K An go)) (ha : PA X (e :: es) (gA X.K An gas)) :
    PE X (.Call (.Attribute o name apos) (e :: es) [] cpos) (gE X.K An (gMl R go gas)) := (raw ho ha).imp fun σ H Q ⟨s, h, P, re, l, g, k⟩ => by
  refine ⟨s, h, _, re, l, g, fun x H1 d h1 s1 re1 dx ⟨q, ds0, ed, ho1, g1⟩ => ?_⟩
  subst ed
  cases dx
  obtain ⟨xs, hx, rs⟩ := re1 q _ ho1
  refine ⟨Or.inl ⟨rfl, xs, .inl (.inl hx)⟩, s, h1, _, re1, l.mono s1, g1, fun vs H2 es h2 s2 re2 dv ⟨ds, ds', c, ho2, hr, pp⟩ => ?_⟩
  exact ml_fin m re2 ho2 dv hr fun v H' st re3 dv3 => k v H' c _ ((s1.trans s2).trans st) re3 dv3 pp
theorem e_ml0 {name : Str} {id : String} {r : V → List V → Hp → VK → Prop} {R : RM} {apos cpos : Pos} (m : MTL X.K r R)
    (raw : ∀ {to : TE}, PE X o to → PE X (.Call (.Attribute o name apos) [] [] cpos) (tBM0 X.K "list" r to)) (ho : PE X o (gE X.K An go)) :
    PE X (.Call (.Attribute o name apos) [] [] cpos) (gE X.K An (gMl R go aNil)) := (raw ho).imp fun σ H Q ⟨s, h, P, re, l, g, k⟩ => by
  refine ⟨s, h, _, re, l, g, fun x H1 d h1 s1 re1 dx ⟨q, ds0, ed, ho1, g1⟩ => ?_⟩
  subst ed
  cases dx
  obtain ⟨xs, hx, rs⟩ := re1 q _ ho1
  obtain ⟨ds, ds', c, ho2, hr, pp⟩ := g1
  exact ⟨Or.inl ⟨rfl, xs, .inl (.inl hx)⟩, ml_fin m re1 ho2 .nil hr fun v H' st re3 dv3 => k v H' c _ (s1.trans st) re3 dv3 pp⟩
def RApp : RM := fun _ ds es ds' c => ∃ d, es = [d] ∧ ds.length < sizeLine ∧ ds' = ds ++ [d] ∧ c = .non
theorem mApp {K : Fg} : MTL K rAppend RApp := by
  intro q xs vs ds es ds' c H h Q re hx rs dvx hr k
  obtain ⟨d, rfl, hz, rfl, rfl⟩ := hr
  obtain ⟨v, rfl, dv⟩ := dvs1 dvx
  exact ⟨q, xs, v, rfl, rfl, hx, by rw [rs.length]; exact hz, k _ _ (rs.append (.cons dv .nil)) .non⟩
theorem e_append {apos cpos : Pos} (ho : PE X o (gE X.K An go)) (ha : PA X [e] (gA X.K An gas)) (raw : ∀ {to : TE} {t : TA}, PE X o to → PA X [e] t → PE X (.Call (.Attribute o "append" apos) [e] [] cpos) (tBM X.K "list" rAppend to t) := by
      intro to t h1 h2; exact pe_bm PySem.F.plainAttrs_list PySem.F.slot_list_append PySem.F.type_list_append mt_append h1 h2) : PE X (.Call (.Attribute o "append" apos) [e] [] cpos) (gE X.K An (gMl RApp go gas)) := e_ml (id := "list.append") mApp raw ho ha
def RExt : RM := fun h ds es ds' c => ∃ d zs, es = [d] ∧ vw h d = .lst zs ∧ ds.length + zs.length ≤ sizeLine ∧ ds' = ds ++ zs ∧ c = .non
theorem mExt {K : Fg} : MTL K rExtend RExt := by
  intro q xs vs ds es ds' c H h Q re hx rs dvx hr k
  obtain ⟨d, zs, rfl, ev, hz, rfl, rfl⟩ := hr
  obtain ⟨v, rfl, dv⟩ := dvs1 dvx
  obtain ⟨b, ys, rfl, hb, rb⟩ := vw_lst re dv ev
  exact ⟨q, b, xs, ys, rfl, rfl, hx, hb, by rw [rs.length, rb.length]; exact hz, k _ _ (rs.append rb) .non⟩
theorem e_extend {apos cpos : Pos} (ho : PE X o (gE X.K An go)) (ha : PA X [e] (gA X.K An gas)) (raw : ∀ {to : TE} {t : TA}, PE X o to → PA X [e] t → PE X (.Call (.Attribute o "extend" apos) [e] [] cpos) (tBM X.K "list" rExtend to t) := by
      intro to t h1 h2; exact pe_bm PySem.F.plainAttrs_list PySem.F.slot_list_extend PySem.F.type_list_extend mt_extend h1 h2) : PE X (.Call (.Attribute o "extend" apos) [e] [] cpos) (gE X.K An (gMl RExt go gas)) := e_ml (id := "list.extend") mExt raw ho ha
theorem Dvs.eraseIdx {K : Fg} {h : GH} {H : Hp} : ∀ {vs : List V} {ds : List D} (i : Nat), Dvs K h H vs ds → Dvs K h H (vs.eraseIdx i) (ds.eraseIdx i)
  | _, _, _, .nil => .nil
  | _, _, 0, .cons _ t => t
  | _, _, i + 1, .cons r t => .cons r (Dvs.eraseIdx i t)
/-- xs.pop(i), 0 ≤ i -/
def RPopAt : RM := fun _ ds es ds' c => ∃ i : Nat, es = [.int (i : Int)] ∧ ds[i]? = some c ∧ i < 1000000 ∧ ds' = ds.eraseIdx i
theorem mPopAt {K : Fg} : MTL K rPopAt RPopAt := by
  intro q xs vs ds es ds' c H h Q re hx rs dvx hr k
  obtain ⟨i, rfl, hi, hb, rfl⟩ := hr
  obtain ⟨v, rfl, dv⟩ := dvs1 dvx
  cases dv
  obtain ⟨v, hv, dv⟩ := rs.get hi
  have hl : i < xs.length := (List.getElem?_eq_some_iff.mp hv).1
  refine ⟨q, xs, i, i, v, rfl, rfl, hx, by omega, by omega, ?_, hv, k _ _ (rs.eraseIdx i) dv⟩
  unfold seqIndex?
  simp
  omega
theorem e_popAt {apos cpos : Pos} (ho : PE X o (gE X.K An go)) (ha : PA X [e] (gA X.K An gas)) (raw : ∀ {to : TE} {t : TA}, PE X o to → PA X [e] t → PE X (.Call (.Attribute o "pop" apos) [e] [] cpos) (tBM X.K "list" rPopAt to t) := by
      intro to t h1 h2; exact pe_bm PySem.F.plainAttrs_list PySem.F.slot_list_pop PySem.F.type_list_pop mt_popAt h1 h2) : PE X (.Call (.Attribute o "pop" apos) [e] [] cpos) (gE X.K An (gMl RPopAt go gas)) := e_ml (id := "list.pop") mPopAt raw ho ha
def RClear : RM := fun _ ds es ds' c => es = [] ∧ ds' = [] ∧ c = .non
theorem mClear {K : Fg} : MTL K rClear RClear := by
  intro q xs vs ds es ds' c H h Q re hx rs dvx hr k
  obtain ⟨rfl, rfl, rfl⟩ := hr
  cases dvx
  exact ⟨q, xs, rfl, rfl, hx, k _ _ .nil .non⟩
theorem e_clear {apos cpos : Pos} (ho : PE X o (gE X.K An go)) (raw : ∀ {to : TE}, PE X o to → PE X (.Call (.Attribute o "clear" apos) [] [] cpos) (tBM0 X.K "list" rClear to) := by
      intro to h1; exact pe_bm0 PySem.F.plainAttrs_list PySem.F.slot_list_clear PySem.F.type_list_clear mt_clear h1) : PE X (.Call (.Attribute o "clear" apos) [] [] cpos) (gE X.K An (gMl RClear go aNil)) := e_ml0 (id := "list.clear") mClear raw ho
/-- o[i] = e, o an owned list -/
def tgSub (go gi : gTE) : gTG := fun d s h P => go s h fun o h1 => ∃ q, o = .ref q ∧ gi s h1 fun i h2 => ∃ ds k j, i = .int k ∧ h2 q = some (.lst ds) ∧ ixN ds.length k = some j ∧ P s (put h2 q (.lst (ds.set j d)))
theorem g_sub {i : Expr} {gi : gTE} (ho : PE X o (gE X.K An go)) (hi : PE X i (gE X.K An gi))
    (ha : ∀ v, assign (.Subscript o i pos) X.env v = (do
      let ov ← holding [v] (eval o X.env)
      let iv ← holding [v, ov] (eval i X.env)
      standAt pos
      holding [v, ov, iv] (setItem ov iv v)
      release [v, ov, iv] []) := by intro _; rfl) : PG X (.Subscript o i pos) (gG X.K An (tgSub go gi)) := (pg_sub ho hi set_list ha).imp fun v σ H Q ⟨d, s, h, P, re, l, dv, g, k⟩ => by
  refine ⟨s, h, _, re, l, g, fun x H1 a h1 s1 re1 dx ⟨q, ea, g1⟩ => ?_⟩
  subst ea
  cases dx
  refine ⟨s, h1, _, re1, l.mono s1, g1, fun y H2 b h2 s2 re2 dy ⟨ds, kk, j, eb, ho2, hj, pp⟩ => ?_⟩
  subst eb
  cases dy
  obtain ⟨xs, hx, rs⟩ := re2 q _ ho2
  have st : Step h2 H2 (put h2 q (GO.lst (ds.set j d))) (upd H2 q (.lst (xs.set j v))) := Step.set (by rw [ho2]; simp)
  have dv2 := (dv.mono (s1.trans s2)).mono st
  refine ⟨q, xs, kk, j, rfl, rfl, hx, by rw [rs.length]; exact hj, ?_⟩
  exact k σ _ s _ ((s1.trans s2).trans st) (re2.put st ⟨_, upd_same, Dvs.set dv2 j (rs.mono st)⟩) (l.mono ((s1.trans s2).trans st)) pp
/-! ### list(e), tuple(e) -/
theorem vals_get : ∀ {xs : List V} {us : List Value}, xs.length = us.length → (∀ (i : Nat) (v : V), xs[i]? = some v → ∃ u, us[i]? = some u ∧ RelV v u) → Vals xs us
  | [], [], _, _ => .nil
  | x :: xs, u :: us, e, h => by
    refine .cons ?_ (vals_get (by simpa using e) fun i v hv => h (i + 1) v (by simpa using hv))
    obtain ⟨u', e1, r⟩ := h 0 x rfl
    cases e1
    exact r
  | [], _ :: _, e, _ => by cases e
  | _ :: _, [], e, _ => by cases e
theorem signs_vals {x : Str} {acc : Array Value} (h : ItemsOf (SignAt x) acc x.cps.size) : Vals (x.cps.toList.map fun c => V.str ⟨#[c]⟩) acc.toList := by
  refine vals_get (by rw [List.length_map, Array.length_toList, Array.length_toList, h.1]) fun i v hv => ?_
  rw [List.getElem?_map] at hv
  obtain ⟨c, hc, rfl⟩ := Option.map_eq_some_iff.mp hv
  have hi : i < x.cps.size := by
    have := (List.getElem?_eq_some_iff.mp hc).1
    simpa using this
  have hj : i < acc.size := by rw [h.1]; exact hi
  refine ⟨acc[i], by simp [hj], ?_⟩
  obtain ⟨c', t, e1, e2⟩ := h.2 i acc[i] (by simp [hj])
  rw [Array.getElem?_toList] at hc
  rw [hc] at e1
  cases e1
  exact ⟨t, e2⟩
theorem call_list_txt (hc : X.calm = true) : CallR X (.type "list") (fun xs H Q => ∃ x : Str, xs = [.str x] ∧ x.length ≤ sizeLine ∧ ∀ l, H l = none → Q (.ref l) (upd H l (.lst (x.cps.toList.map fun c => V.str ⟨#[c]⟩)))) := by
  intro pins s σ H xs us Q I r h
  obtain ⟨x, rfl, hz, q⟩ := h
  obtain ⟨u, rfl, rx⟩ := vals1 r
  obtain ⟨t, rfl⟩ := rx
  refine PySem.call_list_str (I.ok.hd hc) x t (fun h' tk acc' c' kp e ia => ?_) hz
  have rv := signs_vals ia
  exact ⟨.ref s.heap.objs.size, _, I.laid (t' := tk) kp (Nat.le_refl _) (show ObjOk X.prog X.w _ h' _ (.lst _) from ⟨by rw [List.length_map, Array.length_toList]; exact hz, acc'.toList, c', rv, by simpa using e⟩), rfl, q _ (I.hok.fresh (Nat.le_refl _))⟩
theorem Dvs.signs {K : Fg} {h : GH} {H : Hp} : ∀ cs : List Nat, Dvs K h H (cs.map fun c => V.str ⟨#[c]⟩) (cs.map fun c => D.str ⟨#[c]⟩)
  | [] => .nil
  | _ :: r => .cons (.str _) (Dvs.signs r)
def fList (ga : gTA) : gTA := fun s h P => ga s h fun es h1 => ∃ d ds, es = [d] ∧ (vw h1 d = .lst ds ∨ vw h1 d = .tup ds ∨ ∃ x : Str, d = .str x ∧ x.length ≤ sizeLine ∧ ds = x.cps.toList.map fun c => D.str ⟨#[c]⟩) ∧ P ds h1
theorem f_list (hm : X.mg "list" = none) (ha : PA X [e] (gA X.K An gas)) (hg : Gl X "list" := by rfl) (he : starEach [e] X.env = [(false, eval e X.env)] := by rfl) (hc : X.calm = true := by rfl) : PE X (.Call (.Name "list" p) [e] [] pos) (gF X.K An (fList gas)) :=
  (pe_callTy (crOr call_list_of (call_list_txt hc)) hg hm (by decide +kernel) ha (by decide) (by decide) he (by rfl)).imp fun σ H Q ⟨s, h, P, re, l, g, k⟩ => by
    refine ⟨s, h, _, re, l, g, fun vs H1 es h1 s1 re1 dvx ⟨d, ds, ee, hv, pp⟩ => ?_⟩
    subst ee
    obtain ⟨v, rfl, dv⟩ := dvs1 dvx
    rcases hv with hv | hv | ⟨x, hv, hz, hd⟩
    · obtain ⟨q, xs, rfl, hx, rs⟩ := vw_lst re1 dv hv
      exact .inl ⟨q, xs, rfl, .inl (.inl (.inl hx)), fun t n => k t ds _ h1 (re1.free n) (s1.trans (Step.newO n)) (re1.newO n rs) pp⟩
    · obtain ⟨q, xs, rfl, hx, rs⟩ := vw_tup dv hv
      exact .inl ⟨q, xs, rfl, .inr hx.sq, fun t n => k t ds _ h1 (re1.free n) (s1.trans (Step.newO n)) (re1.newO n rs) pp⟩
    · subst hv hd
      cases dv
      exact .inr ⟨x, rfl, hz, fun t n => k t _ _ h1 (re1.free n) (s1.trans (Step.newO n)) (re1.newO n (Dvs.signs _)) pp⟩
def RTuple : RC2 := fun h ds c => ∃ d xs, ds = [d] ∧ (vw h d = .lst xs ∨ vw h d = .tup xs) ∧ c = .tup xs
theorem e_tuple (hm : X.mg "tuple" = none) (ha : PA X [e] (gA X.K An gas)) (hg : Gl X "tuple" := by rfl) (he : starEach [e] X.env = [(false, eval e X.env)] := by rfl) : PE X (.Call (.Name "tuple" p) [e] [] pos) (gE X.K An (gCB RTuple gas)) :=
  e_ct call_tuple_of (by
    intro vs H h ds c Q re dvx hr k
    obtain ⟨d, xs, rfl, hv, rfl⟩ := hr
    obtain ⟨v, rfl, dv⟩ := dvs1 dvx
    rcases hv with hv | hv
    · obtain ⟨q, ys, rfl, hx, rs⟩ := vw_lst re dv hv
      exact ⟨q, ys, rfl, .inl ⟨.inl (.inl hx), fun t n => k _ _ (Step.new n) (re.new n) (rs.tup_new re n)⟩⟩
    · obtain ⟨q, ys, rfl, hx, rs⟩ := vw_tup dv hv
      exact ⟨q, ys, rfl, .inr ⟨hx.sq, k _ H (Step.refl h H) re (.tup hx rs)⟩⟩) hm (by decide +kernel) ha hg (by decide) (by decide) he (by rfl)
/-! ### x op= e -/
def sAug (i : Nat) (R : R3) (ga : gTE) : gTS := fun N s h => ∃ x, s[i]? = some (some x) ∧ ga s h fun y h1 => ∃ c, R h1 x y c ∧ N.nx (s.set i (some c)) h1
theorem s_aug {i : Nat} {x : Str} {op : Operator} {ti : TIp} {R : R3} {pos' : Pos} (o : OPL X.K ti R) (hp : PIp X op ti) (hN : X.N.Nodup) (he : PE X e (gE X.K An ga)) (hi : X.N[i]? = some x := by rfl) (hx : Loc X.env.scope x := by first | exact Or.inl rfl | exact Or.inr rfl) (hf : X.fn x = true ∨ X.env.scope.names.lookup x = some .local := by first | exact .inl rfl | exact .inr rfl) :
    PS X (.AugAssign (.Name x pos') op e pos) (gS X.K An (sAug i R ga)) := (ps_aug hN hi hx he hp hf).imp fun De σ H ⟨s, h, N, re, l, ⟨x, ex, g⟩, m⟩ => by
  obtain ⟨v, hv, dv⟩ := l.2 i x ex
  refine ⟨v, hv, s, h, _, re, l, g, fun y H1 b h1 s1 re1 dy ⟨c, hr, pp⟩ => ?_⟩
  exact o v y H1 h1 x b c _ re1 (dv.mono s1) dy hr fun z H2 st re2 dz => m.nx _ H2 _ h1 (s1.trans st) re2 ((l.mono (s1.trans st)).set dz) pp
theorem s_augAdd {i : Nat} {x : Str} {pos' : Pos} (hN : X.N.Nodup) (he : PE X e (gE X.K An ga)) (hi : X.N[i]? = some x := by rfl) (hx : Loc X.env.scope x := by first | exact Or.inl rfl | exact Or.inr rfl) (hf : X.fn x = true ∨ X.env.scope.names.lookup x = some .local := by first | exact .inl rfl | exact .inr rfl) :
    PS X (.AugAssign (.Name x pos') .Add e pos) (gS X.K An (sAug i (fun h a b c => match vw h a, vw h b with
    | .int i, .int j => c = .int (i + j)
    | _, _ => False) ga)) := s_aug (ti := rI0 fun i j => .int (i + j)) (opl_int0 fun _ _ _ _ => .int _) iop_add hN he hi hx hf
theorem iop_mulA : OpR X (inplaceOp .Mult) (rI (fun i j => CMul i j ∨ CMulW i j) fun i j => .int (i * j)) := opI fun _ _ _ _ _ _ _ hc q => imul_int q (hc.elim (fun z => z.ok) (fun z => z.ok))
theorem s_augMul {i : Nat} {x : Str} {pos' : Pos} (hN : X.N.Nodup) (he : PE X e (gE X.K An ga)) (hi : X.N[i]? = some x := by rfl) (hx : Loc X.env.scope x := by first | exact Or.inl rfl | exact Or.inr rfl) (hf : X.fn x = true ∨ X.env.scope.names.lookup x = some .local := by first | exact .inl rfl | exact .inr rfl) :
    PS X (.AugAssign (.Name x pos') .Mult e pos) (gS X.K An (sAug i (fun h a b c => match vw h a, vw h b with
    | .int i, .int j => (CMul i j ∨ CMulW i j) ∧ c = .int (i * j)
    | _, _ => False) ga)) := s_aug (ti := rI (fun i j => CMul i j ∨ CMulW i j) fun i j => .int (i * j)) (opl_int fun _ _ _ _ => .int _) iop_mulA hN he hi hx hf
end
/-! ### a def by its body -/
section
variable {P : Program} {w : World} {K : Fg} {mg : Str → Option Value} {base : Heap}
theorem gfun {x : Str} {st : Stmt} {f : Addr} {fd : FuncData} {N ps : List Str} {k : Nat} {S : GSpec} {g : gTS} (F : Fun K x x st f fd) (hm : mg x = some (.ref f)) (b : Binds K fd ps []) (sc : FnScope N ps (defScope st)) (len : ∀ ds h P, S ds h P → ds.length = ps.length)
    (hd : ∀ (cdv : Value) (A : Around) (outer : List Env) (s : Shared) (H : Hp) (E : XK), Room k (A.deeper (envOfC x (defScope st) s.heap.objs.size f cdv)) → PSs (cxOf CX0 P w K mg base N x (defScope st) f cdv A outer s H E).nox (defBody st) (gS K AN.top g))
    (hg : ∀ ds h P, S ds h P → g { nx := fun _ h' => P .non h', rt := P } (startG N ds) h) : Fc P w K mg base (k + 1) x S := by
  refine ⟨f, ?_, hm, F.kp⟩
  have ok : FnOk P w K mg base CX0 (k + 1) f fd ps (GSP K S) := by
    refine F.ok sc (fun vs H Q E ⟨ds, h, P, re, dv, s, _⟩ => by rw [dv.length]; exact len _ _ _ s) (fun cdv A outer s H vs Q E hr ⟨ds, h, P, re, dv, hs, kk⟩ => ⟨_, hd cdv A outer s H E hr, ?_⟩)
    exact ⟨startG N ds, h, _, re, Sl.begin dv trivial, hg ds h P hs, fun σ' H' s' h' st re' l' p => kk _ H' _ h' st re' .non p, fun v H' d h' st re' dv' p => kk v H' d h' st re' dv' p, fun _ _ _ _ _ _ _ z => z.elim, fun _ _ _ _ _ _ _ z => z.elim⟩
  have r := ok.raw b .nil
  exact r.imp fun vs H Q E q => by rw [List.append_nil]; exact q
end
end Gh

namespace Gh
open PySem L2
/-! ### comparisons as tests -/
section
variable {X : Cx} {An : AN} {a b c e : Expr} {es : List Expr} {ga gb gc : gTE} {gas : gTA} {pos p : Pos}
theorem tTest_of {K : Fg} {An : AN} {r : R2} {R : R3} (o : OPL K r R) (σ : St) (H : Hp) (Q : Bool → Hp → Prop) (q : gT K An (gB (gBin R ga gb)) σ H Q) : tTest (tOp r (gE K An ga) (gE K An gb)) σ H Q := by
  obtain ⟨s, h, P, re, l, g, k⟩ := q
  refine two o σ H _ ⟨s, h, _, re, l, g, fun v H1 d h1 s1 re1 dv ⟨z, e, p⟩ => ?_⟩
  subst e
  exact ⟨z, dv_bl dv, k z H1 h1 s1 re1 p⟩
theorem t_cmp {op : CmpOp} {r : R2} {R : R3} (ho : OpR X (compareOp op) r) (o : OPL X.K r R) (ha : PE X a (gE X.K An ga)) (hb : PE X b (gE X.K An gb)) (hm : behindInMarks op b = false) : PT X (.Compare a [op] [b] pos) (gT X.K An (gB (gBin R ga gb))) :=
  (pt_cmpR ho ha hb hm).imp fun σ H Q q => tTest_of o σ H Q q
theorem t_eq {k : Nat} (hr : Room k X.A) (ha : PE X a (gE X.K An ga)) (hb : PE X b (gE X.K An gb)) : PT X (.Compare a [.Eq] [b] pos) (gT X.K An (gB (gBin (REq false) ga gb))) := t_cmp (op_eq.or (op_eqD hr.units)) lEq ha hb (nomark _)
theorem t_ne {k : Nat} (hr : Room k X.A) (ha : PE X a (gE X.K An ga)) (hb : PE X b (gE X.K An gb)) : PT X (.Compare a [.NotEq] [b] pos) (gT X.K An (gB (gBin (REq true) ga gb))) := t_cmp (op_ne.or (op_neD hr.units)) lNe ha hb (nomark _)
theorem t_lt (ha : PE X a (gE X.K An ga)) (hb : PE X b (gE X.K An gb)) : PT X (.Compare a [.Lt] [b] pos) (gT X.K An (gB (gBin (RCmp fun i j => decide (i < j)) ga gb))) := t_cmp op_lt lCmp ha hb (nomark _)
theorem t_le (ha : PE X a (gE X.K An ga)) (hb : PE X b (gE X.K An gb)) : PT X (.Compare a [.LtE] [b] pos) (gT X.K An (gB (gBin (RCmp fun i j => decide (i ≤ j)) ga gb))) := t_cmp op_le lCmp ha hb (nomark _)
theorem t_gt (ha : PE X a (gE X.K An ga)) (hb : PE X b (gE X.K An gb)) : PT X (.Compare a [.Gt] [b] pos) (gT X.K An (gB (gBin (RCmp fun i j => decide (j < i)) ga gb))) := t_cmp op_gt lCmp ha hb (nomark _)
theorem t_ge (ha : PE X a (gE X.K An ga)) (hb : PE X b (gE X.K An gb)) : PT X (.Compare a [.GtE] [b] pos) (gT X.K An (gB (gBin (RCmp fun i j => decide (j ≤ i)) ga gb))) := t_cmp op_ge lCmp ha hb (nomark _)
theorem t_isN {j} {p : Pos} (ha : PE X a (gE X.K An ga)) : PT X (.Compare a [.Is] [.Constant .none j p] pos) (gT X.K An (gB (gUn (RIsN false) ga))) :=
  (pt_cmpR op_isN ha pe_non (nomark _)).imp fun σ H Q ⟨s, h, P, re, l, g, k⟩ => ⟨s, h, _, re, l, g, fun x H1 a h1 s1 re1 dx ⟨c, hr, z, e, p⟩ => by
    subst hr
    cases e
    refine ⟨rfl, _, rfl, ?_⟩
    rw [dv_isN dx]
    exact k _ H1 h1 s1 re1 p⟩
theorem t_notN {j} {p : Pos} (ha : PE X a (gE X.K An ga)) : PT X (.Compare a [.IsNot] [.Constant .none j p] pos) (gT X.K An (gB (gUn (RIsN true) ga))) :=
  (pt_cmpR op_notN ha pe_non (nomark _)).imp fun σ H Q ⟨s, h, P, re, l, g, k⟩ => ⟨s, h, _, re, l, g, fun x H1 a h1 s1 re1 dx ⟨c, hr, z, e, p⟩ => by
    subst hr
    cases e
    refine ⟨rfl, _, rfl, ?_⟩
    rw [dv_isN dx]
    exact k _ H1 h1 s1 re1 p⟩
theorem t_chain {op op' : CmpOp} {r r' : R2} {R R' : R3} (ho : OpR X (compareOp op) r) (ho' : OpR X (compareOp op') r') (o : OPL X.K r R) (o' : OPL X.K r' R') (ha : PE X a (gE X.K An ga)) (hb : PE X b (gE X.K An gb)) (hc : PE X c (gE X.K An gc)) (hm : lastMarks [op, op'] [b, c] = false) :
    PT X (.Compare a [op, op'] [b, c] pos) (gT X.K An (gB (gChain R R' ga gb gc))) := (pt_chain ho ho' ha hb hc hm).imp fun σ H Q ⟨s, h, P, re, l, g, k⟩ => by
  refine ⟨s, h, _, re, l, g, fun x H1 a h1 s1 re1 dx g1 => ?_⟩
  refine ⟨s, h1, _, re1, l.mono s1, g1, fun y H2 b h2 s2 re2 dy ⟨z, hz, g2⟩ => ?_⟩
  refine o x y H2 h2 a b (.bl z) _ re2 (dx.mono s2) dy hz fun v H3 s3 re3 dv => ⟨z, dv_bl dv, ?_⟩
  have s13 := (s1.trans s2).trans s3
  cases z with
  | true =>
    rw [if_pos rfl] at g2
    rw [if_pos rfl]
    refine ⟨s, h2, _, re3, l.mono s13, g2, fun y' H4 c h4 s4 re4 dy' ⟨y2, hy, zz, ez, p⟩ => ?_⟩
    subst ez
    exact o' y y' H4 h4 b c _ _ re4 (dy.mono (s3.trans s4)) dy' hy fun v H5 s5 re5 dv => ⟨zz, dv_bl dv, k zz H5 h4 ((s13.trans s4).trans s5) re5 p⟩
  | false =>
    rw [if_neg Bool.false_ne_true] at g2
    rw [if_neg Bool.false_ne_true]
    obtain ⟨zz, ez, p⟩ := g2
    cases ez
    exact ⟨false, rfl, k _ H3 h2 s13 re3 p⟩
/-! ### in -/
def atomV : D → Option V
  | .non => some .non
  | .bl b => some (.bl b)
  | .int i => some (.int i)
  | .str x => some (.str x)
  | _ => none
def atomVs : List D → Option (List V)
  | [] => some []
  | d :: r => (atomV d).bind fun x => (atomVs r).map (x :: ·)
theorem Dv.atom {K : Fg} {h : GH} {H : Hp} {v x : V} {d : D} (k : Dv K h H v d) (e : atomV d = some x) : v = x ∧ flatV x = true := by
  cases k <;> cases e <;> exact ⟨rfl, rfl⟩
theorem Dvs.atoms {K : Fg} {h : GH} {H : Hp} : ∀ {vs xs : List V} {ds : List D}, Dvs K h H vs ds → atomVs ds = some xs → vs = xs ∧ xs.all flatV = true
  | _, _, _, .nil, e => by cases e; exact ⟨rfl, rfl⟩
  | _, _, _, .cons (d := d) (ds := ds) a r, e => by
    rw [atomVs] at e
    cases q : atomV d with
    | none => rw [q] at e; cases e
    | some x =>
      cases q2 : atomVs ds with
      | none => rw [q, q2] at e; cases e
      | some xs =>
        rw [q, q2] at e
        cases e
        obtain ⟨rfl, h1⟩ := a.atom q
        obtain ⟨rfl, h2⟩ := Dvs.atoms r q2
        exact ⟨rfl, by rw [List.all_cons, h1, h2]; rfl⟩
/-- x in (a, b ..), of atoms; c in a text, c one sign -/
def RIn (neg : Bool) : R3 := fun h a b c => match vw h b with
  | .lst ds => ∃ x xs, atomV a = some x ∧ atomVs ds = some xs ∧ c = .bl (if neg then !inV x xs else inV x xs)
  | .tup ds => ∃ x xs, atomV a = some x ∧ atomVs ds = some xs ∧ c = .bl (if neg then !inV x xs else inV x xs)
  | .str y => ∃ k : Nat, a = .str ⟨#[k]⟩ ∧ c = .bl (if neg then !decide (k ∈ y.cps.toList) else decide (k ∈ y.cps.toList))
  | _ => False
def rInA (K : Fg) : R2 := fun x y H Q => rIn K false x y H Q ∨ ∃ (c : Nat) (z : Str), x = .str ⟨#[c]⟩ ∧ y = .str z ∧ Q (.bl (decide (c ∈ z.cps.toList))) H
def rNotInA (K : Fg) : R2 := fun x y H Q => rIn K true x y H Q ∨ ∃ (c : Nat) (z : Str), x = .str ⟨#[c]⟩ ∧ y = .str z ∧ Q (.bl (!decide (c ∈ z.cps.toList))) H
theorem lIn {K : Fg} : OPL K (rInA K) (RIn false) := by
  intro x y H h a b c Q re dx dy hr k
  unfold RIn at hr
  split at hr
  · rename_i ds eb
    obtain ⟨x', xs, e1, e2, rfl⟩ := hr
    obtain ⟨p, ys, e3, q, rs⟩ := vw_lst re dy eb
    obtain ⟨rfl, f1⟩ := dx.atom e1
    obtain ⟨rfl, f2⟩ := rs.atoms e2
    exact .inl ⟨p, ys, e3, .inl (.inl (.inl q)), f1, f2, k _ H (Step.refl h H) re (.bl _)⟩
  · rename_i ds eb
    obtain ⟨x', xs, e1, e2, rfl⟩ := hr
    obtain ⟨p, ys, e3, q, rs⟩ := vw_tup dy eb
    obtain ⟨rfl, f1⟩ := dx.atom e1
    obtain ⟨rfl, f2⟩ := rs.atoms e2
    exact .inl ⟨p, ys, e3, .inr q.sq, f1, f2, k _ H (Step.refl h H) re (.bl _)⟩
  · rename_i y' eb
    obtain ⟨kk, rfl, rfl⟩ := hr
    cases dx
    exact .inr ⟨kk, y', rfl, vw_str dy eb, k _ H (Step.refl h H) re (.bl _)⟩
  · exact hr.elim
theorem lNotIn {K : Fg} : OPL K (rNotInA K) (RIn true) := by
  intro x y H h a b c Q re dx dy hr k
  unfold RIn at hr
  split at hr
  · rename_i ds eb
    obtain ⟨x', xs, e1, e2, rfl⟩ := hr
    obtain ⟨p, ys, e3, q, rs⟩ := vw_lst re dy eb
    obtain ⟨rfl, f1⟩ := dx.atom e1
    obtain ⟨rfl, f2⟩ := rs.atoms e2
    exact .inl ⟨p, ys, e3, .inl (.inl (.inl q)), f1, f2, k _ H (Step.refl h H) re (.bl _)⟩
  · rename_i ds eb
    obtain ⟨x', xs, e1, e2, rfl⟩ := hr
    obtain ⟨p, ys, e3, q, rs⟩ := vw_tup dy eb
    obtain ⟨rfl, f1⟩ := dx.atom e1
    obtain ⟨rfl, f2⟩ := rs.atoms e2
    exact .inl ⟨p, ys, e3, .inr q.sq, f1, f2, k _ H (Step.refl h H) re (.bl _)⟩
  · rename_i y' eb
    obtain ⟨kk, rfl, rfl⟩ := hr
    cases dx
    exact .inr ⟨kk, y', rfl, vw_str dy eb, k _ H (Step.refl h H) re (.bl _)⟩
  · exact hr.elim
theorem e_in (ha : PE X a (gE X.K An ga)) (hb : PE X b (gE X.K An gb)) (hm : behindInMarks .In b = false := by rfl) : PE X (.Compare a [.In] [b] pos) (gE X.K An (gBin (RIn false) ga gb)) := e_cmp (op_in_seq.or op_in_sign) lIn ha hb hm
theorem e_notIn (ha : PE X a (gE X.K An ga)) (hb : PE X b (gE X.K An gb)) (hm : behindInMarks .NotIn b = false := by rfl) : PE X (.Compare a [.NotIn] [b] pos) (gE X.K An (gBin (RIn true) ga gb)) := e_cmp (op_notIn_seq.or op_notIn_sign) lNotIn ha hb hm
theorem t_in (ha : PE X a (gE X.K An ga)) (hb : PE X b (gE X.K An gb)) (hm : behindInMarks .In b = false := by rfl) : PT X (.Compare a [.In] [b] pos) (gT X.K An (gB (gBin (RIn false) ga gb))) := t_cmp (op_in_seq.or op_in_sign) lIn ha hb hm
theorem t_notIn (ha : PE X a (gE X.K An ga)) (hb : PE X b (gE X.K An gb)) (hm : behindInMarks .NotIn b = false := by rfl) : PT X (.Compare a [.NotIn] [b] pos) (gT X.K An (gB (gBin (RIn true) ga gb))) := t_cmp (op_notIn_seq.or op_notIn_sign) lNotIn ha hb hm
/-- return a new list that is owned by whoever gets it -/
def sRetO (g : gTA) : gTS := fun N s h => g s h fun ds h1 => ∀ p, h1 p = none → N.rt (.ref p) (put h1 p (.lst ds))
theorem s_retO (he : PE X e (gF X.K An gas)) : PS X (.Return (some e) pos) (gS X.K An (sRetO gas)) := (ps_ret he).imp fun De σ H ⟨s, h, N, re, l, g, m⟩ => by
  refine ⟨s, h, _, re, l, g, fun t ds H1 h1 n s1 re1 p => ?_⟩
  exact m.rt _ H1 _ _ s1 re1 (.ref t) (p t n)
def sRetN : gTS := fun N _ h => N.rt .non h
theorem s_retN : PS X (.Return none pos) (gS X.K An sRetN) := ps_retN.imp fun De σ H ⟨s, h, N, re, l, g, m⟩ => m.rt _ H _ h (Step.refl h H) re .non g
end
abbrev RAddI : R3 := fun h a b c => match vw h a, vw h b with
    | .int i, .int j => c = .int (i + j)
    | _, _ => False
abbrev RMulI : R3 := fun h a b c => match vw h a, vw h b with
    | .int i, .int j => (CMul i j ∨ CMulW i j) ∧ c = .int (i * j)
    | _, _ => False
end Gh

namespace Gh
open PySem PySem.Spec PyProof.Rows L2
section
variable {X : Cx} {An : AN} {a b c e : Expr} {es : List Expr} {ga gb gc : gTE} {gas : gTA} {pos p : Pos}
/-- a, b = a list -/
def tgUnl (n : Nat) (t : gTGs) : gTG := fun d s h P => ∃ ds, d = .lst ds ∧ ds.length = n ∧ t ds s h P
theorem g_unl {t : gTGs} {k n : Nat} (hc : X.calm = true) (h : PGs X es (gGs X.K An t)) (hn : (assignEach es X.env).length = n := by rfl) (hst : (assignEach es X.env).findIdx? (·.1) = none := by rfl) : PG X (.Tuple es k pos) (gG X.K An (tgUnl n t)) := (pg_unl hc h hn hst).imp fun v σ H Q ⟨d, s, h, P, re, l, dv, ⟨ds, e, hl, g⟩, k⟩ => by
  subst e
  cases dv with
  | lst nn t rs => exact ⟨_, _, rfl, .inl (.inl t), by rw [rs.length]; exact hl, ds, s, h, P, re, l, rs, g, k⟩
end
section
variable {P : Program} {w : World} {K : Fg} {mg : Str → Option Value} {base : Heap}
/-- def f(*v) -/
theorem gfunStar {x pv : Str} {st : Stmt} {f : Addr} {fd : FuncData} {N : List Str} {k : Nat} {S : GSpec} {g : gTS} (F : Fun K x x st f fd) (hm : mg x = some (.ref f)) (sc : FnScope N [pv] (defScope st))
    (hb : ∀ (kV doc pm : Value) (an : Option Addr) (cdv ct : Value) (rest : List Value), bindArgs (PySem.W.fnOf x x (defArgs st) (defBody st) (defScope st) .none kV doc pm an cdv ct) ⟨rest, []⟩ = (newTuple rest >>= fun t => pure [(pv, t)]))
    (len : ∀ ds h P, S ds h P → ds.length ≤ sizeLine)
    (hd : ∀ (cdv : Value) (A : Around) (outer : List Env) (s : Shared) (H : Hp) (E : XK), Room k (A.deeper (envOfC x (defScope st) s.heap.objs.size f cdv)) → PSs (cxOf CX0 P w K mg base N x (defScope st) f cdv A outer s H E).nox (defBody st) (gS K AN.top g))
    (hg : ∀ ds h P, S ds h P → g { nx := fun _ h' => P .non h', rt := P } (startG N [.tup ds]) h) : Fc P w K mg base (k + 1) x S := by
  refine ⟨f, ?_, hm, F.kp⟩
  obtain ⟨oc, od, kV, doc, pm, an, cdv, ct, osl, rfl, lk, hcd⟩ := F.ex
  have r : FnR P w K mg base CX0 (k + 1) f _ := StX.fn_star (ps := []) (pv := pv) (sp := GSP K fun ds h P => ∃ ds', ds = [.tup ds'] ∧ S ds' h P) lk hcd sc StX.cxUp_none (fun us rest hl => by
      have e : us = [] := List.eq_nil_of_length_eq_zero hl
      subst e
      exact hb kV doc pm an cdv ct rest) (fun A outer s H vs Q E hr ⟨ds, h, P, re, dv, ⟨ds', e, hs⟩, kk⟩ => by
      subst e
      refine ⟨_, (hd cdv A outer s H E hr).nox, ?_⟩
      exact ⟨startG N [.tup ds'], h, _, re, Sl.begin dv trivial, hg ds' h P hs, fun σ' H' s' h' st re' l' p => kk _ H' _ h' st re' .non p, fun v H' d h' st re' dv' p => kk v H' d h' st re' dv' p, fun _ _ _ _ _ _ _ z => z.elim, fun _ _ _ _ _ _ _ z => z.elim⟩)
  refine r.imp fun vs H Q E ⟨ds, h, P, re, dv, hs, kk⟩ => ⟨[], vs, rfl, rfl, by rw [dv.length]; exact len _ _ _ hs, fun p n => ?_⟩
  exact ⟨[.tup ds], h, P, re.new n, .cons (dv.tup_new re n) .nil, ⟨ds, rfl, hs⟩, fun v H' d h' st re' dv' p => kk v H' d h' ((Step.new n).trans st) re' dv' p⟩
end
end Gh

namespace Gh
open PySem PySem.Spec PyProof.Rows L2
section
variable {X : Cx} {An : AN} {a b c e o : Expr} {es : List Expr} {ga gb gc go : gTE} {gas : gTA} {pos p : Pos}
/-- a new list that is owned -/
def gOw (g : gTA) : gTE := fun s h P => g s h fun ds h1 => ∀ p, h1 p = none → P (.ref p) (put h1 p (.lst ds))
theorem e_ow {g : gTA} (he : PE X e (gF X.K An g)) : PE X e (gE X.K An (gOw g)) := he.imp fun σ H Q ⟨s, h, P, re, l, g, k⟩ => ⟨s, h, _, re, l, g, fun p ds H' h1 n s1 re1 pp => k _ H' _ _ s1 re1 (.ref p) (pp p n)⟩

/-! ### methods of texts -/
def M1L (K : Fg) (r : V → List V → Hp → VK → Prop) (R : GH → Str → D → D → Prop) : Prop := ∀ z y H h b c Q, Rel K h H → Dv K h H y b → R h z b c → (∀ v H', Step h H h H' → Rel K h H' → Dv K h H' v c → Q v H') → r (.str z) [y] H Q
def gM1 (R : GH → Str → D → D → Prop) (go gb : gTE) : gTE := fun s h P => go s h fun a h1 => ∃ z, a = .str z ∧ gb s h1 fun b h2 => ∃ c, R h2 z b c ∧ P c h2
theorem m1_of {K : Fg} {An : AN} {r : V → List V → Hp → VK → Prop} {R : GH → Str → D → D → Prop} (o : M1L K r R) (σ : L2.St) (H : Hp) (Q : VK) (q : gE K An (gM1 R go gb) σ H Q) : tM1 r (gE K An go) (gE K An gb) σ H Q := by
  obtain ⟨s, h, P, re, l, g, k⟩ := q
  refine ⟨s, h, _, re, l, g, fun x H1 a h1 s1 re1 dx ⟨z, ea, g1⟩ => ?_⟩
  subst ea
  cases dx
  refine ⟨⟨z, rfl⟩, s, h1, _, re1, l.mono s1, g1, fun y H2 b h2 s2 re2 dy ⟨c, hc, p⟩ => ?_⟩
  exact o z y H2 h2 b c Q re2 dy hc fun v H' st re3 dv => k v H' c h2 ((s1.trans s2).trans st) re3 dv p
theorem Dvs.strs {K : Fg} {h : GH} {H : Hp} : ∀ {ys : List Str} {vs : List V}, Dvs K h H vs (ys.map D.str) → vs = ys.map V.str
  | [], _, k => by cases k; rfl
  | n :: r, _, k => by
    cases k with
    | cons a t =>
      cases a
      rw [Dvs.strs t]
      rfl
theorem Dvs.of_strs {K : Fg} {h : GH} {H : Hp} : ∀ ys : List Str, Dvs K h H (ys.map V.str) (ys.map D.str)
  | [] => .nil
  | n :: r => .cons (.str n) (Dvs.of_strs r)
def RJoin : GH → Str → D → D → Prop := fun h a b c => ∃ ys : List Str, (vw h b = .lst (ys.map .str) ∨ vw h b = .tup (ys.map .str)) ∧ (ys.map (·.length)).sum + ys.length * a.length ≤ 16777216 ∧ c = .str (Txt.join a ys)
theorem e_join {apos : Pos} (ho : PE X o (gE X.K An go)) (he : PE X e (gE X.K An gb)) (hs : starEach [e] X.env = [(false, eval e X.env)] := by rfl) (hbase : attributeBase o "join" X.env (eval o X.env) = eval o X.env := by rfl) (hline : (apos.endLine == pos.line) = true := by rfl) :
    PE X (.Call (.Attribute o "join" apos) [e] [] pos) (gE X.K An (gM1 RJoin go gb)) := (pe_join ho he hs hbase hline).imp (m1_of (R := RJoin) (by
  intro z y H h b c Q re dy hr k
  obtain ⟨ys, hv, hz, rfl⟩ := hr
  rcases hv with hv | hv
  · obtain ⟨p, xs, rfl, hx, rs⟩ := vw_lst re dy hv
    have e := rs.strs
    subst e
    exact ⟨z, p, ys, rfl, rfl, .inl (.inl (.inl hx)), hz, k _ H (Step.refl h H) re (.str _)⟩
  · obtain ⟨p, xs, rfl, hx, rs⟩ := vw_tup dy hv
    have e := rs.strs
    subst e
    exact ⟨z, p, ys, rfl, rfl, .inr hx.sq, hz, k _ H (Step.refl h H) re (.str _)⟩))
def RPart : GH → Str → D → D → Prop := fun _ a b c => ∃ y, b = .str y ∧ (y.length == 0) = false ∧ a.length ≤ sizeLine ∧ c = .tup [.str (Txt.partition a y).1, .str (Txt.partition a y).2.1, .str (Txt.partition a y).2.2]
theorem e_partition {apos : Pos} (ho : PE X o (gE X.K An go)) (he : PE X e (gE X.K An gb)) (hs : starEach [e] X.env = [(false, eval e X.env)] := by rfl) (hbase : attributeBase o "partition" X.env (eval o X.env) = eval o X.env := by rfl) (hline : (apos.endLine == pos.line) = true := by rfl) :
    PE X (.Call (.Attribute o "partition" apos) [e] [] pos) (gE X.K An (gM1 RPart go gb)) := (pe_partition ho he hs hbase hline).imp (m1_of (R := RPart) (by
  intro z y H h b c Q re dy hr k
  obtain ⟨y', rfl, h1, h2, rfl⟩ := hr
  cases dy
  exact ⟨z, y', rfl, rfl, h1, h2, fun p n => k _ _ (Step.new n) (re.new n) (Dvs.tup_new re (.cons (.str _) (.cons (.str _) (.cons (.str _) .nil))) n)⟩))
def RStarts : GH → Str → D → D → Prop := fun _ a b c => ∃ y, b = .str y ∧ c = .bl (Txt.startswith a y)
def REnds : GH → Str → D → D → Prop := fun _ a b c => ∃ y, b = .str y ∧ c = .bl (Txt.endswith a y)
theorem e_startswith {apos : Pos} (ho : PE X o (gE X.K An go)) (he : PE X e (gE X.K An gb)) (hs : starEach [e] X.env = [(false, eval e X.env)] := by rfl) (hbase : attributeBase o "startswith" X.env (eval o X.env) = eval o X.env := by rfl) (hline : (apos.endLine == pos.line) = true := by rfl) :
    PE X (.Call (.Attribute o "startswith" apos) [e] [] pos) (gE X.K An (gM1 RStarts go gb)) := (pe_m1 F.slot_str_startswith F.type_str_startswith mt_startswith ho he hs hbase hline).imp (m1_of (R := RStarts) (by
  intro z y H h b c Q re dy hr k
  obtain ⟨y', rfl, rfl⟩ := hr
  cases dy
  exact ⟨z, y', rfl, rfl, k _ H (Step.refl h H) re (.bl _)⟩))
theorem e_endswith {apos : Pos} (ho : PE X o (gE X.K An go)) (he : PE X e (gE X.K An gb)) (hs : starEach [e] X.env = [(false, eval e X.env)] := by rfl) (hbase : attributeBase o "endswith" X.env (eval o X.env) = eval o X.env := by rfl) (hline : (apos.endLine == pos.line) = true := by rfl) :
    PE X (.Call (.Attribute o "endswith" apos) [e] [] pos) (gE X.K An (gM1 REnds go gb)) := (pe_m1 F.slot_str_endswith F.type_str_endswith mt_endswith ho he hs hbase hline).imp (m1_of (R := REnds) (by
  intro z y H h b c Q re dy hr k
  obtain ⟨y', rfl, rfl⟩ := hr
  cases dy
  exact ⟨z, y', rfl, rfl, k _ H (Step.refl h H) re (.bl _)⟩))
def fSplit (go gb : gTE) : gTA := fun s h P => go s h fun a h1 => ∃ z, a = .str z ∧ gb s h1 fun b h2 => ∃ y, b = .str y ∧ (y.length == 0) = false ∧ z.length + 2 ≤ sizeLine ∧ P ((Txt.split z y).map .str) h2
theorem f_split {apos : Pos} (ho : PE X o (gE X.K An go)) (he : PE X e (gE X.K An gb)) (hs : starEach [e] X.env = [(false, eval e X.env)] := by rfl) (hbase : attributeBase o "split" X.env (eval o X.env) = eval o X.env := by rfl) (hline : (apos.endLine == pos.line) = true := by rfl) :
    PE X (.Call (.Attribute o "split" apos) [e] [] pos) (gF X.K An (fSplit go gb)) := (pe_split ho he hs hbase hline).imp fun σ H Q ⟨s, h, P, re, l, g, k⟩ => by
  refine ⟨s, h, _, re, l, g, fun x H1 a h1 s1 re1 dx ⟨z, ea, g1⟩ => ?_⟩
  subst ea
  cases dx
  refine ⟨⟨z, rfl⟩, s, h1, _, re1, l.mono s1, g1, fun y H2 b h2 s2 re2 dy ⟨y', eb, h3, h4, p⟩ => ?_⟩
  subst eb
  cases dy
  exact ⟨z, y', rfl, rfl, h3, h4, fun t n => k t _ _ h2 (re2.free n) ((s1.trans s2).trans (Step.newO n)) (re2.newO n (Dvs.of_strs _)) p⟩
/-! ### str(n), max, min -/
def RStr : RC2 := fun h ds c => ∃ i : Int, ds = [.int i] ∧ i.natAbs.log2 < 1920 ∧ c = .str (toString i)
theorem e_strc (hm : X.mg "str" = none) (ha : PA X [e] (gA X.K An gas)) (hg : Gl X "str" := by rfl) (he : starEach [e] X.env = [(false, eval e X.env)] := by rfl) : PE X (.Call (.Name "str" p) [e] [] pos) (gE X.K An (gCB RStr gas)) :=
  e_ct call_str_int (by
    intro vs H h ds c Q re dvx hr k
    obtain ⟨i, rfl, hz, rfl⟩ := hr
    obtain ⟨v, rfl, dv⟩ := dvs1 dvx
    cases dv
    exact ⟨i, rfl, hz, k _ H (Step.refl h H) re (.str _)⟩) hm (by decide +kernel) ha hg (by decide) (by decide) he (by rfl)
def RMax : RC2 := fun h ds c => ∃ i j : Int, ds = [.int i, .int j] ∧ c = .int (if j > i then j else i)
def RMin : RC2 := fun h ds c => ∃ i j : Int, ds = [.int i, .int j] ∧ c = .int (if j < i then j else i)
theorem e_max (hc : X.calm = true) (hm : X.mg "max" = none) (ha : PA X [a, b] (gA X.K An gas)) (hg : Gl X "max" := by rfl) (he : starEach [a, b] X.env = (false, eval a X.env) :: starEach [b] X.env := by rfl) (hpl : (backTo pos (starEach [b] X.env)).any (·.1) = false := by rfl) : PE X (.Call (.Name "max" p) [a, b] [] pos) (gE X.K An (gCB RMax gas)) :=
  e_cb (call_max2 hc) (by
    intro vs H h ds c Q re dvx hr k
    obtain ⟨i, j, rfl, rfl⟩ := hr
    obtain ⟨v, v', rfl, dv, dw⟩ := dvs2 dvx
    cases dv
    cases dw
    exact ⟨i, j, rfl, k _ H (Step.refl h H) re (.int _)⟩) hm (by decide +kernel) ha hg (by decide) (by decide) he hpl
theorem e_min (hc : X.calm = true) (hm : X.mg "min" = none) (ha : PA X [a, b] (gA X.K An gas)) (hg : Gl X "min" := by rfl) (he : starEach [a, b] X.env = (false, eval a X.env) :: starEach [b] X.env := by rfl) (hpl : (backTo pos (starEach [b] X.env)).any (·.1) = false := by rfl) : PE X (.Call (.Name "min" p) [a, b] [] pos) (gE X.K An (gCB RMin gas)) :=
  e_cb (call_min2 hc) (by
    intro vs H h ds c Q re dvx hr k
    obtain ⟨i, j, rfl, rfl⟩ := hr
    obtain ⟨v, v', rfl, dv, dw⟩ := dvs2 dvx
    cases dv
    cases dw
    exact ⟨i, j, rfl, k _ H (Step.refl h H) re (.int _)⟩) hm (by decide +kernel) ha hg (by decide) (by decide) he hpl
/-! ### list(text) -/
/-! ### comprehensions with several names -/
theorem wipe_at : ∀ (us : List Nat) (τ : L2.St) (j : Nat), (L2.wipe τ us)[j]? = if j < τ.length then (if j ∈ us then some none else τ[j]?) else none
  | [], τ, j => by
    unfold L2.wipe
    by_cases hj : j < τ.length
    · rw [if_pos hj]; simp
    · rw [if_neg hj]; exact List.getElem?_eq_none (by omega)
  | u :: us, τ, j => by
    unfold L2.wipe
    by_cases hj : j < τ.length
    · rw [if_pos hj]
      by_cases hu : u = j
      · subst hu
        rw [List.getElem?_set_self (by rw [wipe_length]; exact hj), if_pos List.mem_cons_self]
      · rw [List.getElem?_set_ne hu, wipe_at us τ j, if_pos hj]
        by_cases hm : j ∈ us
        · rw [if_pos hm, if_pos (List.mem_cons_of_mem _ hm)]
        · rw [if_neg hm, if_neg (by simp; exact ⟨fun z => hu z.symm, hm⟩)]
    · rw [if_neg hj]
      exact List.getElem?_eq_none (by rw [List.length_set, wipe_length]; omega)
theorem wipe_set2 {τ : L2.St} {i : Nat} {v : Option V} {vs : List Nat} (hi : i ∈ vs) : L2.wipe (τ.set i v) vs = L2.wipe τ vs := by
  apply List.ext_getElem?
  intro j
  rw [wipe_at, wipe_at, List.length_set]
  by_cases hj : j < τ.length
  · rw [if_pos hj, if_pos hj]
    by_cases hm : j ∈ vs
    · rw [if_pos hm, if_pos hm]
    · rw [if_neg hm, if_neg hm, List.getElem?_set_ne (fun z => hm (by rw [← z]; exact hi))]
  · rw [if_neg hj, if_neg hj]
theorem wipe_wipe (τ : L2.St) (vs : List Nat) : L2.wipe (L2.wipe τ vs) vs = L2.wipe τ vs := by
  apply List.ext_getElem?
  intro j
  rw [wipe_at, wipe_length]
  by_cases hj : j < τ.length
  · rw [if_pos hj, wipe_at, if_pos hj]
    by_cases hm : j ∈ vs
    · rw [if_pos hm, if_pos hm]
    · rw [if_neg hm]
  · rw [if_neg hj, wipe_at, if_neg hj]
def TgsOk (K : Fg) (An : AN) (vs : List Nat) (g : TGs) (gt : gTGs) : Prop := ∀ vl τ H ds s h (P : GS → GH → Prop) (Q : L2.St → Hp → Prop) σ, Rel K h H → Sl K An h H τ s → L2.wipe τ vs = L2.wipe σ vs → Dvs K h H vl ds → gt ds s h P →
  (∀ σ' H' s' h', L2.wipe σ' vs = L2.wipe σ vs → Step h H h' H' → Rel K h' H' → Sl K An h' H' σ' s' → P s' h' → Q σ' H') → g vl τ H Q
theorem tgsOk_nil {K : Fg} {An : AN} {vs : List Nat} : TgsOk K An vs gNil tgNil := fun vl τ H ds s h P Q σ re l ew dv ⟨e, g⟩ k => by
  subst e
  cases dv
  exact ⟨rfl, k _ H _ h ew (Step.refl h H) re l g⟩
theorem tgsOk_cons {K : Fg} {An : AN} {vs : List Nat} {i : Nat} {g : TGs} {gt : gTGs} (hi : i ∈ vs) (r : TgsOk K An vs g gt) : TgsOk K An vs (gCons (gName i) g) (tgCons (tgName i) gt) := fun vl τ H ds s h P Q σ re l ew dv ⟨d, rr, e, gg⟩ k => by
  subst e
  cases dv with
  | cons a t => exact ⟨_, _, rfl, r _ _ H _ _ h P Q σ re (l.set a) (by rw [wipe_set2 hi]; exact ew) t gg k⟩
theorem tgOk_tup {K : Fg} {An : AN} {vs : List Nat} {n : Nat} {g : TGs} {gt : gTGs} (r : TgsOk K An vs g gt) : TgOk K An vs (L2.gTup K n g) (tgTup n gt) := fun v σ H d s h P Q re l dv ⟨ds, e, hl, gg⟩ k => by
  subst e
  cases dv with
  | tup t rs => exact ⟨_, _, rfl, t.sq, by rw [rs.length]; exact hl, r _ _ H _ _ h P Q σ re l (wipe_wipe σ vs) rs gg k⟩
/-- [elt for (x, y, ..) in iter], with a test or none -/
theorem f_lcT {tg iter elt : Expr} {ifs : List Expr} {scope : Scope} {own : List (Str × Nat)} {n : Nat} {g : TGs} {gt : gTGs} {gi : gTA} {tt : TT} {gct : gTT} {ge : gTE} (hc : X.calm = true) (hN : X.N.Nodup) (hi : PI X tg iter (gI X.K An gi)) (ok : BlkOk X.N X.env.scope scope own) (tok : TgsOk X.K An (own.map (·.2)) g gt)
    (hg : ∀ (s : Shared) (H : Hp) (C : Addr) (cl : List (Str × Addr)) (fp : List Addr), PG (X.blk s H scope (compEnvC scope cl C X.env) fp) tg (L2.gTup X.K n g))
    (ht : ∀ (s : Shared) (H : Hp) (C : Addr) (cl : List (Str × Addr)) (fp : List Addr), PTs (X.blk s H scope (compEnvC scope cl C X.env) fp) ifs (gT X.K An gct))
    (he : ∀ (s : Shared) (H : Hp) (C : Addr) (cl : List (Str × Addr)) (fp : List Addr), PE (X.blk s H scope (compEnvC scope cl C X.env) fp) elt (gE X.K An ge)) (hs : ∀ x, foldedSetIterable iter X.env x = pure x := by intro _; rfl) :
    PE X (.ListComp elt [⟨tg, iter, ifs, 0⟩] scope pos) (gF X.K An (fLc gi (tgTup n gt) gct ge (own.map (·.2)))) :=
  (pe_lc (own := own) hc hN hi ok hg ht he hs).imp (lc_of (tgOk_tup tok) fun _ _ _ q => q)
theorem ts_yes {ifs : Unit} : PTs X [] (gT X.K An gYes) := ⟨fun pins s σ H Q I ⟨sl, h, P, re, l, g, k⟩ => pts_nil.run pins s σ H Q I (k true H h (Step.refl h H) re g)⟩
end
end Gh

namespace Gh
open PySem PySem.Spec PyProof.Rows L2
section
variable {prog : Program} {w : World} {A : Around} {E : Value → Shared → Prop} {s : Shared}
theorem walksFrom (hh : A.handled = none) (I ax : Addr) (hne : ax ≠ I) (items : Array Value) (j : Nat) (hj : j ≤ items.size) :
    Walks prog w A I [I, ax] [I] (items.size - j) (fun i v => items[j + i]? = some v) (fun i h => h.IsListIter I ax (j + i) ∧ h.IsList ax items) where
  sub := fun b hb => by simp at hb; simp [hb]
  frame := fun _ _ _ st hk => ⟨st.1.at fun o e => hk I (by simp) o e, st.2.at fun o e => hk ax (by simp) o e⟩
  item := fun i s Q E hi st hQ => by
    have hlt : j + i < items.size := by omega
    refine wpAny_pyNext_list_item st.1 st.2 (x := items[j + i]) (by simp [hlt]) fun h' hit' hs' => ?_
    exact hQ _ h' s.toks (by simp [hlt]) ⟨hit', st.2.extBut hs'.extBut hne⟩ fun b o hb e => hs'.extBut b o (fun h => hb (by simp [h])) e
  done := fun s Q E st hQ => wpAny_pyNext_list_end hh st.1 st.2 (by simp; omega) fun h' he' => hQ h' s.toks fun b o hb e => he' b o (fun h => hb (by simp [h])) e
  self := fun _ _ _ _ st hQ => wpAny_pyIter_listiter st.1 hQ
theorem star_items {l : Addr} {its : List Value} {i : Nat} {Q : List Value → Shared → Prop} (hh : A.handled = none) (hl : s.heap.IsList l its.toArray) (hi : i ≤ its.length) (hz : its.length ≤ sizeLine)
    (hQ : ∀ (h' : Heap) (tk : Nat), (∀ b o, s.heap.get? b = some o → h'.get? b = some o) → Q (its.take i ++ [.ref h'.objs.size]) { s with heap := h'.push { cls := .type "list", data := .seq (its.drop i).toArray }, toks := tk }) :
    wpAny (model prog w) A (unpackItems (.ref l) (i + 1) (some i)) Q E s := by
  have hlt : l ≠ s.heap.objs.size := by obtain ⟨o, ho, _⟩ := hl; exact Nat.ne_of_lt (Heap.lt_size ho)
  have hsz : its.toArray.size = its.length := by simp
  unfold unpackItems
  refine wpAny_bind ?_
  unfold notIterableAtAll
  refine wpAny_bind (wpAny_specialOf hl.typeIs slot_list_iter.lookup ?_)
  refine wpAny_pure ?_
  simp only [Bool.false_eq_true, if_false]
  refine wpAny_bind (wpAny_holding (wpAny_pyIter_list hl ?_))
  refine wpAny_bind (wpAny_holding (PySem.W.kun_draw hlt i 0 _ _ ⟨_, Heap.get?_push_size _ rfl, rfl, rfl⟩ (hl.push _) (by omega) fun h₁ hit₁ hs₁ => ?_))
  have hall : List.take i (List.drop 0 its.toArray.toList) = its.take i := by rw [List.drop_zero]
  rw [hall]
  rw [if_neg (by rw [List.length_take]; omega)]
  have hl₁ : h₁.IsList l its.toArray := (hl.push _).extBut hs₁.extBut hlt
  have k1 : ∀ b o, s.heap.get? b = some o → h₁.get? b = some o := fun b o e => hs₁.extBut b o (Nat.ne_of_lt (Heap.lt_size e)) (Heap.get?_push_of_some _ e)
  have W := (walksFrom (prog := prog) (w := w) (A := A.in1) hh s.heap.objs.size l hlt its.toArray i (by omega)).toS
  have hit₁' : h₁.IsListIter s.heap.objs.size l (i + 0) := by have := hit₁; rw [Nat.zero_add] at this; exact this
  have hb0 : ∀ b ∈ [s.heap.objs.size, l], b < h₁.objs.size := fun b hb => by
    rcases List.mem_cons.mp hb with z | z
    · subst z
      obtain ⟨o, ho, _⟩ := hit₁
      exact Heap.lt_size ho
    · rcases List.mem_cons.mp z with z | z
      · subst z
        obtain ⟨o, ho, _⟩ := hl₁
        exact Heap.lt_size ho
      · cases z
  refine wpAny_bind (wpAny_holding (wpAny_collect_iter (T := "list_iterator") (by simp) W (fun k st hs => hs.1.typeIs) ⟨hit₁', hl₁⟩ hb0 (by simp) (fun s' acc mv ia => ?_) (by omega)))
  have ea : acc.toList = its.drop i := by
    apply List.ext_getElem?
    intro k
    have h1 : acc.toList.length = its.length - i := by rw [Array.length_toList, ia.1, hsz]
    by_cases hk : k < its.length - i
    · have h2 : k < acc.size := by rw [ia.1, hsz]; exact hk
      have h3 := ia.2 k acc[k] (by simp [h2])
      rw [List.getElem?_drop, Array.getElem?_toList]
      rw [Array.getElem?_eq_getElem h2]
      simpa using h3.symm
    · rw [List.getElem?_eq_none (by omega), List.getElem?_eq_none (by rw [List.length_drop]; omega)]
  rw [ea]
  have e0 : i + 1 - 1 - i = 0 := by omega
  simp only [e0]
  rw [if_neg (by omega)]
  have e1 : (its.drop i).take ((its.drop i).length - 0) = its.drop i := by rw [Nat.sub_zero]; exact List.take_of_length_le (Nat.le_refl _)
  have e2 : (its.drop i).drop ((its.drop i).length - 0) = [] := by rw [Nat.sub_zero]; exact List.drop_eq_nil_of_le (Nat.le_refl _)
  rw [e1, e2]
  refine wpAny_bind (wpAny_newList ?_ (by rw [List.length_drop]; omega))
  refine wpAny_pure ?_
  rw [List.append_nil]
  obtain ⟨hp, hg, hd, ho, ht⟩ := mv
  obtain ⟨h2, g2, d2, t2, o2⟩ := s'
  simp only at hp hg hd ho ht ⊢
  subst hg hd ho
  exact hQ h2 t2 fun b o e => hp b o (by simp; exact Nat.ne_of_lt (Heap.lt_size e)) (k1 b o e)
end
section
variable {X : Cx} {An : AN} {e : Expr} {es : List Expr} {pos p : Pos}
/-- a, .., *r = a list -/
def gStarL (K : Fg) (i : Nat) (t : TGs) : TG := fun v σ H Q => ∃ a xs, v = .ref a ∧ SqL K H a xs ∧ i ≤ xs.length ∧ ∀ l, H l = none → t (xs.take i ++ [.ref l]) σ (upd H l (.lst (xs.drop i))) Q
theorem pg_starL {k i : Nat} {t : TGs} (hc : X.calm = true) (h : PGs X es t) (hn : (assignEach es X.env).length = i + 1 := by rfl) (hst : (assignEach es X.env).findIdx? (·.1) = some i := by rfl) : PG X (.Tuple es k pos) (gStarL X.K i t) := by
  refine ⟨fun pins s σ H v u Q I r hw => ?_⟩
  obtain ⟨a, xs, e1, hq, hl, hw⟩ := hw
  subst e1
  cases r
  obtain ⟨its, rv, pl, hz⟩ := I.list hq
  have hlen := rv.length
  have hl' : s.heap.IsList a its.toArray := by
    obtain ⟨o, m, e, c, d, q⟩ := pl
    exact ⟨o, e, c, m, q⟩
  rw [PyProof.Rows.assign_Tuple]
  refine wpAny_bind (wpAny_standAt ?_)
  unfold unpack
  rw [hn, hst]
  refine wpAny_bind (wpAny_holding (star_items (I.ok.hd hc) hl' (by omega) (by omega) fun h' tk hk => ?_))
  have I1 : Inv X pins σ H { s with heap := h', toks := tk } := I.kept (t' := tk) hk
  have I2 := I1.lnew (t' := tk) (rv.drop i) (by rw [List.length_drop]; omega)
  exact h.run pins _ σ _ _ _ Q I2 ((rv.take i).append (.cons (show RelV (.ref h'.objs.size) (.ref h'.objs.size) from rfl) .nil)) (hw _ I1.fresh)
theorem gs_star {t : gTG} {u : gTGs} (h1 : PG X e (gG X.K An t)) (h2 : PGs X es (gGs X.K An u)) (hs : (assignEach (.Starred e p :: es) X.env).map (·.2) = assign e X.env :: (assignEach es X.env).map (·.2) := by rfl) : PGs X (.Starred e p :: es) (gGs X.K An (tgCons t u)) := by
  have r : PGs X (.Starred e p :: es) (gCons (gG X.K An t) (gGs X.K An u)) := by
    refine ⟨fun pins s σ H vs us Q I r h => ?_⟩
    obtain ⟨v, vr, e1, h⟩ := h
    subst e1
    cases r with
    | cons r rr =>
      rw [hs]
      refine assignInOrder_cons (thn (h1.run pins s σ H _ _ _ I r h) fun _ s1 ⟨σ1, H1, I1, q1⟩ => ?_)
      exact h2.run pins s1 σ1 H1 _ _ Q I1 rr q1
  exact r.imp fun v σ H Q ⟨d, s, h, P, re, l, dv, ⟨d0, r0, e, g⟩, k⟩ => by
    subst e
    cases dv with
    | cons a r =>
      refine ⟨_, _, rfl, d0, s, h, _, re, l, a, g, fun σ' H' s' h' st re' l' q => ?_⟩
      exact ⟨r0, s', h', P, re', l', r.mono st, q, fun σ2 H2 s2 h2 st2 re2 l2 p => k σ2 H2 s2 h2 (st.trans st2) re2 l2 p⟩
def tgStarL (i : Nat) (t : gTGs) : gTG := fun d s h P => ∃ ds, vw h d = .lst ds ∧ i ≤ ds.length ∧ t (ds.take i ++ [.lst (ds.drop i)]) s h P
theorem Dvs.app {K : Fg} {h : GH} {H : Hp} : ∀ {vs : List V} {ds : List D} {us : List V} {es : List D}, Dvs K h H vs ds → Dvs K h H us es → Dvs K h H (vs ++ us) (ds ++ es)
  | _, _, _, _, .nil, k => k
  | _, _, _, _, .cons a r, k => .cons a (Dvs.app r k)
theorem g_starL {t : gTGs} {k i : Nat} (hc : X.calm = true) (h : PGs X es (gGs X.K An t)) (hn : (assignEach es X.env).length = i + 1 := by rfl) (hst : (assignEach es X.env).findIdx? (·.1) = some i := by rfl) : PG X (.Tuple es k pos) (gG X.K An (tgStarL i t)) := (pg_starL hc h hn hst).imp fun v σ H Q ⟨d, s, h, P, re, l, dv, ⟨ds, e, hl, g⟩, k⟩ => by
  obtain ⟨q, xs, rfl, hx, rs⟩ := vw_lst re dv e
  refine ⟨q, xs, rfl, .inl (.inl hx), by rw [rs.length]; exact hl, fun lp n => ?_⟩
  have st : Step h H h (upd H lp (.lst (xs.drop i))) := Step.new n
  have dl : Dv X.K h (upd H lp (.lst (xs.drop i))) (.ref lp) (.lst (ds.drop i)) := by
    have r1 := (re.newO n (Dvs.drop i rs)).letgo put_same
    rw [put_del (re.free n)] at r1
    exact r1
  exact ⟨ds.take i ++ [.lst (ds.drop i)], s, h, P, re.new n, l.mono st, Dvs.app ((Dvs.take i rs).mono st) (.cons dl .nil), g, fun σ2 H2 s2 h2 st2 re2 l2 p => k σ2 H2 s2 h2 (st.trans st2) re2 l2 p⟩
end
end Gh

namespace Gh
open PySem PySem.Spec PyProof.Rows L2
/-- some owned objects are let go -/
def dels (h : GH) : List Addr → GH
  | [] => h
  | p :: ps => dels (del h p) ps
theorem Step.dels {h : GH} {H : Hp} : ∀ ps : List Addr, Step h H (Gh.dels h ps) H
  | [] => Step.refl h H
  | p :: ps => (Step.del (p := p)).trans (Step.dels ps)
theorem Rel.dels {K : Fg} {h : GH} {H : Hp} (r : Rel K h H) : ∀ ps : List Addr, Rel K (Gh.dels h ps) H
  | [] => r
  | p :: ps => Rel.dels (r.del (p := p)) ps
theorem del_put2 {h : GH} {p q : Addr} {a b : GO} (hp : h p = none) (hq : h q = none) (ne : q ≠ p) : dels (del (put (put h p a) q b) q) [p] = h := by
  show del (del (put (put h p a) q b) q) p = h
  funext c
  by_cases z : c = p
  · subst z; rw [del_same, hp]
  · rw [del_ne z]
    by_cases y : c = q
    · subst y; rw [del_same, hq]
    · rw [del_ne y, put_ne y, put_ne z]
section
variable {X : Cx} {An : AN} {e : Expr} {ga : gTE} {pos : Pos}
/-- return; owned lists may be let go -/
def sRetX (ga : gTE) : gTS := fun N s h => ga s h fun d h1 => ∃ ps : List Addr, N.rt d (dels h1 ps) ∨ ∃ p ds, d = .ref p ∧ h1 p = some (.lst ds) ∧ N.rt (.lst ds) (dels (del h1 p) ps)
theorem s_retX (he : PE X e (gE X.K An ga)) : PS X (.Return (some e) pos) (gS X.K An (sRetX ga)) := (ps_ret he).imp fun De σ H ⟨s, h, N, re, l, g, m⟩ => by
  refine ⟨s, h, _, re, l, g, fun v H1 d h1 s1 re1 dv ⟨ps, pp⟩ => ?_⟩
  rcases pp with pp | ⟨q, ds, rfl, e, pp⟩
  · exact m.rt v H1 d _ (s1.trans (Step.dels ps)) (re1.dels ps) (dv.mono (Step.dels ps)) pp
  · cases dv
    exact m.rt _ H1 _ _ ((s1.trans Step.del).trans (Step.dels ps)) (re1.del.dels ps) ((re1.letgo e).mono (Step.dels ps)) pp
/-- [elt for (x, y, ..) in iter], with a test or none -/
theorem f_lcU {tg iter elt : Expr} {ifs : List Expr} {scope : Scope} (own : List (Str × Nat)) {n : Nat} {g : TGs} {gt : gTGs} {gi : gTA} {gct : gTT} {ge : gTE} (hc : X.calm = true) (hN : X.N.Nodup) (hi : PI X tg iter (gI X.K An gi)) (ok : BlkOk X.N X.env.scope scope own) (tok : TgsOk X.K An (own.map (·.2)) g gt)
    (hg : ∀ (s : Shared) (H : Hp) (C : Addr) (cl : List (Str × Addr)) (fp : List Addr), PG (X.blk s H scope (compEnvC scope cl C X.env) fp) tg (L2.gTup X.K n g))
    (ht : ∀ (s : Shared) (H : Hp) (C : Addr) (cl : List (Str × Addr)) (fp : List Addr), PTs (X.blk s H scope (compEnvC scope cl C X.env) fp) ifs (gT X.K An gct))
    (he : ∀ (s : Shared) (H : Hp) (C : Addr) (cl : List (Str × Addr)) (fp : List Addr), PE (X.blk s H scope (compEnvC scope cl C X.env) fp) elt (gE X.K An ge)) (hs : ∀ x, foldedSetIterable iter X.env x = pure x := by intro _; rfl) :
    PE X (.ListComp elt [⟨tg, iter, ifs, 0⟩] scope pos) (gF X.K An (fLc gi (tgTup n gt) gct ge (own.map (·.2)))) :=
  (pe_lc (own := own) hc hN hi ok hg ht he hs).imp (lc_of (tgOk_tup tok) fun _ _ _ q => q)
theorem s_lcU {tg iter elt : Expr} {ifs : List Expr} {scope : Scope} {y : Str} {j : Nat} {py spos : Pos} (own : List (Str × Nat)) {n : Nat} {g : TGs} {gt : gTGs} {gi : gTA} {gct : gTT} {ge : gTE} (hc : X.calm = true) (hN : X.N.Nodup) (hy : X.N[j]? = some y) (hyl : X.env.scope.names.lookup y = some .local)
    (hsw : swapsWith (.ListComp elt [⟨tg, iter, ifs, 0⟩] scope pos) (some (.Name y py)) spos.line X.env = pure true) (hi : PI X tg iter (gI X.K An gi)) (ok : BlkOk X.N X.env.scope scope own) (tok : TgsOk X.K An (own.map (·.2)) g gt)
    (hg : ∀ (s : Shared) (H : Hp) (C : Addr) (cl : List (Str × Addr)) (fp : List Addr), PG (X.blk s H scope (compEnvC scope cl C X.env) fp) tg (L2.gTup X.K n g))
    (ht : ∀ (s : Shared) (H : Hp) (C : Addr) (cl : List (Str × Addr)) (fp : List Addr), PTs (X.blk s H scope (compEnvC scope cl C X.env) fp) ifs (gT X.K An gct))
    (he : ∀ (s : Shared) (H : Hp) (C : Addr) (cl : List (Str × Addr)) (fp : List Addr), PE (X.blk s H scope (compEnvC scope cl C X.env) fp) elt (gE X.K An ge)) (hs : ∀ x, foldedSetIterable iter X.env x = pure x := by intro _; rfl) :
    PS X (.Assign [.Name y py] (.ListComp elt [⟨tg, iter, ifs, 0⟩] scope pos) spos) (gS X.K An (sOwn j (fLc gi (tgTup n gt) gct ge (own.map (·.2))))) :=
  (ps_setLc (own := own) hc hN hy hyl hsw hi ok hg ht he hs).imp fun De σ H q => lc_of (tgOk_tup tok) (fun _ _ _ q => q) σ H _ (own_of De σ H q)
theorem s_lcUF {tg iter elt : Expr} {ifs : List Expr} {scope : Scope} {y : Str} {j : Nat} {py spos : Pos} (own : List (Str × Nat)) {n : Nat} {g : TGs} {gt : gTGs} {gi : gTA} {gct : gTT} {ge : gTE} (hc : X.calm = true) (hN : X.N.Nodup) (hy : X.N[j]? = some y) (hyl : X.env.scope.names.lookup y = some .local)
    (hsw : swapsWith (.ListComp elt [⟨tg, iter, ifs, 0⟩] scope pos) (some (.Name y py)) spos.line X.env = pure true) (hi : PI X tg iter (gI X.K An gi)) (ok : BlkOk X.N X.env.scope scope own) (tok : TgsOk X.K An (own.map (·.2)) g gt)
    (hg : ∀ (s : Shared) (H : Hp) (C : Addr) (cl : List (Str × Addr)) (fp : List Addr), PG (X.blk s H scope (compEnvC scope cl C X.env) fp) tg (L2.gTup X.K n g))
    (ht : ∀ (s : Shared) (H : Hp) (C : Addr) (cl : List (Str × Addr)) (fp : List Addr), PTs (X.blk s H scope (compEnvC scope cl C X.env) fp) ifs (gT X.K An gct))
    (he : ∀ (s : Shared) (H : Hp) (C : Addr) (cl : List (Str × Addr)) (fp : List Addr), PE (X.blk s H scope (compEnvC scope cl C X.env) fp) elt (gE X.K An ge)) (hs : ∀ x, foldedSetIterable iter X.env x = pure x := by intro _; rfl) :
    PS X (.Assign [.Name y py] (.ListComp elt [⟨tg, iter, ifs, 0⟩] scope pos) spos) (gS X.K An (sSet j (gFr (fLc gi (tgTup n gt) gct ge (own.map (·.2)))))) :=
  (ps_setLc (own := own) hc hN hy hyl hsw hi ok hg ht he hs).imp fun De σ H q => lc_of (tgOk_tup tok) (fun _ _ _ q => q) σ H _ (setF_of De σ H q)
end
end Gh

namespace Gh
open PySem PySem.Spec PyProof.Rows L2
section
variable {X : Cx} {An : AN} {a b e : Expr} {ga gb : gTE} {gas : gTA} {pos : Pos}
/-- an owned list is let go -/
def gLet (ga : gTE) : gTE := fun s h P => ga s h fun d h1 => ∃ p ds, d = .ref p ∧ h1 p = some (.lst ds) ∧ P (.lst ds) (del h1 p)
theorem e_let (he : PE X e (gE X.K An ga)) : PE X e (gE X.K An (gLet ga)) := he.imp fun σ H Q ⟨s, h, P, re, l, g, k⟩ => by
  refine ⟨s, h, _, re, l, g, fun v H1 d h1 s1 re1 dv ⟨p, ds, ed, ep, pp⟩ => ?_⟩
  subst ed
  cases dv
  exact k _ H1 _ _ (s1.trans Step.del) re1.del (re1.letgo ep) pp
/-- list + list, owned -/
def fAdd (ga gb : gTE) : gTA := fun s h P => ga s h fun a h1 => gb s h1 fun b h2 => ∃ xs ys, vw h2 a = .lst xs ∧ vw h2 b = .lst ys ∧ xs.length + ys.length ≤ sizeLine ∧ P (xs ++ ys) h2
theorem f_add (ha : PE X a (gE X.K An ga)) (hb : PE X b (gE X.K An gb)) : PE X (.BinOp a .Add b pos) (gF X.K An (fAdd ga gb)) := (pe_op op_cat ha hb).imp fun σ H Q ⟨s, h, P, re, l, g, k⟩ => by
  refine ⟨s, h, _, re, l, g, fun x H1 d1 h1 s1 re1 dx g1 => ?_⟩
  refine ⟨s, h1, _, re1, l.mono s1, g1, fun y H2 d2 h2 s2 re2 dy ⟨xs, ys, e1, e2, hz, pp⟩ => ?_⟩
  obtain ⟨p, us, rfl, hp, rs⟩ := vw_lst re2 (dx.mono s2) e1
  obtain ⟨q, vs, rfl, hq, rt⟩ := vw_lst re2 dy e2
  refine ⟨p, q, us, vs, rfl, rfl, hp, hq, by rw [rs.length, rt.length]; exact hz, fun t n => ?_⟩
  exact k t _ _ h2 (re2.free n) ((s1.trans s2).trans (Step.newO n)) (re2.newO n (rs.append rt)) pp
/-- f'..' -/
def gFmt (ga : gTE) : gTE := fun s h P => ga s h fun d h1 => (∃ y, d = .str y ∧ y.length ≤ sizeLine ∧ P (.str y) h1) ∨ ∃ i : Int, d = .int i ∧ i.natAbs.log2 < 1920 ∧ P (.str (toString i)) h1
theorem j_fmt (he : PE X e (gE X.K An ga)) : PE X (.FormattedValue e (-1) none pos) (gE X.K An (gFmt ga)) := (pe_fmt he).imp fun σ H Q ⟨s, h, P, re, l, g, k⟩ => by
  refine ⟨s, h, _, re, l, g, fun v H1 d h1 s1 re1 dv p => ?_⟩
  rcases p with ⟨y, rfl, hz, p⟩ | ⟨i, rfl, hz, p⟩
  · cases dv
    exact .inl ⟨y, rfl, hz, k _ H1 _ h1 s1 re1 (.str _) p⟩
  · cases dv
    exact .inr ⟨i, rfl, hz, k _ H1 _ h1 s1 re1 (.str _) p⟩
def gJs : List gTE → Str → GS → GH → (Str → GH → Prop) → Prop
  | [], acc, _, h, P => P acc h
  | g :: gs, acc, s, h, P => g s h fun d h1 => ∃ y : Str, d = .str y ∧ (acc ++ y).length ≤ sizeLine ∧ gJs gs (acc ++ y) s h1 P
def gJoined (gs : List gTE) : gTE := fun s h P => gJs gs Str.empty s h fun x h1 => P (.str x) h1
theorem js_of {K : Fg} {An : AN} : ∀ (gs : List gTE) (acc : Str) (σ : L2.St) (H : Hp) (Q : Str → Hp → Prop) (s : GS) (h : GH) (P : Str → GH → Prop), Rel K h H → Sl K An h H σ s → gJs gs acc s h P → (∀ x H' h', Step h H h' H' → Rel K h' H' → P x h' → Q x H') → tJs (gs.map (gE K An)) acc σ H Q
  | [], acc, σ, H, Q, s, h, P, re, l, g, k => k acc H h (Step.refl h H) re g
  | g0 :: gs, acc, σ, H, Q, s, h, P, re, l, g, k => by
    refine ⟨s, h, _, re, l, g, fun v H1 d h1 s1 re1 dv ⟨y, ed, hz, g1⟩ => ?_⟩
    subst ed
    cases dv
    exact ⟨y, rfl, hz, js_of gs (acc ++ y) σ H1 Q s h1 P re1 (l.mono s1) g1 fun x H' h' s2 re2 p => k x H' h' (s1.trans s2) re2 p⟩
theorem j_nil : PJ X [] (([] : List gTE).map (gE X.K An)) := .nil
theorem j_cons {es : List Expr} {gs : List gTE} (h : PE X e (gE X.K An ga)) (r : PJ X es (gs.map (gE X.K An))) : PJ X (e :: es) ((ga :: gs).map (gE X.K An)) := .cons h r
theorem e_joined {v1 v2 : Expr} {rest : List Expr} {gs : List gTE} (h : PJ X (v1 :: v2 :: rest) (gs.map (gE X.K An))) : PE X (.JoinedStr (v1 :: v2 :: rest) pos) (gE X.K An (gJoined gs)) := (pe_joined h).imp fun σ H Q ⟨s, h, P, re, l, g, k⟩ =>
  js_of gs Str.empty σ H _ s h _ re l g fun x H' h' s1 re1 p => k _ H' _ h' s1 re1 (.str x) p
end
end Gh
namespace Gh
open PySem PySem.Spec PyProof.Rows L2
section
variable {X : Cx} {An : AN} {pos : Pos}
theorem e_globI {x : Str} {i : Int} (hm : ∃ t, X.mg x = some (.int i t)) (hg : Gl X x := by rfl) (hd : (x == ("__debug__" : Str)) = false := by decide) : PE X (.Name x pos) (gE X.K An (gC (.int i))) := by
  obtain ⟨t, hm⟩ := hm
  exact e_glob (v := .int i) hm ⟨t, rfl⟩ (fun _ _ => .int i) hg hd
theorem e_globS {x z : Str} (hm : ∃ t, X.mg x = some (.str z t)) (hg : Gl X x := by rfl) (hd : (x == ("__debug__" : Str)) = false := by decide) : PE X (.Name x pos) (gE X.K An (gC (.str z))) := by
  obtain ⟨t, hm⟩ := hm
  exact e_glob (v := .str z) hm ⟨t, rfl⟩ (fun _ _ => .str z) hg hd
end
end Gh

set_option maxHeartbeats 1000000
namespace Gh
open PySem L2
/-! ## numbers -/
theorem fmod_lt (a : Int) {b : Int} (h : b ≠ 0) : (a.fmod b).natAbs < b.natAbs := by
  rcases Int.lt_or_gt_of_ne h with hb | hb
  · have e1 := Int.fmod_eq_emod (a := a) (b := b)
    have e2 := Int.emod_nonneg a h
    have e3 : a % b < (b.natAbs : Nat) := Int.emod_lt a h
    rw [e1]
    split
    · rename_i hc
      rcases hc with hc | hc
      · omega
      · have := Int.emod_eq_zero_of_dvd hc
        rw [this]
        omega
    · rename_i hc
      have : a % b ≠ 0 := fun z => hc (.inr (Int.dvd_of_emod_eq_zero z))
      omega
  · have e1 := Int.fmod_nonneg_of_pos a hb
    have e2 := Int.fmod_lt_of_pos a hb
    omega
theorem gcd_fmod (a b : Int) : Int.gcd b (a.fmod b) = Int.gcd a b := by
  rw [Int.fmod_def, Int.gcd_sub_mul_left_right, Int.gcd_comm]
/-- bits -/
theorem log2_of {n b : Nat} (h : n < 2 ^ b) (h0 : 0 < b) : n.log2 < b := PySem.Flt.log2_lt_of h0 h
theorem pow_mono {a b : Nat} (h : a ≤ b) : 2 ^ a ≤ 2 ^ b := Nat.pow_le_pow_right (by decide) h
theorem lt_pow_mono {n a b : Nat} (hn : n < 2 ^ a) (h : a ≤ b) : n < 2 ^ b := Nat.lt_of_lt_of_le hn (pow_mono h)
/-! ## the gcd -/
def S_law_gcd : GSpec := fun ds h P => ∃ a b : Int, ds = [.int a, .int b] ∧ P (.int (Int.gcd a b : Nat)) h
def g_law_gcd : gTS := (sSeq (sWhile (gB (gBin (REq true) (gVar 1) (gC (.int 0))))
  (sPar 0 1 (aCons (gVar 1) (aCons (gBin RMod (gVar 0) (gVar 1)) aNil))))
 (sRet (gCB RAbs (aCons (gVar 0) aNil))))
theorem pure_law_gcd (ds : List D) (h : GH) (P : GP) (hs : S_law_gcd ds h P) : g_law_gcd { nx := fun _ h' => P .non h', rt := P } (startG ["_law_a", "_law_b"] ds) h := by
  obtain ⟨a, b, rfl, hp⟩ := hs
  show sWhile _ _ _ [some (.int a), some (.int b)] h
  refine ⟨fun m s h' => h' = h ∧ ∃ x y : Int, s = [some (.int x), some (.int y)] ∧ Int.gcd x y = Int.gcd a b ∧ m = y.natAbs, ⟨_, rfl, a, b, rfl, rfl, rfl⟩, fun m s h' ⟨eh, x, y, es, hg, em⟩ => ?_⟩
  subst eh es em
  refine ⟨_, rfl, _, rfl, _, rfl, ?_⟩
  refine ite2 (fun c => ?_) (fun c => ?_)
  · have hy : y ≠ 0 := by simpa using c
    refine ⟨_, rfl, _, rfl, _, rfl, _, ⟨hy, rfl⟩, _, _, rfl, _, fmod_lt x hy, rfl, y, x.fmod y, rfl, ?_, rfl⟩
    rw [gcd_fmod, hg]
  · have hy : y = 0 := by simpa using c
    subst hy
    refine ⟨_, rfl, _, ⟨_, rfl, rfl⟩, .inl ?_⟩
    have e : x.natAbs = Int.gcd a b := by rw [← hg]; simp
    show P (.int (x.natAbs : Nat)) h'
    rw [e]
    exact hp
theorem len_law_gcd (ds : List D) (h : GH) (P : GP) (hs : S_law_gcd ds h P) : ds.length = 2 := by obtain ⟨a, b, rfl, _⟩ := hs; rfl

/-! ## lowest terms -/
def low (a b : Int) : Int × Int := (a / (Int.gcd a b : Nat), b / (Int.gcd a b : Nat))
def fr (p : Int × Int) : D := .tup [.int p.1, .int p.2]
theorem gcd_div {a b : Int} (hb : b ≠ 0) (hz : b.natAbs < 2 ^ 9000) : ((Int.gcd a b : Nat) : Int) ≠ 0 ∧ ((Int.gcd a b : Nat) : Int).natAbs.log2 < 9000 := by
  have h1 := Int.gcd_pos_of_ne_zero_right a hb
  have h2 := Int.gcd_le_natAbs_right a hb
  refine ⟨by omega, ?_⟩
  rw [Int.natAbs_natCast]
  exact log2_of (Nat.lt_of_le_of_lt h2 hz) (by decide)
def S_law_low : GSpec := fun ds h P => ∃ a b : Int, ds = [.int a, .int b] ∧ b ≠ 0 ∧ b.natAbs < 2 ^ 9000 ∧ P (fr (low a b)) h
def g_law_low : gTS := (sSeq (sSet 2 (gCall S_law_gcd (aCons (gVar 0) (aCons (gVar 1) aNil))))
 (sRet (gTup (aCons (gBin RFdiv (gVar 0) (gVar 2)) (aCons (gBin RFdiv (gVar 1) (gVar 2)) aNil)))))
theorem two_le : (2 : Nat) ≤ sizeLine := by decide
theorem pure_law_low (ds : List D) (h : GH) (P : GP) (hs : S_law_low ds h P) : g_law_low { nx := fun _ h' => P .non h', rt := P } (startG ["_law_a", "_law_b", "_law_by"] ds) h := by
  obtain ⟨a, b, rfl, hb, hz, hp⟩ := hs
  have hg := gcd_div (a := a) hb hz
  refine ⟨_, rfl, _, rfl, a, b, rfl, ?_⟩
  refine ⟨_, rfl, _, rfl, _, ⟨hg, rfl⟩, _, rfl, _, rfl, _, ⟨hg, rfl⟩, two_le, .inl ?_⟩
  rw [Int.fdiv_eq_ediv_of_nonneg _ (by omega), Int.fdiv_eq_ediv_of_nonneg _ (by omega)]
  exact hp
theorem len_law_low (ds : List D) (h : GH) (P : GP) (hs : S_law_low ds h P) : ds.length = 2 := by obtain ⟨a, b, rfl, _⟩ := hs; rfl
/-! ## the bag -/
theorem RIx_own {h : GH} {p : Addr} {ds : List D} {i : Int} {c : D} (e : h p = some (.lst ds)) (a : atI ds i = some c) : RIx h (.ref p) (.int i) c := by
  unfold RIx
  rw [vw_own e]
  exact a
theorem RLen_own {h : GH} {p : Addr} {ds : List D} (e : h p = some (.lst ds)) : RLen h [.ref p] (.int (ds.length : Nat)) := by
  refine ⟨_, rfl, ?_⟩
  rw [vw_own e]
def S_law_pull : GSpec := fun ds h P => ∃ (b : Addr) (m : Int), ds = [.ref b, .int m] ∧ h b = some .bag ∧ 0 < m ∧ m.natAbs.log2 < 9000 ∧ ∀ k : Int, 0 ≤ k → k < m → P (.int k) h
def g_law_pull : gTS := (sSeq (sIf (gAnd (gB (gBin (REq false) (gBin RIx (gVar 0) (gC (.int 2))) (gC (.int 0)))) (gB (gBin (RCmp fun i j => decide (i < j)) (gBin RIx (gVar 0) (gC (.int 1))) (gCB RLen (aCons (gBin RIx (gVar 0) (gC (.int 0))) aNil)))))
  (sSeq (sSet 2 (gBin RIx (gBin RIx (gVar 0) (gC (.int 0))) (gBin RIx (gVar 0) (gC (.int 1)))))
 (sSeq (sAsg (gBin RAdd (gBin RIx (gVar 0) (gC (.int 1))) (gC (.int 1))) (tgSub (gVar 0) (gC (.int 1))))
 (sIf (gB (gBin (RCmp fun i j => decide (j ≤ i)) (gVar 2) (gBin RPow (gC (.int 10)) (gC (.int 18)))))
  (sAsg (gVar 2) (tgSub (gVar 0) (gC (.int 2))))
  (sAsg (gBin RMod (gBin RAdd (gBin RAdd (gBin RMul (gBin RIx (gVar 0) (gC (.int 3))) (gC (.int 40014))) (gBin RMul (gBin RMod (gVar 2) (gC (.int 2147483549))) (gC (.int 31)))) (gC (.int 11))) (gC (.int 2147483647))) (tgSub (gVar 0) (gC (.int 3)))))))
  sNext)
 (sSeq (sIf (gB (gBin (RCmp fun i j => decide (j < i)) (gBin RIx (gVar 0) (gC (.int 2))) (gC (.int 0))))
  (sSeq (sSet 3 (gBin RMod (gBin RIx (gVar 0) (gC (.int 2))) (gVar 1)))
 (sSeq (sAsg (gBin RFdiv (gBin RIx (gVar 0) (gC (.int 2))) (gVar 1)) (tgSub (gVar 0) (gC (.int 2))))
 (sRet (gVar 3))))
  sNext)
 (sSeq (sAsg (gBin RAdd (gBin RIx (gVar 0) (gC (.int 4))) (gC (.int 1))) (tgSub (gVar 0) (gC (.int 4))))
 (sSeq (sSet 4 (gBin RMod (gBin RAdd (gBin RIx (gVar 0) (gC (.int 3))) (gBin RMul (gBin RIx (gVar 0) (gC (.int 4))) (gC (.int 7919)))) (gC (.int 2147483647))))
 (sSeq (sAsg (gBin RMod (gBin RAdd (gBin RAdd (gBin RMul (gBin RMod (gBin RMul (gVar 4) (gVar 4)) (gC (.int 2147483629))) (gVar 4)) (gBin RMul (gC (.int 30029)) (gVar 4))) (gC (.int 1013))) (gC (.int 2147483647))) (tgSub (gVar 0) (gC (.int 3))))
 (sRet (gBin RMod (gBin RAdd (gBin RFdiv (gBin RIx (gVar 0) (gC (.int 3))) (gC (.int 67))) (gBin RMul (gBin RMod (gBin RIx (gVar 0) (gC (.int 3))) (gC (.int 8191))) (gC (.int 59)))) (gVar 1))))))))
def bagL (ns : List Int) (i g s c : Int) : GO := .lst [.lst (ns.map .int), .int i, .int g, .int s, .int c]
def BagIn (ns : List Int) (i g s c : Int) : Prop := ns.length ≤ 63 ∧ 0 ≤ i ∧ i ≤ (ns.length : Int) ∧ 0 ≤ g ∧ 0 ≤ s ∧ s < 2147483647 ∧ 0 ≤ c
theorem atI_ok {ns : List Int} {i : Int} (h0 : 0 ≤ i) (h1 : i < (ns.length : Int)) : ∃ v : Int, atI (ns.map D.int) i = some (.int v) := by
  have hi : i.toNat < ns.length := by omega
  have e : ((i.toNat : Nat) : Int) = i := by omega
  have q : atI (ns.map D.int) ((i.toNat : Nat) : Int) = some (.int ns[i.toNat]) := atI_nat (by rw [List.getElem?_map, List.getElem?_eq_getElem hi]; rfl)
  rw [e] at q
  exact ⟨_, q⟩
theorem fmod_in (a : Int) {b : Int} (h : 0 < b) : 0 ≤ a.fmod b ∧ a.fmod b < b := ⟨Int.fmod_nonneg_of_pos a h, Int.fmod_lt_of_pos a h⟩
theorem mulR {i j : Int} (h1 : -(2 ^ 64) < j) (h2 : j < 2 ^ 64) : CMul i j ∨ CMulW i j := .inl (.inr ⟨h1, h2⟩)
theorem mulL {i j : Int} (h1 : -(2 ^ 64) < i) (h2 : i < 2 ^ 64) : CMul i j ∨ CMulW i j := .inl (.inl ⟨h1, h2⟩)
/-- behind the first if -/
theorem pull_tail (b : Addr) (m : Int) (h : GH) (ns : List Int) (i g s c : Int) (hm : 0 < m) (hz : m.natAbs.log2 < 9000) (B : BagIn ns i g s c) (o2 : Option D) (N : GEnds)
    (hN : ∀ (i g s c k : Int), BagIn ns i g s c → 0 ≤ k → k < m → N.rt (.int k) (put h b (bagL ns i g s c))) :
    (sSeq (sIf (gB (gBin (RCmp fun i j => decide (j < i)) (gBin RIx (gVar 0) (gC (.int 2))) (gC (.int 0))))
  (sSeq (sSet 3 (gBin RMod (gBin RIx (gVar 0) (gC (.int 2))) (gVar 1)))
 (sSeq (sAsg (gBin RFdiv (gBin RIx (gVar 0) (gC (.int 2))) (gVar 1)) (tgSub (gVar 0) (gC (.int 2))))
 (sRet (gVar 3))))
  sNext)
 (sSeq (sAsg (gBin RAdd (gBin RIx (gVar 0) (gC (.int 4))) (gC (.int 1))) (tgSub (gVar 0) (gC (.int 4))))
 (sSeq (sSet 4 (gBin RMod (gBin RAdd (gBin RIx (gVar 0) (gC (.int 3))) (gBin RMul (gBin RIx (gVar 0) (gC (.int 4))) (gC (.int 7919)))) (gC (.int 2147483647))))
 (sSeq (sAsg (gBin RMod (gBin RAdd (gBin RAdd (gBin RMul (gBin RMod (gBin RMul (gVar 4) (gVar 4)) (gC (.int 2147483629))) (gVar 4)) (gBin RMul (gC (.int 30029)) (gVar 4))) (gC (.int 1013))) (gC (.int 2147483647))) (tgSub (gVar 0) (gC (.int 3))))
 (sRet (gBin RMod (gBin RAdd (gBin RFdiv (gBin RIx (gVar 0) (gC (.int 3))) (gC (.int 67))) (gBin RMul (gBin RMod (gBin RIx (gVar 0) (gC (.int 3))) (gC (.int 8191))) (gC (.int 59)))) (gVar 1)))))))
    N [some (.ref b), some (.int m), o2, none, none] (put h b (bagL ns i g s c)) := by
  obtain ⟨b1, b2, b3, b4, b5, b6, b7⟩ := B
  refine ⟨_, rfl, _, RIx_own put_same rfl, _, rfl, _, rfl, ?_⟩
  refine ite2 (fun cg => ?_) (fun cg => ?_)
  · have hg : 0 < g := by simpa using cg
    have hk := fmod_in g hm
    refine ⟨_, rfl, _, RIx_own put_same rfl, _, rfl, _, ⟨by omega, rfl⟩, ?_⟩
    refine ⟨_, rfl, _, RIx_own put_same rfl, _, rfl, _, ⟨⟨by omega, hz⟩, rfl⟩, ?_⟩
    refine ⟨_, rfl, _, rfl, _, _, _, rfl, put_same, rfl, ?_⟩
    refine ⟨_, rfl, .inl ?_⟩
    rw [put_put]
    refine hN i (g.fdiv m) s c _ ⟨b1, b2, b3, ?_, b5, b6, b7⟩ hk.1 hk.2
    rw [Int.fdiv_eq_ediv_of_nonneg _ (by omega)]
    exact Int.ediv_nonneg b4 (by omega)
  · refine ⟨_, rfl, _, RIx_own put_same rfl, _, rfl, ?_⟩
    refine ⟨_, rfl, _, rfl, _, _, _, rfl, put_same, rfl, ?_⟩
    rw [put_put]
    refine ⟨_, rfl, _, RIx_own put_same rfl, _, rfl, _, RIx_own put_same rfl, _, ⟨mulR (by decide) (by decide), rfl⟩, _, rfl, _, ⟨by decide, rfl⟩, ?_⟩
    have hsd := fmod_in (s + (c + 1) * 7919) (show (0 : Int) < 2147483647 by decide)
    generalize (s + (c + 1) * 7919).fmod 2147483647 = sd at hsd
    have hq := fmod_in (sd * sd) (show (0 : Int) < 2147483629 by decide)
    refine ⟨_, rfl, _, rfl, _, ⟨mulR (by omega) (by omega), rfl⟩, _, ⟨by decide, rfl⟩, _, rfl, _, ⟨mulR (by omega) (by omega), rfl⟩, _, rfl, _, ⟨mulL (by decide) (by decide), rfl⟩, _, rfl, _, rfl, _, ⟨by decide, rfl⟩, ?_⟩
    refine ⟨_, rfl, _, rfl, _, _, _, rfl, put_same, rfl, ?_⟩
    rw [put_put]
    generalize hw : ((sd * sd).fmod 2147483629 * sd + 30029 * sd + 1013) = w
    have hs2 := fmod_in w (show (0 : Int) < 2147483647 by decide)
    refine ⟨_, rfl, _, RIx_own put_same rfl, _, ⟨⟨by decide, by decide +kernel⟩, rfl⟩, _, rfl, _, RIx_own put_same rfl, _, ⟨by decide, rfl⟩, _, ⟨mulR (by decide) (by decide), rfl⟩, _, rfl, _, rfl, _, ⟨by omega, rfl⟩, .inl ?_⟩
    have hk := fmod_in ((w.fmod 2147483647).fdiv 67 + (w.fmod 2147483647).fmod 8191 * 59) hm
    exact hN i g (w.fmod 2147483647) (c + 1) _ ⟨b1, b2, b3, b4, hs2.1, hs2.2, by omega⟩ hk.1 hk.2

theorem RLen_lst {h : GH} {ds : List D} : RLen h [.lst ds] (.int (ds.length : Nat)) := ⟨_, rfl, rfl⟩
theorem pure_law_pull0 (b : Addr) (m : Int) (h : GH) (ns : List Int) (i g s c : Int) (hm : 0 < m) (hz : m.natAbs.log2 < 9000) (B : BagIn ns i g s c) (N : GEnds)
    (hN : ∀ (i g s c k : Int), BagIn ns i g s c → 0 ≤ k → k < m → N.rt (.int k) (put h b (bagL ns i g s c))) :
    g_law_pull N [some (.ref b), some (.int m), none, none, none] (put h b (bagL ns i g s c)) := by
  have B0 := B
  obtain ⟨b1, b2, b3, b4, b5, b6, b7⟩ := B
  refine ⟨_, rfl, _, RIx_own put_same rfl, _, rfl, _, rfl, ?_⟩
  refine ite2 (fun c1 => ?_) (fun c1 => ?_)
  · refine ⟨_, rfl, _, RIx_own put_same rfl, _, rfl, _, RIx_own put_same rfl, _, RLen_lst, _, rfl, _, rfl, ?_⟩
    refine ite2 (fun c2 => ?_) (fun c2 => ?_)
    · have hi : i < (ns.length : Int) := by simpa using c2
      obtain ⟨v, hv⟩ := atI_ok b2 hi
      refine ⟨_, rfl, _, RIx_own put_same rfl, _, rfl, _, RIx_own put_same rfl, _, hv, ?_⟩
      refine ⟨_, rfl, _, RIx_own put_same rfl, _, rfl, ?_⟩
      refine ⟨_, rfl, _, rfl, _, _, _, rfl, put_same, rfl, ?_⟩
      rw [put_put]
      refine ⟨_, rfl, _, ⟨⟨by decide, by decide, by decide⟩, rfl⟩, _, rfl, _, rfl, ?_⟩
      refine ite2 (fun c3 => ?_) (fun c3 => ?_)
      · have hv : (10 : Int) ^ 18 ≤ v := by simpa using c3
        refine ⟨_, rfl, _, rfl, _, rfl, _, _, _, rfl, put_same, rfl, ?_⟩
        rw [put_put]
        exact pull_tail b m h ns (i + 1) v s c hm hz ⟨b1, by omega, by omega, by omega, b5, b6, b7⟩ _ N hN
      · refine ⟨_, rfl, _, RIx_own put_same rfl, _, ⟨mulR (by decide) (by decide), rfl⟩, _, rfl, _, ⟨by decide, rfl⟩, _, ⟨mulR (by decide) (by decide), rfl⟩, _, rfl, _, rfl, _, ⟨by decide, rfl⟩, ?_⟩
        refine ⟨_, rfl, _, rfl, _, _, _, rfl, put_same, rfl, ?_⟩
        rw [put_put]
        have hs2 := fmod_in (s * 40014 + v.fmod 2147483549 * 31 + 11) (show (0 : Int) < 2147483647 by decide)
        exact pull_tail b m h ns (i + 1) g _ c hm hz ⟨b1, by omega, by omega, b4, hs2.1, hs2.2, b7⟩ _ N hN
    · exact pull_tail b m h ns i g s c hm hz B0 _ N hN
  · refine iteF ?_
    exact pull_tail b m h ns i g s c hm hz B0 _ N hN
theorem len_law_pull (ds : List D) (h : GH) (P : GP) (hs : S_law_pull ds h P) : ds.length = 2 := by obtain ⟨a, b, rfl, _⟩ := hs; rfl
/-- the same domain -/
theorem Step.dom {h h1 : GH} {H : Hp} (e : ∀ a, h a = none → h1 a = none) : Step h H h1 H := ⟨fun _ _ _ _ q => q, fun a z => .inl fun y => z (e a y)⟩
theorem put_none {h : GH} {b : Addr} {g : GO} (e : h b ≠ none) (a : Addr) : h a = none ↔ put h b g a = none := by
  by_cases z : a = b
  · subst z
    rw [put_same]
    exact ⟨fun y => absurd y e, fun y => nomatch y⟩
  · rw [put_ne z]
theorem Dvs.ints {K : Fg} {h : GH} {H : Hp} : ∀ ns : List Int, Dvs K h H (ns.map V.int) (ns.map D.int)
  | [] => .nil
  | n :: r => .cons (.int n) (Dvs.ints r)
theorem Dvs.of_ints {K : Fg} {h : GH} {H : Hp} : ∀ {ns : List Int} {vs : List V}, Dvs K h H vs (ns.map D.int) → vs = ns.map V.int
  | [], _, k => by cases k; rfl
  | n :: r, _, k => by
    cases k with
    | cons a t =>
      cases a
      rw [Dvs.of_ints t]
      rfl
/-- the bag is opened -/
theorem bag_open {K : Fg} {h : GH} {H : Hp} {b : Addr} (re : Rel K h H) (e : h b = some .bag) : ∃ ns i g s c, BagIn ns i g s c ∧ Rel K (put h b (bagL ns i g s c)) H := by
  obtain ⟨l, ns, i, g, s, c, q, nl, ql, r⟩ := re b _ e
  refine ⟨ns, i, g, s, c, r, fun a u z => ?_⟩
  have st : Step h H (put h b (bagL ns i g s c)) H := Step.dom fun a y => (put_none (by rw [e]; simp) a).mp y
  by_cases hb : a = b
  · subst hb
    rw [put_same] at z
    cases z
    refine ⟨_, q, .cons (.lst (st.free nl ql) ql (Dvs.ints ns)) (.cons (.int i) (.cons (.int g) (.cons (.int s) (.cons (.int c) .nil))))⟩
  · rw [put_ne hb] at z
    exact (re a u z).mono st fun o q => q
/-- the bag is shut -/
theorem bag_shut {K : Fg} {h : GH} {H : Hp} {b : Addr} {ns : List Int} {i g s c : Int} (e : h b = some .bag) (B : BagIn ns i g s c) (re : Rel K (put h b (bagL ns i g s c)) H) : Rel K h H := fun a u z => by
  have st : Step (put h b (bagL ns i g s c)) H h H := Step.dom fun a y => (put_none (by rw [e]; simp) a).mpr y
  by_cases hb : a = b
  · subst hb
    rw [e] at z
    cases z
    obtain ⟨xs, q, rs⟩ := re a _ put_same
    cases rs with
    | cons a1 r =>
      cases a1 with
      | lst nl ql rl =>
        cases r with
        | cons a2 r =>
          cases a2
          cases r with
          | cons a3 r =>
            cases a3
            cases r with
            | cons a4 r =>
              cases a4
              cases r with
              | cons a5 r =>
                cases a5
                cases r
                have := Dvs.of_ints rl
                subst this
                exact ⟨_, ns, i, g, s, c, q, st.free nl ql, ql, B⟩
  · exact (re a u (by rw [put_ne hb]; exact z)).mono st fun o q => q
section
variable {P : Program} {w : World} {K : Fg} {mg : Str → Option Value} {base : Heap}
/-- the def that draws -/
theorem gfun_pull {st : Stmt} {f : Addr} {fd : FuncData} {k : Nat} (F : Fun K "_law_pull" "_law_pull" st f fd) (hm : mg "_law_pull" = some (.ref f)) (b : Binds K fd ["_law_bag_here", "_law_many"] []) (sc : FnScope ["_law_bag_here", "_law_many", "_law_cell", "_law_digit", "_law_seed"] ["_law_bag_here", "_law_many"] (defScope st))
    (hd : ∀ (cdv : Value) (A : Around) (outer : List Env) (s : Shared) (H : Hp) (E : XK), Room k (A.deeper (PyProof.Rows.envOfC "_law_pull" (defScope st) s.heap.objs.size f cdv)) → PSs (cxOf CX0 P w K mg base ["_law_bag_here", "_law_many", "_law_cell", "_law_digit", "_law_seed"] "_law_pull" (defScope st) f cdv A outer s H E).nox (defBody st) (gS K AN.top g_law_pull)) :
    Fc P w K mg base (k + 1) "_law_pull" S_law_pull := by
  refine ⟨f, ?_, hm, F.kp⟩
  have ok : FnOk P w K mg base CX0 (k + 1) f fd ["_law_bag_here", "_law_many"] (GSP K S_law_pull) := by
    refine F.ok sc (fun vs H Q E ⟨ds, h, P, re, dv, s, _⟩ => by rw [dv.length]; exact len_law_pull _ _ _ s) (fun cdv A outer s H vs Q E hr ⟨ds, h, P, re, dv, ⟨bb, m, e1, e2, h0, hz, hp⟩, kk⟩ => ⟨_, hd cdv A outer s H E hr, ?_⟩)
    subst e1
    obtain ⟨ns, i, g, sa, c, B, re1⟩ := bag_open re e2
    have st : Step h H (put h bb (bagL ns i g sa c)) H := Step.dom fun a y => (put_none (by rw [e2]; simp) a).mp y
    refine ⟨[some (.ref bb), some (.int m), none, none, none], put h bb (bagL ns i g sa c), { nx := fun _ _ => False, rt := fun d h' => ∃ i g s c k, BagIn ns i g s c ∧ 0 ≤ k ∧ k < m ∧ d = .int k ∧ h' = put h bb (bagL ns i g s c) }, re1, (Sl.begin dv trivial).mono st, pure_law_pull0 bb m h ns i g sa c h0 hz B _ fun i g s c k B' k0 k1 => ⟨i, g, s, c, k, B', k0, k1, rfl, rfl⟩, fun _ _ _ _ _ _ _ z => z.elim, fun v H' d h' st1 re' dv' p => ?_, fun _ _ _ _ _ _ _ z => z.elim, fun _ _ _ _ _ _ _ z => z.elim⟩
    obtain ⟨i', g', s', c', k', B', k0, k1, rfl, rfl⟩ := p
    have st2 : Step (put h bb (bagL ns i' g' s' c')) H' h H' := Step.dom fun a y => (put_none (by rw [e2]; simp) a).mpr y
    cases dv'
    exact kk _ H' _ h ((st.trans st1).trans st2) (bag_shut e2 B' re') (.int _) (hp _ k0 k1)
  exact (ok.raw b .nil).imp fun vs H Q E q => by rw [List.append_nil]; exact q
end
end Gh

set_option maxHeartbeats 1000000
namespace Gh
open PySem L2
/-! ## comprehensions, loops -/
inductive F2 {α β : Type} (R : α → β → Prop) : List α → List β → Prop
  | nil : F2 R [] []
  | cons {a : α} {b : β} {as : List α} {bs : List β} : R a b → F2 R as bs → F2 R (a :: as) (b :: bs)
theorem F2.length {α β : Type} {R : α → β → Prop} : ∀ {as : List α} {bs : List β}, F2 R as bs → as.length = bs.length
  | _, _, .nil => rfl
  | _, _, .cons _ r => by rw [List.length_cons, List.length_cons, F2.length r]
theorem F2.map_eq {α β : Type} {f : α → β} : ∀ {as : List α} {bs : List β}, F2 (fun a b => b = f a) as bs → bs = as.map f
  | _, _, .nil => rfl
  | _, _, .cons e r => by rw [List.map_cons, e, F2.map_eq r]
theorem F2.all {α β : Type} {R : α → β → Prop} {Q : β → Prop} (h : ∀ a b, R a b → Q b) : ∀ {as : List α} {bs : List β}, F2 R as bs → ∀ b ∈ bs, Q b
  | _, _, .nil, _, hb => nomatch hb
  | _, _, .cons e r, b, hb => by
    rcases List.mem_cons.mp hb with z | z
    · subst z; exact h _ _ e
    · exact F2.all h r b z
theorem put_old {h : GH} {p b : Addr} {g g' : GO} (n : h p = none) (e : h b = some g) : put h p g' b = some g := by
  rw [put_ne (fun z => by subst z; rw [n] at e; cases e)]
  exact e
theorem vw_put {h : GH} {p : Addr} {g : GO} {a d : D} (n : h p = none) (e : vw h a = d) (hd : ∀ q, d ≠ .ref q) : vw (put h p g) a = d := by
  cases a with
  | ref q =>
    by_cases z : q = p
    · subst z
      exfalso
      refine hd q ?_
      rw [← e]
      simp only [vw, n]
    · have : put h p g q = h q := put_ne z
      simp only [vw, this] at e ⊢
      exact e
  | _ => exact e
theorem comp_rel {i : Nat} {ge : gTE} {s : GS} {p : Addr} {P : List D → GH → Prop} {R : D → D → Prop} {h : GH} (n : h p = none) : ∀ (ds acc : List D),
    (∀ d ∈ ds, ∀ acc Q, (∀ y, R d y → Q y (put h p (.lst acc))) → ge (s.set i (some d)) (put h p (.lst acc)) Q) → acc.length + ds.length ≤ sizeLine → (∀ ys, F2 R ds ys → P (acc ++ ys) h) → gComp (tgName i) gYes ge s p P ds acc (put h p (.lst acc))
  | [], acc, _, _, k => by
    show P acc (del (put h p (.lst acc)) p)
    rw [put_del n]
    have := k [] .nil
    rwa [List.append_nil] at this
  | d :: r, acc, he, hz, k => by
    refine he d List.mem_cons_self acc _ fun y hy => ⟨by rw [List.length_cons] at hz; omega, put_same, ?_⟩
    rw [put_put]
    refine comp_rel n r (acc ++ [y]) (fun d' hd' => he d' (List.mem_cons_of_mem _ hd')) (by rw [List.length_append, List.length_singleton]; rw [List.length_cons] at hz; omega) fun ys hys => ?_
    rw [List.append_assoc]
    exact k (y :: ys) (.cons hy hys)
/-- a comprehension with a test -/
theorem comp_relIf {i : Nat} {ge : gTE} {gc : gTT} {s : GS} {p : Addr} {P : List D → GH → Prop} {R : D → D → Prop} {t : D → Bool} {h : GH} (n : h p = none) : ∀ (ds acc : List D),
    (∀ d ∈ ds, ∀ acc Q, Q (t d) (put h p (.lst acc)) → gc (s.set i (some d)) (put h p (.lst acc)) Q) →
    (∀ d ∈ ds, t d = true → ∀ acc Q, (∀ y, R d y → Q y (put h p (.lst acc))) → ge (s.set i (some d)) (put h p (.lst acc)) Q) → acc.length + ds.length ≤ sizeLine → (∀ ys, F2 R (ds.filter t) ys → P (acc ++ ys) h) → gComp (tgName i) gc ge s p P ds acc (put h p (.lst acc))
  | [], acc, _, _, _, k => by
    show P acc (del (put h p (.lst acc)) p)
    rw [put_del n]
    have := k [] .nil
    rwa [List.append_nil] at this
  | d :: r, acc, hc, he, hz, k => by
    refine hc d List.mem_cons_self acc _ ?_
    cases ht : t d with
    | true =>
      refine iteT (he d List.mem_cons_self ht acc _ fun y hy => ⟨by rw [List.length_cons] at hz; omega, put_same, ?_⟩)
      rw [put_put]
      refine comp_relIf n r (acc ++ [y]) (fun d' hd' => hc d' (List.mem_cons_of_mem _ hd')) (fun d' hd' => he d' (List.mem_cons_of_mem _ hd')) (by rw [List.length_append, List.length_singleton]; rw [List.length_cons] at hz; omega) fun ys hys => ?_
      rw [List.append_assoc]
      refine k (y :: ys) ?_
      rw [List.filter_cons, if_pos ht]
      exact .cons hy hys
    | false =>
      refine iteF ⟨put_same, ?_⟩
      refine comp_relIf n r acc (fun d' hd' => hc d' (List.mem_cons_of_mem _ hd')) (fun d' hd' => he d' (List.mem_cons_of_mem _ hd')) (by rw [List.length_cons] at hz; omega) fun ys hys => ?_
      refine k ys ?_
      rw [List.filter_cons, if_neg (by rw [ht]; exact Bool.false_ne_true)]
      exact hys
/-! ## the same data -/
def okD : Nat → D → Prop
  | _, .non => True
  | _, .bl _ => True
  | _, .int _ => True
  | _, .str _ => True
  | n + 1, .tup ds => ds.length ≤ sizeLine ∧ ∀ x ∈ ds, okD n x
  | n + 1, .lst ds => ds.length ≤ sizeLine ∧ ∀ x ∈ ds, okD n x
  | _, _ => False
def S_law_same (n : Nat) : GSpec := fun ds h P => ∃ a b d, ds = [a, b] ∧ vw h a = d ∧ vw h b = d ∧ okD n d ∧ P (.bl true) h
def S_prev (S : Nat → GSpec) : Nat → GSpec
  | 0 => fun _ _ _ => False
  | n + 1 => S n
theorem isN_vw {h : GH} {a d : D} (e : vw h a = d) : isN a = isN d := by
  subst e
  cases a with
  | ref p =>
    cases z : h p with
    | none => simp only [vw, z]
    | some g => cases g <;> simp only [vw, z] <;> rfl
  | _ => rfl
theorem kt1 : kitB "list" "list" = some true := by decide +kernel
theorem kt2 : kitB "list" "tuple" = some false := by decide +kernel
theorem kt3 : kitB "tuple" "list" = some false := by decide +kernel
theorem kt4 : kitB "tuple" "tuple" = some true := by decide +kernel
theorem kt5 : kitB "bool" "list" = some false := by decide +kernel
theorem kt6 : kitB "bool" "tuple" = some false := by decide +kernel
theorem kt7 : kitB "int" "list" = some false := by decide +kernel
theorem kt8 : kitB "int" "tuple" = some false := by decide +kernel
theorem kt9 : kitB "str" "list" = some false := by decide +kernel
theorem kt10 : kitB "str" "tuple" = some false := by decide +kernel
theorem kt11 : kitB "bool" "bool" = some true := by decide +kernel
theorem kt12 : kitB "bool" "int" = some true := by decide +kernel
theorem kt13 : kitB "bool" "str" = some false := by decide +kernel
theorem kt14 : kitB "int" "bool" = some false := by decide +kernel
theorem kt15 : kitB "int" "int" = some true := by decide +kernel
theorem kt16 : kitB "int" "str" = some false := by decide +kernel
theorem kt17 : kitB "str" "bool" = some false := by decide +kernel
theorem kt18 : kitB "str" "int" = some false := by decide +kernel
theorem kt19 : kitB "str" "str" = some true := by decide +kernel
theorem isi_of {h : GH} {a d : D} {n t : String} {r : Bool} (e : vw h a = d) (et : tyN d = some t) (ek : kitB t n = some r) : RIsi h [a, .ty n] (.bl r) := ⟨a, n, t, r, rfl, by rw [e]; exact et, ek, rfl⟩
theorem isi2_of {h : GH} {a d : D} {n m t : String} {r1 r2 : Bool} (e : vw h a = d) (et : tyN d = some t) (e1 : kitB t n = some r1) (e2 : kitB t m = some r2) : RIsi2 n m h a (.bl (r1 || r2)) := ⟨t, r1, r2, by rw [e]; exact et, e1, e2, rfl⟩
theorem eq_bl {h : GH} {neg a b : Bool} : REq neg h (.bl a) (.bl b) (.bl (if neg then !(a == b) else (a == b))) := ⟨_, _, rfl, rfl, rfl, rfl, rfl⟩
theorem len_of {h : GH} {a : D} {ds : List D} (e : vw h a = .lst ds ∨ vw h a = .tup ds) : RLen h [a] (.int (ds.length : Nat)) := by
  refine ⟨a, rfl, ?_⟩
  rcases e with e | e <;> rw [e]
theorem ix_of {h : GH} {a : D} {ds : List D} {i : Int} {c : D} (e : vw h a = .lst ds ∨ vw h a = .tup ds) (hc : atI ds i = some c) : RIx h a (.int i) c := by
  unfold RIx
  rcases e with e | e <;> rw [e] <;> exact hc
def g_law_same (S' : GSpec) : gTS := (sSeq (sIf (gOr (gB (gUn (RIsN false) (gVar 1))) (gB (gUn (RIsN false) (gVar 0))))
  (sRet (gAndV (gUn (RIsN false) (gVar 0)) (gUn (RIsN false) (gVar 1))))
  sNext)
 (sSeq (sIf (gB (gUn (RIsi2 "list" "tuple") (gVar 1)))
  (sSeq (sIf (gOr (gB (gBin (REq true) (gCB RIsi (aCons (gVar 0) (aCons (gC (.ty "list")) aNil))) (gCB RIsi (aCons (gVar 1) (aCons (gC (.ty "list")) aNil))))) (gB (gBin (REq true) (gCB RIsi (aCons (gVar 0) (aCons (gC (.ty "tuple")) aNil))) (gCB RIsi (aCons (gVar 1) (aCons (gC (.ty "tuple")) aNil))))))
  (sRet (gC (.bl false)))
  sNext)
 (sRet (gAndV (gBin (REq false) (gCB RLen (aCons (gVar 0) aNil)) (gCB RLen (aCons (gVar 1) aNil))) (gCB (RAll false) (aCons (gFr (fLc (iRg1 (aCons (gCB RLen (aCons (gVar 1) aNil)) aNil)) (tgName 2) gYes (gCall S' (aCons (gBin RIx (gVar 0) (gVar 2)) (aCons (gBin RIx (gVar 1) (gVar 2)) aNil))) [2])) aNil)))))
  sNext)
 (sSeq (sIf (gOr (gB (gBin (REq true) (gCB RIsi (aCons (gVar 1) (aCons (gC (.ty "bool")) aNil))) (gCB RIsi (aCons (gVar 0) (aCons (gC (.ty "bool")) aNil))))) (gB (gBin (REq true) (gCB RIsi (aCons (gVar 1) (aCons (gC (.ty "int")) aNil))) (gCB RIsi (aCons (gVar 0) (aCons (gC (.ty "int")) aNil))))))
  (sRet (gC (.bl false)))
  sNext)
 (sRet (gAndV (gBin (REq false) (gCB RIsi (aCons (gVar 1) (aCons (gC (.ty "str")) aNil))) (gCB RIsi (aCons (gVar 0) (aCons (gC (.ty "str")) aNil)))) (gBin (REq false) (gVar 0) (gVar 1)))))))
theorem un_isN {h : GH} {a : D} {b : Bool} (e : isN a = b) : RIsN false h a (.bl b) := by
  subst e
  rfl
theorem bls_true : ∀ {α : Type} (l : List α), bls (l.map fun _ => D.bl true) = some (l.map fun _ => true)
  | _, [] => rfl
  | _, a :: r => by
    show (bls (r.map fun _ => D.bl true)).map (true :: ·) = _
    rw [bls_true r]
    rfl
theorem same_seq {n : Nat} {a b : D} {xs : List D} {h : GH} {P : GP} {N : GEnds} (h2 : (vw h a = .lst xs ∧ vw h b = .lst xs) ∨ (vw h a = .tup xs ∧ vw h b = .tup xs)) (hz : xs.length ≤ sizeLine) (ho : ∀ x ∈ xs, okD n x) (hN : N.rt (.bl true) h) :
    (sRet (gAndV (gBin (REq false) (gCB RLen (aCons (gVar 0) aNil)) (gCB RLen (aCons (gVar 1) aNil))) (gCB (RAll false) (aCons (gFr (fLc (iRg1 (aCons (gCB RLen (aCons (gVar 1) aNil)) aNil)) (tgName 2) gYes (gCall (S_law_same n) (aCons (gBin RIx (gVar 0) (gVar 2)) (aCons (gBin RIx (gVar 1) (gVar 2)) aNil))) [2])) aNil)))) N [some a, some b, none] h := by
  have ha : vw h a = .lst xs ∨ vw h a = .tup xs := h2.elim (fun z => .inl z.1) (fun z => .inr z.1)
  have hb : vw h b = .lst xs ∨ vw h b = .tup xs := h2.elim (fun z => .inl z.2) (fun z => .inr z.2)
  have hs : sizeLine = 16777216 := sizeLine_eq
  refine ⟨_, rfl, _, len_of ha, _, rfl, _, len_of hb, _, rfl, _, rfl, ?_⟩
  refine ite2 (fun _ => ?_) (fun c => absurd (decide_eq_true rfl) c)
  refine ⟨_, rfl, _, len_of hb, _, rfl, ⟨by omega, by omega⟩, fun p hp => ?_⟩
  have ha2 : ∀ g, vw (put h p g) a = .lst xs ∨ vw (put h p g) a = .tup xs := fun g => ha.elim (fun z => .inl (vw_put hp z (fun _ q => nomatch q))) (fun z => .inr (vw_put hp z (fun _ q => nomatch q)))
  have hb2 : ∀ g, vw (put h p g) b = .lst xs ∨ vw (put h p g) b = .tup xs := fun g => hb.elim (fun z => .inl (vw_put hp z (fun _ q => nomatch q))) (fun z => .inr (vw_put hp z (fun _ q => nomatch q)))
  refine comp_rel (R := fun _ y => y = .bl true) hp _ [] (fun d hd acc Q hq => ?_) (by rw [rangeD_length, List.length_nil]; omega) fun ys hys => ?_
  · obtain ⟨i, hi, rfl⟩ : ∃ i : Nat, i < xs.length ∧ d = .int (0 + (i : Nat)) := by
      obtain ⟨i, hi⟩ := List.mem_iff_getElem?.mp hd
      have := rangeD_get hi
      exact ⟨i, by have := this.1; omega, this.2⟩
    have hx : atI xs (0 + (i : Nat)) = some xs[i] := by
      rw [Int.zero_add]
      exact atI_nat (List.getElem?_eq_getElem hi)
    have hox := ho xs[i] (List.getElem_mem hi)
    refine ⟨_, rfl, _, rfl, _, ix_of (ha2 _) hx, _, rfl, _, rfl, _, ix_of (hb2 _) hx, _, _, vw (put h p (.lst acc)) xs[i], rfl, rfl, rfl, ?_, hq _ rfl⟩
    cases hxi : xs[i] with
    | ref q => rw [hxi] at hox; cases n <;> exact hox.elim
    | _ => rw [hxi] at hox; exact hox
  · have e := F2.map_eq hys
    subst e
    rw [List.nil_append]
    refine ⟨_, ⟨_, _, _, rfl, rfl, bls_true _, rfl⟩, .inl ?_⟩
    have : ∀ l : List D, ((l.map fun _ => true).all id) = true := fun l => by
      rw [List.all_eq_true]
      intro x hx
      obtain ⟨_, _, rfl⟩ := List.mem_map.mp hx
      rfl
    show N.rt (.bl ((List.map (fun _ => true) _).all id)) h
    rw [this]
    exact hN
theorem pure_law_same (n : Nat) (ds : List D) (h : GH) (P : GP) (hs : S_law_same n ds h P) : g_law_same (S_prev S_law_same n) { nx := fun _ h' => P .non h', rt := P } (startG ["_law_found", "_law_due", "_law_k"] ds) h := by
  obtain ⟨a, b, d, rfl, ea, eb, ho, hp⟩ := hs
  show g_law_same _ _ [some a, some b, none] h
  have ia := isN_vw ea
  have ib := isN_vw eb
  cases d with
  | non =>
    refine ⟨_, rfl, _, un_isN ib, _, rfl, ?_⟩
    refine iteT (iteT ?_)
    refine ⟨_, rfl, _, un_isN ia, _, rfl, ?_⟩
    refine iteT ⟨_, rfl, _, un_isN ib, .inl hp⟩
  | ref p => cases n <;> exact ho.elim
  | ty p => cases n <;> exact ho.elim
  | fro p => cases n <;> exact ho.elim
  | bl x =>
    refine ⟨_, rfl, _, un_isN ib, _, rfl, iteF ⟨_, rfl, _, un_isN ia, _, rfl, iteF ?_⟩⟩
    refine ⟨_, rfl, _, isi2_of eb rfl kt5 kt6, _, rfl, iteF ?_⟩
    refine ⟨_, rfl, _, isi_of eb rfl kt11, _, rfl, _, isi_of ea rfl kt11, _, eq_bl, _, rfl, iteF ⟨_, rfl, _, isi_of eb rfl kt12, _, rfl, _, isi_of ea rfl kt12, _, eq_bl, _, rfl, iteF ?_⟩⟩
    refine ⟨_, rfl, _, isi_of eb rfl kt13, _, rfl, _, isi_of ea rfl kt13, _, eq_bl, _, rfl, iteT ⟨_, rfl, _, rfl, .bl true, ?_, .inl hp⟩⟩
    unfold REq
    rw [ea, eb]
    exact ⟨_, _, rfl, rfl, rfl, rfl, by cases x <;> rfl⟩
  | int x =>
    refine ⟨_, rfl, _, un_isN ib, _, rfl, iteF ⟨_, rfl, _, un_isN ia, _, rfl, iteF ?_⟩⟩
    refine ⟨_, rfl, _, isi2_of eb rfl kt7 kt8, _, rfl, iteF ?_⟩
    refine ⟨_, rfl, _, isi_of eb rfl kt14, _, rfl, _, isi_of ea rfl kt14, _, eq_bl, _, rfl, iteF ⟨_, rfl, _, isi_of eb rfl kt15, _, rfl, _, isi_of ea rfl kt15, _, eq_bl, _, rfl, iteF ?_⟩⟩
    refine ⟨_, rfl, _, isi_of eb rfl kt16, _, rfl, _, isi_of ea rfl kt16, _, eq_bl, _, rfl, iteT ⟨_, rfl, _, rfl, .bl true, ?_, .inl hp⟩⟩
    unfold REq
    rw [ea, eb]
    simp
  | str x =>
    refine ⟨_, rfl, _, un_isN ib, _, rfl, iteF ⟨_, rfl, _, un_isN ia, _, rfl, iteF ?_⟩⟩
    refine ⟨_, rfl, _, isi2_of eb rfl kt9 kt10, _, rfl, iteF ?_⟩
    refine ⟨_, rfl, _, isi_of eb rfl kt17, _, rfl, _, isi_of ea rfl kt17, _, eq_bl, _, rfl, iteF ⟨_, rfl, _, isi_of eb rfl kt18, _, rfl, _, isi_of ea rfl kt18, _, eq_bl, _, rfl, iteF ?_⟩⟩
    refine ⟨_, rfl, _, isi_of eb rfl kt19, _, rfl, _, isi_of ea rfl kt19, _, eq_bl, _, rfl, iteT ⟨_, rfl, _, rfl, .bl true, ?_, .inl hp⟩⟩
    unfold REq
    rw [ea, eb]
    simp
  | tup xs =>
    cases n with
    | zero => exact ho.elim
    | succ n =>
      refine ⟨_, rfl, _, un_isN ib, _, rfl, iteF ⟨_, rfl, _, un_isN ia, _, rfl, iteF ?_⟩⟩
      refine ⟨_, rfl, _, isi2_of eb rfl kt3 kt4, _, rfl, iteT ?_⟩
      refine ⟨_, rfl, _, isi_of ea rfl kt3, _, rfl, _, isi_of eb rfl kt3, _, eq_bl, _, rfl, iteF ⟨_, rfl, _, isi_of ea rfl kt4, _, rfl, _, isi_of eb rfl kt4, _, eq_bl, _, rfl, iteF ?_⟩⟩
      exact same_seq (P := P) (.inr ⟨ea, eb⟩) ho.1 ho.2 hp
  | lst xs =>
    cases n with
    | zero => exact ho.elim
    | succ n =>
      refine ⟨_, rfl, _, un_isN ib, _, rfl, iteF ⟨_, rfl, _, un_isN ia, _, rfl, iteF ?_⟩⟩
      refine ⟨_, rfl, _, isi2_of eb rfl kt1 kt2, _, rfl, iteT ?_⟩
      refine ⟨_, rfl, _, isi_of ea rfl kt1, _, rfl, _, isi_of eb rfl kt1, _, eq_bl, _, rfl, iteF ⟨_, rfl, _, isi_of ea rfl kt2, _, rfl, _, isi_of eb rfl kt2, _, eq_bl, _, rfl, iteF ?_⟩⟩
      exact same_seq (P := P) (.inl ⟨ea, eb⟩) ho.1 ho.2 hp
theorem len_law_same (n : Nat) (ds : List D) (h : GH) (P : GP) (hs : S_law_same n ds h P) : ds.length = 2 := by obtain ⟨a, b, _, rfl, _⟩ := hs; rfl
end Gh

set_option maxHeartbeats 1000000
namespace Gh
open PySem L2
/-! ## fractions -/
def isLow (p : Int × Int) : Prop := 0 < p.2 ∧ Int.gcd p.1 p.2 = 1
def Bf (B : Nat) (p : Int × Int) : Prop := 0 < p.2 ∧ p.1.natAbs < 2 ^ B ∧ p.2.natAbs < 2 ^ B
theorem low_low {a b : Int} (hb : 0 < b) : isLow (low a b) := by
  have hg := Int.gcd_pos_of_ne_zero_right a (show b ≠ 0 by omega)
  refine ⟨?_, Int.gcd_ediv_gcd_ediv_gcd hg⟩
  have hd := Int.gcd_dvd_right a b
  obtain ⟨c, hc⟩ := hd
  show 0 < b / (Int.gcd a b : Nat)
  generalize hgg : ((Int.gcd a b : Nat) : Int) = g at *
  rw [hc, Int.mul_ediv_cancel_left _ (by omega)]
  have hg0 : 0 < g := by omega
  rw [hc] at hb
  exact Int.pos_of_mul_pos_right hb (by omega)
theorem low_self {p : Int × Int} (h : isLow p) : low p.1 p.2 = p := by
  unfold low
  rw [h.2]
  show (p.1 / 1, p.2 / 1) = p
  rw [Int.ediv_one, Int.ediv_one]
theorem ediv_natAbs_le (a : Int) (g : Nat) : (a / (g : Nat)).natAbs ≤ a.natAbs := by
  exact Int.natAbs_ediv_le_natAbs a g
theorem low_bits {a b : Int} {k : Nat} (hb : 0 < b) (h1 : a.natAbs < 2 ^ k) (h2 : b.natAbs < 2 ^ k) : Bf k (low a b) :=
  ⟨(low_low hb).1, Nat.lt_of_le_of_lt (ediv_natAbs_le _ _) h1, Nat.lt_of_le_of_lt (ediv_natAbs_le _ _) h2⟩
def addF (p q : Int × Int) : Int × Int := low (p.1 * q.2 + q.1 * p.2) (p.2 * q.2)
def mulF (p q : Int × Int) : Int × Int := low (p.1 * q.1) (p.2 * q.2)
def sumF (ps : List (Int × Int)) : Int × Int := ps.foldl addF (0, 1)
def prodF (ps : List (Int × Int)) : Int × Int := ps.foldl mulF (1, 1)

theorem mulW {i j : Int} {a b : Nat} (ha : i.natAbs < 2 ^ a) (hb : j.natAbs < 2 ^ b) (h0 : 0 < a) (h1 : 0 < b) (h : a + b ≤ 1000000) : CMul i j ∨ CMulW i j := .inr (wide_mul ha hb h0 h1 h)
theorem mul_bits {i j : Int} {a b : Nat} (ha : i.natAbs < 2 ^ a) (hb : j.natAbs < 2 ^ b) : (i * j).natAbs < 2 ^ (a + b) := wide_lt ha hb
theorem add_bits {i j : Int} {a : Nat} (ha : i.natAbs < 2 ^ a) (hb : j.natAbs < 2 ^ a) : (i + j).natAbs < 2 ^ (a + 1) := by
  have := Int.natAbs_add_le i j
  rw [Nat.pow_succ]
  omega
theorem addF_bits {X B : Nat} {p q : Int × Int} (hp : Bf X p) (hq : Bf B q) : Bf (X + B + 1) (addF p q) := by
  refine low_bits (Int.mul_pos hp.1 hq.1) ?_ ?_
  · refine add_bits (mul_bits hp.2.1 hq.2.2) ?_
    rw [Nat.add_comm X B]
    exact mul_bits hq.2.1 hp.2.2
  · exact lt_pow_mono (mul_bits hp.2.2 hq.2.2) (by omega)
theorem mulF_bits {X B : Nat} {p q : Int × Int} (hp : Bf X p) (hq : Bf B q) : Bf (X + B + 1) (mulF p q) :=
  low_bits (Int.mul_pos hp.1 hq.1) (lt_pow_mono (mul_bits hp.2.1 hq.2.1) (by omega)) (lt_pow_mono (mul_bits hp.2.2 hq.2.2) (by omega))
theorem Bf.mono {a b : Nat} {p : Int × Int} (h : Bf a p) (hab : a ≤ b) : Bf b p := ⟨h.1, lt_pow_mono h.2.1 hab, lt_pow_mono h.2.2 hab⟩
/-! the defs of the program -/
def red (n d : Int) : Int × Int := if d < 0 then low (-n) (-d) else low n d
def S_reduced : GSpec := fun ds h P => ∃ n d : Int, ds = [.int n, .int d] ∧ d ≠ 0 ∧ d.natAbs < 2 ^ 9000 ∧ P (fr (red n d)) h
def g_reduced : gTS := (sSeq (sIf (gB (gBin (REq false) (gVar 1) (gC (.int 0))))
  sNever
  sNext)
 (sSeq (sSet 2 (gCall S_law_gcd (aCons (gVar 0) (aCons (gVar 1) aNil))))
 (sSeq (sIf (gB (gBin (RCmp fun i j => decide (i < j)) (gVar 1) (gC (.int 0))))
  (sSet 2 (gUn RNeg (gVar 2)))
  sNext)
 (sRet (gTup (aCons (gBin RFdiv (gVar 0) (gVar 2)) (aCons (gBin RFdiv (gVar 1) (gVar 2)) aNil)))))))
theorem pure_reduced (ds : List D) (h : GH) (P : GP) (hs : S_reduced ds h P) : g_reduced { nx := fun _ h' => P .non h', rt := P } (startG ["numerator", "denominator", "by"] ds) h := by
  obtain ⟨a, b, rfl, hb, hz, hp⟩ := hs
  have hg := gcd_div (a := a) hb hz
  refine ⟨_, rfl, _, rfl, _, rfl, ite2 (fun c => absurd (of_decide_eq_true c) hb) (fun _ => ?_)⟩
  refine ⟨_, rfl, _, rfl, a, b, rfl, ?_⟩
  refine ⟨_, rfl, _, rfl, _, rfl, ite2 (fun c => ?_) (fun c => ?_)⟩
  · have hn : b < 0 := of_decide_eq_true c
    refine ⟨_, rfl, _, rfl, ?_⟩
    have hg' : (-((Int.gcd a b : Nat) : Int)) ≠ 0 ∧ (-((Int.gcd a b : Nat) : Int)).natAbs.log2 < 9000 := ⟨by omega, by rw [Int.natAbs_neg]; exact hg.2⟩
    refine ⟨_, rfl, _, rfl, _, ⟨hg', rfl⟩, _, rfl, _, rfl, _, ⟨hg', rfl⟩, two_le, .inl ?_⟩
    have e : red a b = (a.fdiv (-((Int.gcd a b : Nat) : Int)), b.fdiv (-((Int.gcd a b : Nat) : Int))) := by
      unfold red low
      rw [if_pos hn, Int.gcd_neg, Int.neg_gcd]
      have q : ∀ x : Int, x.fdiv (-((Int.gcd a b : Nat) : Int)) = -x / ((Int.gcd a b : Nat) : Int) := fun x => by
        have := Int.neg_fdiv_neg (-x) ((Int.gcd a b : Nat) : Int)
        rw [Int.neg_neg] at this
        rw [this, Int.fdiv_eq_ediv_of_nonneg _ (by omega)]
      rw [q, q]
    rw [e] at hp
    exact hp
  · have hn : ¬ b < 0 := fun z => c (decide_eq_true z)
    refine ⟨_, rfl, _, rfl, _, ⟨hg, rfl⟩, _, rfl, _, rfl, _, ⟨hg, rfl⟩, two_le, .inl ?_⟩
    have e : red a b = (a.fdiv ((Int.gcd a b : Nat) : Int), b.fdiv ((Int.gcd a b : Nat) : Int)) := by
      unfold red low
      rw [if_neg hn, Int.fdiv_eq_ediv_of_nonneg _ (by omega), Int.fdiv_eq_ediv_of_nonneg _ (by omega)]
    rw [e] at hp
    exact hp
theorem len_reduced (ds : List D) (h : GH) (P : GP) (hs : S_reduced ds h P) : ds.length = 2 := by obtain ⟨a, b, rfl, _⟩ := hs; rfl
theorem red_pos {n d : Int} (h : 0 < d) : red n d = low n d := if_neg (by omega)
/-- parts[0], parts[1] -/
theorem ix0 {h : GH} {p : Int × Int} : RIx h (fr p) (.int 0) (.int p.1) := rfl
theorem ix1 {h : GH} {p : Int × Int} : RIx h (fr p) (.int 1) (.int p.2) := rfl
def S_total : GSpec := fun ds h P => ∃ (ps : List (Int × Int)) (B : Nat), (ds = [.lst (ps.map fr)] ∨ ds = [.tup (ps.map fr)]) ∧ 0 < B ∧ (∀ p ∈ ps, Bf B p) ∧ (ps.length + 1) * (B + 2) ≤ 4000 ∧ P (fr (sumF ps)) h
def b_total : gTS := (sSeq (sSet 1 (gBin RAdd (gBin RMul (gVar 1) (gBin RIx (gVar 3) (gC (.int 1)))) (gBin RMul (gBin RIx (gVar 3) (gC (.int 0))) (gVar 2))))
 (sSeq (sSet 2 (gBin RMul (gVar 2) (gBin RIx (gVar 3) (gC (.int 1)))))
 (sAsg (gCall S_reduced (aCons (gVar 1) (aCons (gVar 2) aNil))) (tgTup 2 (tgCons (tgName 1) (tgCons (tgName 2) tgNil))))))
def g_total : gTS := (sSeq (sAsg (gTup (aCons (gC (.int 0)) (aCons (gC (.int 1)) aNil))) (tgTup 2 (tgCons (tgName 1) (tgCons (tgName 2) tgNil))))
 (sSeq (sFor (iSeq (gVar 0)) (tgName 3)
  b_total)
 (sRet (gTup (aCons (gVar 1) (aCons (gVar 2) aNil))))))
theorem total_loop {d : D} {h : GH} {N : GEnds} {B : Nat} (hB : 0 < B) : ∀ (ps : List (Int × Int)) (X : Nat) (a b : Int) (o : Option D), 0 < X → Bf X (a, b) → (∀ p ∈ ps, Bf B p) → X + ps.length * (B + 2) ≤ 4000 → (∀ o', N.nx [some d, some (.int (ps.foldl addF (a, b)).1), some (.int (ps.foldl addF (a, b)).2), o'] h) →
    gLoop (tgName 3) b_total N (ps.map fr) [some d, some (.int a), some (.int b), o] h
  | [], X, a, b, o, _, _, _, _, k => k o
  | p :: r, X, a, b, o, hX, hab, hp, hz, k => by
    have hpp := hp p List.mem_cons_self
    rw [List.length_cons, Nat.succ_mul] at hz
    have m1 := mul_bits hab.2.1 hpp.2.2
    have m2 := mul_bits hpp.2.1 hab.2.2
    have m3 := mul_bits hab.2.2 hpp.2.2
    show b_total _ [some d, some (.int a), some (.int b), some (fr p)] h
    refine ⟨_, rfl, _, rfl, _, ix1, _, ⟨mulW hab.2.1 hpp.2.2 hX hB (by omega), rfl⟩, _, rfl, _, ix0, _, rfl, _, ⟨mulW hpp.2.1 hab.2.2 hB hX (by omega), rfl⟩, _, rfl, ?_⟩
    refine ⟨_, rfl, _, rfl, _, ix1, _, ⟨mulW hab.2.2 hpp.2.2 hX hB (by omega), rfl⟩, ?_⟩
    have hd : 0 < b * p.2 := Int.mul_pos hab.1 hpp.1
    refine ⟨_, rfl, _, rfl, _, _, rfl, by omega, lt_pow_mono m3 (by omega), ?_⟩
    rw [red_pos hd]
    refine ⟨_, rfl, rfl, _, _, rfl, _, _, rfl, rfl, ?_⟩
    have e : low (a * p.2 + p.1 * b) (b * p.2) = addF (a, b) p := rfl
    rw [e]
    exact total_loop hB r (X + B + 1) (addF (a, b) p).1 (addF (a, b) p).2 _ (by omega) (addF_bits hab hpp) (fun q hq => hp q (List.mem_cons_of_mem _ hq)) (by omega) k
theorem one_bits {B : Nat} (h : 0 < B) : (1 : Int).natAbs < 2 ^ B := by
  show 1 < 2 ^ B
  exact Nat.one_lt_two_pow (by omega)
theorem zero_bits {B : Nat} : (0 : Int).natAbs < 2 ^ B := Nat.pow_pos (by decide)
theorem pure_total (ds : List D) (h : GH) (P : GP) (hs : S_total ds h P) : g_total { nx := fun _ h' => P .non h', rt := P } (startG ["parts", "numerator", "denominator", "part"] ds) h := by
  obtain ⟨ps, B, hd, hB, hp, hz, k⟩ := hs
  have go : ∀ d : D, (∀ Q : List D → GH → Prop, Q (ps.map fr) h → (match d with
  | .lst ds => Q ds h
  | .tup ds => Q ds h
  | .str x => Q (strD x) h
  | _ => False)) → g_total { nx := fun _ h' => P .non h', rt := P } [some d, none, none, none] h := fun d hq => by
    refine ⟨two_le, _, rfl, rfl, _, _, rfl, _, _, rfl, rfl, ?_⟩
    refine ⟨_, rfl, hq _ ?_⟩
    refine total_loop hB ps 1 0 1 none (by decide) ⟨by decide, zero_bits, one_bits (by decide)⟩ hp (by rw [Nat.succ_mul] at hz; omega) fun o' => ?_
    refine ⟨_, rfl, _, rfl, two_le, .inl k⟩
  rcases hd with rfl | rfl
  · exact go _ fun Q q => q
  · exact go _ fun Q q => q
theorem len_total (ds : List D) (h : GH) (P : GP) (hs : S_total ds h P) : ds.length = 1 := by obtain ⟨ps, B, rfl | rfl, _⟩ := hs <;> rfl
def S_plus : GSpec := fun ds h P => ∃ (ps : List (Int × Int)) (B : Nat), ds = ps.map fr ∧ 0 < B ∧ (∀ p ∈ ps, Bf B p) ∧ (ps.length + 1) * (B + 2) ≤ 4000 ∧ P (fr (sumF ps)) h
def g_plus : gTS := (sRet (gCall S_total (aCons (gVar 0) aNil)))
theorem pure_plus (ds : List D) (h : GH) (P : GP) (hs : S_plus ds h P) : g_plus { nx := fun _ h' => P .non h', rt := P } (startG ["parts"] [.tup ds]) h := by
  obtain ⟨ps, B, rfl, hB, hp, hz, k⟩ := hs
  exact ⟨_, rfl, ps, B, .inr rfl, hB, hp, hz, .inl k⟩
theorem len_plus (ds : List D) (h : GH) (P : GP) (hs : S_plus ds h P) : ds.length ≤ sizeLine := by
  obtain ⟨ps, B, rfl, hB, hp, hz, k⟩ := hs
  rw [List.length_map, sizeLine_eq]
  have : ps.length + 1 ≤ (ps.length + 1) * (B + 2) := Nat.le_mul_of_pos_right _ (by omega)
  omega
def S_times : GSpec := fun ds h P => ∃ (ps : List (Int × Int)) (B : Nat), ds = ps.map fr ∧ 0 < B ∧ (∀ p ∈ ps, Bf B p) ∧ (ps.length + 1) * (B + 2) ≤ 4000 ∧ P (fr (prodF ps)) h
def b_times : gTS := (sAsg (gCall S_reduced (aCons (gBin RMul (gVar 1) (gBin RIx (gVar 3) (gC (.int 0)))) (aCons (gBin RMul (gVar 2) (gBin RIx (gVar 3) (gC (.int 1)))) aNil))) (tgTup 2 (tgCons (tgName 1) (tgCons (tgName 2) tgNil))))
def g_times : gTS := (sSeq (sAsg (gTup (aCons (gC (.int 1)) (aCons (gC (.int 1)) aNil))) (tgTup 2 (tgCons (tgName 1) (tgCons (tgName 2) tgNil))))
 (sSeq (sFor (iSeq (gVar 0)) (tgName 3)
  b_times)
 (sRet (gTup (aCons (gVar 1) (aCons (gVar 2) aNil))))))
theorem times_loop {d : D} {h : GH} {N : GEnds} {B : Nat} (hB : 0 < B) : ∀ (ps : List (Int × Int)) (X : Nat) (a b : Int) (o : Option D), 0 < X → Bf X (a, b) → (∀ p ∈ ps, Bf B p) → X + ps.length * (B + 2) ≤ 4000 → (∀ o', N.nx [some d, some (.int (ps.foldl mulF (a, b)).1), some (.int (ps.foldl mulF (a, b)).2), o'] h) →
    gLoop (tgName 3) b_times N (ps.map fr) [some d, some (.int a), some (.int b), o] h
  | [], X, a, b, o, _, _, _, _, k => k o
  | p :: r, X, a, b, o, hX, hab, hp, hz, k => by
    have hpp := hp p List.mem_cons_self
    rw [List.length_cons, Nat.succ_mul] at hz
    have m3 := mul_bits hab.2.2 hpp.2.2
    show b_times _ [some d, some (.int a), some (.int b), some (fr p)] h
    have hd : 0 < b * p.2 := Int.mul_pos hab.1 hpp.1
    refine ⟨_, rfl, _, rfl, _, ix0, _, ⟨mulW hab.2.1 hpp.2.1 hX hB (by omega), rfl⟩, _, rfl, _, rfl, _, ix1, _, ⟨mulW hab.2.2 hpp.2.2 hX hB (by omega), rfl⟩, _, _, rfl, by omega, lt_pow_mono m3 (by omega), ?_⟩
    rw [red_pos hd]
    refine ⟨_, rfl, rfl, _, _, rfl, _, _, rfl, rfl, ?_⟩
    have e : low (a * p.1) (b * p.2) = mulF (a, b) p := rfl
    rw [e]
    exact times_loop hB r (X + B + 1) (mulF (a, b) p).1 (mulF (a, b) p).2 _ (by omega) (mulF_bits hab hpp) (fun q hq => hp q (List.mem_cons_of_mem _ hq)) (by omega) k
theorem pure_times (ds : List D) (h : GH) (P : GP) (hs : S_times ds h P) : g_times { nx := fun _ h' => P .non h', rt := P } (startG ["parts", "numerator", "denominator", "part"] [.tup ds]) h := by
  obtain ⟨ps, B, rfl, hB, hp, hz, k⟩ := hs
  refine ⟨two_le, _, rfl, rfl, _, _, rfl, _, _, rfl, rfl, ?_⟩
  refine ⟨_, rfl, ?_⟩
  refine times_loop hB ps 1 1 1 none (by decide) ⟨by decide, one_bits (by decide), one_bits (by decide)⟩ hp (by rw [Nat.succ_mul] at hz; omega) fun o' => ?_
  exact ⟨_, rfl, _, rfl, two_le, .inl k⟩
theorem len_times (ds : List D) (h : GH) (P : GP) (hs : S_times ds h P) : ds.length ≤ sizeLine := by
  obtain ⟨ps, B, rfl, hB, hp, hz, k⟩ := hs
  rw [List.length_map, sizeLine_eq]
  have : ps.length + 1 ≤ (ps.length + 1) * (B + 2) := Nat.le_mul_of_pos_right _ (by omega)
  omega
def negF (p : Int × Int) : Int × Int := (-p.1, p.2)
def S_negative : GSpec := fun ds h P => ∃ p, ds = [fr p] ∧ P (fr (negF p)) h
def g_negative : gTS := (sRet (gTup (aCons (gUn RNeg (gBin RIx (gVar 0) (gC (.int 0)))) (aCons (gBin RIx (gVar 0) (gC (.int 1))) aNil))))
theorem pure_negative (ds : List D) (h : GH) (P : GP) (hs : S_negative ds h P) : g_negative { nx := fun _ h' => P .non h', rt := P } (startG ["part"] ds) h := by
  obtain ⟨p, rfl, k⟩ := hs
  exact ⟨_, rfl, _, ix0, _, rfl, _, rfl, _, ix1, two_le, .inl k⟩
theorem len_negative (ds : List D) (h : GH) (P : GP) (hs : S_negative ds h P) : ds.length = 1 := by obtain ⟨p, rfl, _⟩ := hs; rfl
def g_law_neg : gTS := (sRet (gTup (aCons (gBin RSub (gC (.int 0)) (gBin RIx (gVar 0) (gC (.int 0)))) (aCons (gBin RIx (gVar 0) (gC (.int 1))) aNil))))
theorem pure_law_neg (ds : List D) (h : GH) (P : GP) (hs : S_negative ds h P) : g_law_neg { nx := fun _ h' => P .non h', rt := P } (startG ["_law_p"] ds) h := by
  obtain ⟨p, rfl, k⟩ := hs
  refine ⟨_, rfl, _, ix0, _, rfl, _, rfl, _, ix1, two_le, .inl ?_⟩
  have e : negF p = (0 - p.1, p.2) := by unfold negF; rw [Int.zero_sub]
  rw [e] at k
  exact k
def ordF (p q : Int × Int) : Int := (if decide (q.1 * p.2 < p.1 * q.2) = true then 1 else 0) - (if decide (p.1 * q.2 < q.1 * p.2) = true then 1 else 0)
def S_order : GSpec := fun ds h P => ∃ p q B, ds = [fr p, fr q] ∧ 0 < B ∧ B ≤ 4000 ∧ Bf B p ∧ Bf B q ∧ P (.int (ordF p q)) h
def g_order : gTS := (sSeq (sPar 2 3 (aCons (gBin RMul (gBin RIx (gVar 0) (gC (.int 0))) (gBin RIx (gVar 1) (gC (.int 1)))) (aCons (gBin RMul (gBin RIx (gVar 1) (gC (.int 0))) (gBin RIx (gVar 0) (gC (.int 1)))) aNil)))
 (sRet (gBin RSub (gCB RInt (aCons (gBin (RCmp fun i j => decide (j < i)) (gVar 2) (gVar 3)) aNil)) (gCB RInt (aCons (gBin (RCmp fun i j => decide (i < j)) (gVar 2) (gVar 3)) aNil)))))
theorem pure_order (ds : List D) (h : GH) (P : GP) (hs : S_order ds h P) : g_order { nx := fun _ h' => P .non h', rt := P } (startG ["one", "other", "left", "right"] ds) h := by
  obtain ⟨p, q, B, rfl, hB, hB2, hp, hq, k⟩ := hs
  refine ⟨_, rfl, _, ix0, _, rfl, _, ix1, _, ⟨mulW hp.2.1 hq.2.2 hB hB (by omega), rfl⟩, _, rfl, _, ix0, _, rfl, _, ix1, _, ⟨mulW hq.2.1 hp.2.2 hB hB (by omega), rfl⟩, _, _, rfl, ?_⟩
  exact ⟨_, rfl, _, rfl, _, rfl, _, ⟨_, rfl, rfl⟩, _, rfl, _, rfl, _, rfl, _, ⟨_, rfl, rfl⟩, _, rfl, .inl k⟩
theorem len_order (ds : List D) (h : GH) (P : GP) (hs : S_order ds h P) : ds.length = 2 := by obtain ⟨p, q, B, rfl, _⟩ := hs; rfl
/-! the law's own -/
def S_law_add : GSpec := fun ds h P => ∃ p q B, ds = [fr p, fr q] ∧ 0 < B ∧ B ≤ 4000 ∧ Bf B p ∧ Bf B q ∧ P (fr (addF p q)) h
def g_law_add : gTS := (sRet (gCall S_law_low (aCons (gBin RAdd (gBin RMul (gBin RIx (gVar 0) (gC (.int 0))) (gBin RIx (gVar 1) (gC (.int 1)))) (gBin RMul (gBin RIx (gVar 1) (gC (.int 0))) (gBin RIx (gVar 0) (gC (.int 1))))) (aCons (gBin RMul (gBin RIx (gVar 0) (gC (.int 1))) (gBin RIx (gVar 1) (gC (.int 1)))) aNil))))
theorem pure_law_add (ds : List D) (h : GH) (P : GP) (hs : S_law_add ds h P) : g_law_add { nx := fun _ h' => P .non h', rt := P } (startG ["_law_p", "_law_q"] ds) h := by
  obtain ⟨p, q, B, rfl, hB, hB2, hp, hq, k⟩ := hs
  have hd : 0 < p.2 * q.2 := Int.mul_pos hp.1 hq.1
  exact ⟨_, rfl, _, ix0, _, rfl, _, ix1, _, ⟨mulW hp.2.1 hq.2.2 hB hB (by omega), rfl⟩, _, rfl, _, ix0, _, rfl, _, ix1, _, ⟨mulW hq.2.1 hp.2.2 hB hB (by omega), rfl⟩, _, rfl, _, rfl, _, ix1, _, rfl, _, ix1, _, ⟨mulW hp.2.2 hq.2.2 hB hB (by omega), rfl⟩,
    _, _, rfl, by omega, lt_pow_mono (mul_bits hp.2.2 hq.2.2) (by omega), .inl k⟩
theorem len_law_add (ds : List D) (h : GH) (P : GP) (hs : S_law_add ds h P) : ds.length = 2 := by obtain ⟨p, q, B, rfl, _⟩ := hs; rfl
def S_law_mul : GSpec := fun ds h P => ∃ p q B, ds = [fr p, fr q] ∧ 0 < B ∧ B ≤ 4000 ∧ Bf B p ∧ Bf B q ∧ P (fr (mulF p q)) h
def g_law_mul : gTS := (sRet (gCall S_law_low (aCons (gBin RMul (gBin RIx (gVar 0) (gC (.int 0))) (gBin RIx (gVar 1) (gC (.int 0)))) (aCons (gBin RMul (gBin RIx (gVar 0) (gC (.int 1))) (gBin RIx (gVar 1) (gC (.int 1)))) aNil))))
theorem pure_law_mul (ds : List D) (h : GH) (P : GP) (hs : S_law_mul ds h P) : g_law_mul { nx := fun _ h' => P .non h', rt := P } (startG ["_law_p", "_law_q"] ds) h := by
  obtain ⟨p, q, B, rfl, hB, hB2, hp, hq, k⟩ := hs
  have hd : 0 < p.2 * q.2 := Int.mul_pos hp.1 hq.1
  exact ⟨_, rfl, _, ix0, _, rfl, _, ix0, _, ⟨mulW hp.2.1 hq.2.1 hB hB (by omega), rfl⟩, _, rfl, _, ix1, _, rfl, _, ix1, _, ⟨mulW hp.2.2 hq.2.2 hB hB (by omega), rfl⟩,
    _, _, rfl, by omega, lt_pow_mono (mul_bits hp.2.2 hq.2.2) (by omega), .inl k⟩
theorem len_law_mul (ds : List D) (h : GH) (P : GP) (hs : S_law_mul ds h P) : ds.length = 2 := by obtain ⟨p, q, B, rfl, _⟩ := hs; rfl
def S_law_less : GSpec := fun ds h P => ∃ p q B, ds = [fr p, fr q] ∧ 0 < B ∧ B ≤ 4000 ∧ Bf B p ∧ Bf B q ∧ P (.bl (decide (p.1 * q.2 < q.1 * p.2))) h
def g_law_less : gTS := (sRet (gBin (RCmp fun i j => decide (i < j)) (gBin RMul (gBin RIx (gVar 0) (gC (.int 0))) (gBin RIx (gVar 1) (gC (.int 1)))) (gBin RMul (gBin RIx (gVar 1) (gC (.int 0))) (gBin RIx (gVar 0) (gC (.int 1))))))
theorem pure_law_less (ds : List D) (h : GH) (P : GP) (hs : S_law_less ds h P) : g_law_less { nx := fun _ h' => P .non h', rt := P } (startG ["_law_p", "_law_q"] ds) h := by
  obtain ⟨p, q, B, rfl, hB, hB2, hp, hq, k⟩ := hs
  exact ⟨_, rfl, _, ix0, _, rfl, _, ix1, _, ⟨mulW hp.2.1 hq.2.2 hB hB (by omega), rfl⟩, _, rfl, _, ix0, _, rfl, _, ix1, _, ⟨mulW hq.2.1 hp.2.2 hB hB (by omega), rfl⟩, _, rfl, .inl k⟩
theorem len_law_less (ds : List D) (h : GH) (P : GP) (hs : S_law_less ds h P) : ds.length = 2 := by obtain ⟨p, q, B, rfl, _⟩ := hs; rfl
def g_law_sum : gTS := (sSeq (sSet 1 (gTup (aCons (gC (.int 0)) (aCons (gC (.int 1)) aNil))))
 (sSeq (sFor (iSeq (gVar 0)) (tgName 2)
  (sSet 1 (gCall S_law_add (aCons (gVar 1) (aCons (gVar 2) aNil)))))
 (sRet (gVar 1))))
theorem sum_loop {d : D} {h : GH} {N : GEnds} {B : Nat} (hB : 0 < B) : ∀ (ps : List (Int × Int)) (X : Nat) (a : Int × Int) (o : Option D), 0 < X → B ≤ X → Bf X a → (∀ p ∈ ps, Bf B p) → X + ps.length * (B + 2) ≤ 4000 → (∀ o', N.nx [some d, some (fr (ps.foldl addF a)), o'] h) →
    gLoop (tgName 2) (sSet 1 (gCall S_law_add (aCons (gVar 1) (aCons (gVar 2) aNil)))) N (ps.map fr) [some d, some (fr a), o] h
  | [], X, a, o, _, _, _, _, _, k => k o
  | p :: r, X, a, o, hX, hBX, ha, hp, hz, k => by
    have hpp := hp p List.mem_cons_self
    rw [List.length_cons, Nat.succ_mul] at hz
    refine ⟨_, rfl, _, rfl, a, p, X, rfl, hX, by omega, ha, hpp.mono hBX, ?_⟩
    exact sum_loop hB r (X + B + 1) (addF a p) _ (by omega) (by omega) (addF_bits ha hpp) (fun q hq => hp q (List.mem_cons_of_mem _ hq)) (by omega) k
theorem pure_law_sum (ds : List D) (h : GH) (P : GP) (hs : S_total ds h P) : g_law_sum { nx := fun _ h' => P .non h', rt := P } (startG ["_law_parts", "_law_found", "_law_part"] ds) h := by
  obtain ⟨ps, B, hd, hB, hp, hz, k⟩ := hs
  have go : ∀ d : D, (∀ Q : List D → GH → Prop, Q (ps.map fr) h → (match d with
  | .lst ds => Q ds h
  | .tup ds => Q ds h
  | .str x => Q (strD x) h
  | _ => False)) → g_law_sum { nx := fun _ h' => P .non h', rt := P } [some d, none, none] h := fun d hq => by
    refine ⟨two_le, _, rfl, hq _ ?_⟩
    exact sum_loop hB ps B (0, 1) none hB (Nat.le_refl _) ⟨by decide, zero_bits, one_bits hB⟩ hp (by rw [Nat.succ_mul] at hz; omega) fun o' => ⟨_, rfl, .inl k⟩
  rcases hd with rfl | rfl
  · exact go _ fun Q q => q
  · exact go _ fun Q q => q
/-! ## one of some -/
def seqOf (h : GH) (d : D) : Option (List D) := match vw h d with
  | .lst xs => some xs
  | .tup xs => some xs
  | .str x => some (strD x)
  | _ => none
def S_law_of : GSpec := fun ds h P => ∃ (b : Addr) (d : D) (xs : List D), ds = [.ref b, d] ∧ h b = some .bag ∧ seqOf h d = some xs ∧ xs ≠ [] ∧ xs.length ≤ sizeLine ∧ ∀ x ∈ xs, P x h
def g_law_of : gTS := (sRet (gBin RIx (gVar 1) (gCall S_law_pull (aCons (gVar 0) (aCons (gCB RLen (aCons (gVar 1) aNil)) aNil)))))
theorem small_log {n : Nat} (h : n ≤ 2 ^ 64) : n.log2 < 9000 := log2_of (Nat.lt_of_le_of_lt h (Nat.pow_lt_pow_right (by decide) (by decide))) (by decide)
theorem pure_law_of (ds : List D) (h : GH) (P : GP) (hs : S_law_of ds h P) : g_law_of { nx := fun _ h' => P .non h', rt := P } (startG ["_law_bag_here", "_law_some"] ds) h := by
  obtain ⟨b, d, xs, rfl, hb, hq, hne, hz, k⟩ := hs
  have hl : 0 < xs.length := List.length_pos_iff.mpr hne
  rw [sizeLine_eq] at hz
  have fin : ∀ i : Int, 0 ≤ i → i < (xs.length : Int) → ∃ x, atI xs i = some x ∧ x ∈ xs := fun i h0 h1 => by
    have hi : i.toNat < xs.length := by omega
    refine ⟨xs[i.toNat], ?_, List.getElem_mem hi⟩
    have e : ((i.toNat : Nat) : Int) = i := by omega
    have q : atI xs ((i.toNat : Nat) : Int) = some xs[i.toNat] := atI_nat (List.getElem?_eq_getElem hi)
    rw [e] at q
    exact q
  unfold seqOf at hq
  refine ⟨_, rfl, _, rfl, _, rfl, ?_⟩
  split at hq
  · rename_i ys e
    cases hq
    refine ⟨_, len_of (.inl e), b, _, rfl, hb, by omega, small_log (by omega), fun i h0 h1 => ?_⟩
    obtain ⟨x, hx, hm⟩ := fin i h0 h1
    exact ⟨x, ix_of (.inl e) hx, .inl (k x hm)⟩
  · rename_i ys e
    cases hq
    refine ⟨_, len_of (.inr e), b, _, rfl, hb, by omega, small_log (by omega), fun i h0 h1 => ?_⟩
    obtain ⟨x, hx, hm⟩ := fin i h0 h1
    exact ⟨x, ix_of (.inr e) hx, .inl (k x hm)⟩
  · rename_i z e
    cases hq
    have hlen : (strD z).length = z.length := by unfold strD; simp [Str.length]
    rw [hlen] at hz hl
    refine ⟨.int (z.length : Nat), ⟨d, rfl, ?_⟩, b, _, rfl, hb, by omega, small_log (by omega), fun i h0 h1 => ?_⟩
    · rw [e]; exact ⟨by rw [sizeLine_eq]; exact hz, rfl⟩
    · have hi : i.toNat < z.cps.toList.length := by
        have : z.cps.toList.length = z.length := by simp [Str.length]
        omega
      have ei : ((i.toNat : Nat) : Int) = i := by omega
      have q : atI z.cps.toList ((i.toNat : Nat) : Int) = some z.cps.toList[i.toNat] := atI_nat (List.getElem?_eq_getElem hi)
      rw [ei] at q
      refine ⟨.str ⟨#[z.cps.toList[i.toNat]]⟩, ?_, .inl (k _ ?_)⟩
      · unfold RIx
        rw [e]
        exact ⟨by rw [sizeLine_eq]; exact hz, _, q, rfl⟩
      · unfold strD
        exact List.mem_map.mpr ⟨_, List.getElem_mem hi, rfl⟩
  · cases hq
theorem len_law_of (ds : List D) (h : GH) (P : GP) (hs : S_law_of ds h P) : ds.length = 2 := by obtain ⟨b, d, xs, rfl, _⟩ := hs; rfl
/-! ## a drawn fraction -/
def S_law_ratio : GSpec := fun ds h P => ∃ (b : Addr) (m : Int), ds = [.ref b, .int m] ∧ h b = some .bag ∧ 0 < m ∧ m ≤ 2 ^ 60 ∧ ∀ p : Int × Int, isLow p → p.1.natAbs ≤ (max 10 m).natAbs → p.2.natAbs ≤ (max 10 m).natAbs → P (fr p) h
def g_law_ratio : gTS := (sSeq (sSet 2 (gCall S_law_of (aCons (gVar 0) (aCons (gFr (fLst (aCons (gC (.int 3)) (aCons (gC (.int 10)) (aCons (gVar 1) aNil))))) aNil))))
 (sRet (gCall S_law_low (aCons (gBin RSub (gCall S_law_pull (aCons (gVar 0) (aCons (gBin RAdd (gBin RMul (gC (.int 2)) (gVar 2)) (gC (.int 1))) aNil))) (gVar 2)) (aCons (gBin RAdd (gC (.int 1)) (gCall S_law_pull (aCons (gVar 0) (aCons (gVar 2) aNil)))) aNil)))))
theorem pure_law_ratio (ds : List D) (h : GH) (P : GP) (hs : S_law_ratio ds h P) : g_law_ratio { nx := fun _ h' => P .non h', rt := P } (startG ["_law_bag_here", "_law_most", "_law_top"] ds) h := by
  obtain ⟨b, m, rfl, hb, h0, hz, k⟩ := hs
  refine ⟨_, rfl, _, rfl, by show 3 ≤ sizeLine; decide, b, _, _, rfl, hb, rfl, (fun q => nomatch q), by show 3 ≤ sizeLine; decide, fun x hx => ?_⟩
  obtain ⟨t, rfl, t0, t1, t2⟩ : ∃ t : Int, x = .int t ∧ 0 < t ∧ t ≤ max 10 m ∧ t ≤ 2 ^ 60 := by
    rcases List.mem_cons.mp hx with rfl | hx
    · exact ⟨3, rfl, by decide, by omega, by decide⟩
    · rcases List.mem_cons.mp hx with rfl | hx
      · exact ⟨10, rfl, by decide, by omega, by decide⟩
      · rcases List.mem_cons.mp hx with rfl | hx
        · exact ⟨m, rfl, h0, by omega, hz⟩
        · cases hx
  have e0 : ∀ n : Int, 0 ≤ n → n ≤ 2 ^ 62 → n.natAbs.log2 < 9000 := fun n a1 a2 => small_log (by omega)
  refine ⟨_, rfl, _, rfl, _, ⟨mulL (by decide) (by decide), rfl⟩, _, rfl, b, _, rfl, hb, by omega, e0 _ (by omega) (by omega), fun u u0 u1 => ?_⟩
  refine ⟨_, rfl, _, rfl, _, rfl, _, rfl, b, _, rfl, hb, t0, e0 _ (by omega) (by omega), fun v v0 v1 => ?_⟩
  refine ⟨_, rfl, _, _, rfl, by omega, ?_, .inl ?_⟩
  · have : (1 + v).natAbs ≤ 2 ^ 61 := by omega
    exact Nat.lt_of_le_of_lt this (Nat.pow_lt_pow_right (by decide) (by decide))
  · refine k _ (low_low (by omega)) (Nat.le_trans (ediv_natAbs_le _ _) ?_) (Nat.le_trans (ediv_natAbs_le _ _) ?_)
    · omega
    · omega
theorem len_law_ratio (ds : List D) (h : GH) (P : GP) (hs : S_law_ratio ds h P) : ds.length = 2 := by obtain ⟨b, d, rfl, _⟩ := hs; rfl
end Gh

set_option maxHeartbeats 1000000
namespace Gh
open PySem L2
/-! ## the bag is made -/
def S_law_bag : GSpec := fun ds h P => ∃ ns : List Int, ds = [.fro (ns.map .int)] ∧ ns.length ≤ 63 ∧ ∀ b, h b = none → P (.ref b) (put h b .bag)
def g_law_bag : gTS := (sSeq (sSet 1 (gC (.int 3801)))
 (sSeq (sFor (iSeq (gSl (gVar 0) gNoPart (gPart (gC (.int 63))))) (tgName 2)
  (sSet 1 (gBin RMod (gBin RAdd (gBin RAdd (gBin RMul (gVar 1) (gC (.int 52163))) (gBin RMod (gVar 2) (gC (.int 2147483549)))) (gC (.int 17))) (gC (.int 2147483647)))))
 (sRetO (fLst (aCons (gFr (fList (aCons (gSl (gVar 0) gNoPart (gPart (gC (.int 63)))) aNil))) (aCons (gC (.int 0)) (aCons (gC (.int 0)) (aCons (gVar 1) (aCons (gC (.int 0)) aNil)))))))))
theorem cut63 {α : Type} (xs : List α) (h : xs.length ≤ 63) : cutD xs none (some 63) = xs := by
  unfold cutD
  rw [HT.sIx_none, List.drop_zero, Nat.sub_zero]
  have e : HT.sIx xs.length xs.length (some 63) = min 63 xs.length := HT.sIx_nat xs.length xs.length 63
  rw [e, Nat.min_eq_right h, List.take_length]
theorem bag_loop {d : D} {h : GH} {N : GEnds} (k : ∀ (s : Int) (o : Option D), 0 ≤ s → s < 2147483647 → N.nx [some d, some (.int s), o] h) : ∀ (ns : List Int) (s : Int) (o : Option D), 0 ≤ s → s < 2147483647 →
    gLoop (tgName 2) (sSet 1 (gBin RMod (gBin RAdd (gBin RAdd (gBin RMul (gVar 1) (gC (.int 52163))) (gBin RMod (gVar 2) (gC (.int 2147483549)))) (gC (.int 17))) (gC (.int 2147483647)))) N (ns.map .int) [some d, some (.int s), o] h
  | [], s, o, h0, h1 => k s o h0 h1
  | n :: r, s, o, h0, h1 => by
    have hs := fmod_in (s * 52163 + n.fmod 2147483549 + 17) (show (0 : Int) < 2147483647 by decide)
    refine ⟨_, rfl, _, ⟨mulR (by decide) (by decide), rfl⟩, _, rfl, _, ⟨by decide, rfl⟩, _, rfl, _, rfl, _, ⟨by decide, rfl⟩, ?_⟩
    exact bag_loop k r _ _ hs.1 hs.2
theorem pure_law_bag (ns : List Int) (hl : ns.length ≤ 63) (h : GH) (N : GEnds) (k : ∀ (s : Int) (p : Addr), 0 ≤ s → s < 2147483647 → h p = none → N.rt (.ref p) (put h p (bagL ns 0 0 s 0))) : g_law_bag N [some (.fro (ns.map .int)), none, none] h := by
  have hc : cutD (ns.map D.int) none (some 63) = ns.map D.int := cut63 _ (by rw [List.length_map]; exact hl)
  refine ⟨_, rfl, _, rfl, _, rfl, ?_⟩
  show gLoop _ _ _ (cutD (ns.map D.int) none (some 63)) _ h
  rw [hc]
  refine bag_loop (fun s o h0 h1 => ?_) ns 3801 none (by decide) (by decide)
  refine ⟨_, rfl, _, rfl, _, rfl, _, _, rfl, .inl rfl, ?_⟩
  rw [hc]
  exact ⟨_, rfl, by show 5 ≤ sizeLine; decide, fun p hp => k s p h0 h1 hp⟩
theorem len_law_bag (ds : List D) (h : GH) (P : GP) (hs : S_law_bag ds h P) : ds.length = 1 := by obtain ⟨a, rfl, _⟩ := hs; rfl
section
variable {P : Program} {w : World} {K : Fg} {mg : Str → Option Value} {base : Heap}
theorem gfun_bag {st : Stmt} {f : Addr} {fd : FuncData} {k : Nat} (F : Fun K "_law_bag" "_law_bag" st f fd) (hm : mg "_law_bag" = some (.ref f)) (b : Binds K fd ["_law_script"] []) (sc : FnScope ["_law_script", "_law_salt", "_law_cell"] ["_law_script"] (defScope st))
    (hd : ∀ (cdv : Value) (A : Around) (outer : List Env) (s : Shared) (H : Hp) (E : XK), Room k (A.deeper (PyProof.Rows.envOfC "_law_bag" (defScope st) s.heap.objs.size f cdv)) → PSs (cxOf CX0 P w K mg base ["_law_script", "_law_salt", "_law_cell"] "_law_bag" (defScope st) f cdv A outer s H E).nox (defBody st) (gS K AN.top g_law_bag)) :
    Fc P w K mg base (k + 1) "_law_bag" S_law_bag := by
  refine ⟨f, ?_, hm, F.kp⟩
  have ok : FnOk P w K mg base CX0 (k + 1) f fd ["_law_script"] (GSP K S_law_bag) := by
    refine F.ok sc (fun vs H Q E ⟨ds, h, P, re, dv, s, _⟩ => by rw [dv.length]; exact len_law_bag _ _ _ s) (fun cdv A outer s H vs Q E hr ⟨ds, h, P, re, dv, ⟨ns, e1, hl, hp⟩, kk⟩ => ⟨_, hd cdv A outer s H E hr, ?_⟩)
    subst e1
    refine ⟨[some (.fro (ns.map .int)), none, none], h, { nx := fun _ _ => False, rt := fun d h' => ∃ s p, 0 ≤ s ∧ s < 2147483647 ∧ h p = none ∧ d = .ref p ∧ h' = put h p (bagL ns 0 0 s 0) }, re, Sl.begin dv trivial, pure_law_bag ns hl h _ fun s p h0 h1 n => ⟨s, p, h0, h1, n, rfl, rfl⟩, fun _ _ _ _ _ _ _ z => z.elim, fun v H' d h' st1 re' dv' p => ?_, fun _ _ _ _ _ _ _ z => z.elim, fun _ _ _ _ _ _ _ z => z.elim⟩
    obtain ⟨sa, q, h0, h1, n, rfl, rfl⟩ := p
    cases dv'
    have e : put (put h q GO.bag) q (bagL ns 0 0 sa 0) = put h q (bagL ns 0 0 sa 0) := put_put
    have re2 : Rel K (put h q GO.bag) H' := bag_shut (b := q) (ns := ns) (i := 0) (g := 0) (s := sa) (c := 0) put_same ⟨hl, by decide, by omega, by decide, h0, h1, by decide⟩ (by rw [e]; exact re')
    have st2 : Step (put h q (bagL ns 0 0 sa 0)) H' (put h q GO.bag) H' := Step.dom fun a y => by
      by_cases z : a = q
      · subst z; rw [put_same] at y; cases y
      · rw [put_ne z] at y ⊢; exact y
    exact kk _ H' _ _ (st1.trans st2) re2 (.ref q) (hp q n)
  exact (ok.raw b .nil).imp fun vs H Q E q => by rw [List.append_nil]; exact q
/-- a def that calls itself, with no call left -/
theorem fc_none {x : Str} {st : Stmt} {f : Addr} {fd : FuncData} (F : Fun K x x st f fd) (hm : mg x = some (.ref f)) : Fc P w K mg base 0 x (fun _ _ _ => False) :=
  ⟨f, fun A outer s H us vs Q E _ _ _ ⟨_, _, _, _, _, z, _⟩ => z.elim, hm, F.kp⟩
/-! ## the law itself -/
/-- what law(script) promises: for a list of at most 63 ints the answer is True -/
def S_law : GSpec := fun ds h P => ∃ ns : List Int, ds = [.fro (ns.map .int)] ∧ ns.length ≤ 63 ∧ h = (fun _ => none) ∧ ∀ h', P (.bl true) h'
def spLaw (K : Fg) : Sp := fun vs H Q _ => ∃ (a : Addr) (ns : List Int), vs = [.ref a] ∧ SqL K H a (ns.map V.int) ∧ ns.length ≤ 63 ∧ ∀ H', Q (.bl true) H'
theorem law_of {x : Str} {st : Stmt} {f : Addr} {fd : FuncData} {N ps : List Str} {k : Nat} {g : gTS} (F : Fun K x x st f fd) (sc : FnScope N ps (defScope st)) (hps : ps.length = 1)
    (hd : ∀ (cdv : Value) (A : Around) (outer : List Env) (s : Shared) (H : Hp) (E : XK), Room k (A.deeper (PyProof.Rows.envOfC x (defScope st) s.heap.objs.size f cdv)) → PSs (cxOf CX0 P w K mg base N x (defScope st) f cdv A outer s H E).nox (defBody st) (gS K AN.top g))
    (hg : ∀ (ns : List Int), ns.length ≤ 63 → g { nx := fun _ _ => False, rt := fun d _ => d = .bl true } (startG N [.fro (ns.map .int)]) (fun _ => none)) : FnOk P w K mg base CX0 (k + 1) f fd ps (spLaw K) := by
  refine F.ok sc (fun vs H Q E ⟨a, ns, e, _⟩ => by subst e; exact hps.symm) (fun cdv A outer s H vs Q E hr ⟨a, ns, e, hS, hl, kk⟩ => ⟨_, hd cdv A outer s H E hr, ?_⟩)
  subst e
  have dv : Dvs K (fun _ => none) H [.ref a] [.fro (ns.map .int)] := .cons (.fro (hS.elim (fun z => .inl ⟨rfl, z⟩) .inr) (Dvs.ints ns)) .nil
  exact ⟨startG N [.fro (ns.map .int)], fun _ => none, _, (fun _ _ z => nomatch z), Sl.begin dv trivial, hg ns hl, fun _ _ _ _ _ _ _ z => z.elim, fun v H' d h' st re' dv' p => by subst p; cases dv'; exact kk H', fun _ _ _ _ _ _ _ z => z.elim, fun _ _ _ _ _ _ _ z => z.elim⟩
end
end Gh

set_option maxHeartbeats 1000000
namespace Gh
open PySem L2
/-! ## more on fractions -/
theorem addF_zero {p : Int × Int} (h : isLow p) : addF (0, 1) p = p := by
  have e : addF (0, 1) p = low p.1 p.2 := by
    unfold addF
    show low (0 * p.2 + p.1 * 1) (1 * p.2) = _
    rw [Int.zero_mul, Int.zero_add, Int.mul_one, Int.one_mul]
  rw [e, low_self h]
theorem mulF_one {p : Int × Int} (h : isLow p) : mulF (1, 1) p = p := by
  have e : mulF (1, 1) p = low p.1 p.2 := by
    unfold mulF
    show low (1 * p.1) (1 * p.2) = _
    rw [Int.one_mul, Int.one_mul]
  rw [e, low_self h]
theorem addF_low {p q : Int × Int} (hp : 0 < p.2) (hq : 0 < q.2) : isLow (addF p q) := low_low (Int.mul_pos hp hq)
theorem mulF_low {p q : Int × Int} (hp : 0 < p.2) (hq : 0 < q.2) : isLow (mulF p q) := low_low (Int.mul_pos hp hq)
theorem low_spec {n d : Int} (hd : 0 < d) : ∃ g : Int, 0 < g ∧ n = g * (low n d).1 ∧ d = g * (low n d).2 := by
  have hg := Int.gcd_pos_of_ne_zero_right n (show d ≠ 0 by omega)
  refine ⟨(Int.gcd n d : Nat), by omega, ?_, ?_⟩
  · exact (Int.mul_ediv_cancel' (Int.gcd_dvd_left n d)).symm
  · exact (Int.mul_ediv_cancel' (Int.gcd_dvd_right n d)).symm
theorem lt_scale {g x y : Int} (hg : 0 < g) : g * x < g * y ↔ x < y := Int.mul_lt_mul_left hg
theorem ord_low {n d n' d' : Int} (hd : 0 < d) (hd' : 0 < d') : ordF (low n d) (low n' d') = ordF (n, d) (n', d') := by
  obtain ⟨g, hg, e1, e2⟩ := low_spec (n := n) hd
  obtain ⟨g', hg', e3, e4⟩ := low_spec (n := n') hd'
  have hgg : 0 < g * g' := Int.mul_pos hg hg'
  generalize low n d = p at *
  generalize low n' d' = q at *
  have a1 : n' * d = (g * g') * (q.1 * p.2) := by rw [e2, e3]; ac_rfl
  have a2 : n * d' = (g * g') * (p.1 * q.2) := by rw [e1, e4]; ac_rfl
  unfold ordF
  show _ = (if decide (n' * d < n * d') = true then (1 : Int) else 0) - (if decide (n * d' < n' * d) = true then 1 else 0)
  rw [a1, a2]
  simp only [decide_eq_true_eq, lt_scale hgg]
theorem ord_add {a b c : Int × Int} (ha : 0 < a.2) (hb : 0 < b.2) (hc : 0 < c.2) : ordF (addF a c) (addF b c) = ordF a b := by
  unfold addF
  rw [ord_low (Int.mul_pos ha hc) (Int.mul_pos hb hc)]
  have hcc : 0 < c.2 * c.2 := Int.mul_pos hc hc
  have i1 : (b.1 * c.2 + c.1 * b.2) * (a.2 * c.2) = (c.2 * c.2) * (b.1 * a.2) + c.1 * b.2 * a.2 * c.2 := by
    rw [Int.add_mul]
    have q1 : b.1 * c.2 * (a.2 * c.2) = (c.2 * c.2) * (b.1 * a.2) := by ac_rfl
    have q2 : c.1 * b.2 * (a.2 * c.2) = c.1 * b.2 * a.2 * c.2 := by ac_rfl
    rw [q1, q2]
  have i2 : (a.1 * c.2 + c.1 * a.2) * (b.2 * c.2) = (c.2 * c.2) * (a.1 * b.2) + c.1 * b.2 * a.2 * c.2 := by
    rw [Int.add_mul]
    have q1 : a.1 * c.2 * (b.2 * c.2) = (c.2 * c.2) * (a.1 * b.2) := by ac_rfl
    have q2 : c.1 * a.2 * (b.2 * c.2) = c.1 * b.2 * a.2 * c.2 := by ac_rfl
    rw [q1, q2]
  unfold ordF
  dsimp only
  rw [i1, i2]
  have j1 : ((c.2 * c.2) * (b.1 * a.2) + c.1 * b.2 * a.2 * c.2 < (c.2 * c.2) * (a.1 * b.2) + c.1 * b.2 * a.2 * c.2) ↔ b.1 * a.2 < a.1 * b.2 := by
    rw [Int.add_lt_add_iff_right, lt_scale hcc]
  have j2 : ((c.2 * c.2) * (a.1 * b.2) + c.1 * b.2 * a.2 * c.2 < (c.2 * c.2) * (b.1 * a.2) + c.1 * b.2 * a.2 * c.2) ↔ a.1 * b.2 < b.1 * a.2 := by
    rw [Int.add_lt_add_iff_right, lt_scale hcc]
  simp only [decide_eq_true_eq, j1, j2]
theorem ord_swap (a b : Int × Int) : ordF b a = 0 - ordF a b := by unfold ordF; omega
theorem ord_self (a : Int × Int) : ordF a a = 0 := by unfold ordF; omega
theorem fold_low (f : Int × Int → Int × Int → Int × Int) (hf : ∀ p q : Int × Int, 0 < p.2 → 0 < q.2 → isLow (f p q)) : ∀ (ps : List (Int × Int)) (a : Int × Int), isLow a → (∀ p ∈ ps, 0 < p.2) → isLow (ps.foldl f a)
  | [], a, h, _ => h
  | p :: r, a, h, hp => fold_low f hf r (f a p) (hf a p h.1 (hp p List.mem_cons_self)) fun q hq => hp q (List.mem_cons_of_mem _ hq)
theorem fold_bits {B : Nat} : ∀ (ps : List (Int × Int)) (X : Nat) (a : Int × Int), Bf X a → (∀ p ∈ ps, Bf B p) → Bf (X + ps.length * (B + 1)) (ps.foldl mulF a)
  | [], X, a, h, _ => by simpa using h
  | p :: r, X, a, h, hp => by
    have := fold_bits r (X + B + 1) (mulF a p) (mulF_bits h (hp p List.mem_cons_self)) fun q hq => hp q (List.mem_cons_of_mem _ hq)
    rw [List.length_cons, Nat.succ_mul]
    exact this.mono (by omega)
/-! ## data of fractions -/
theorem okD_fr (n : Nat) (p : Int × Int) : okD (n + 1) (fr p) := ⟨two_le, fun x hx => by
  rcases List.mem_cons.mp hx with rfl | hx
  · cases n <;> trivial
  · rcases List.mem_cons.mp hx with rfl | hx
    · cases n <;> trivial
    · cases hx⟩
theorem okD_lst {n : Nat} {ds : List D} (hz : ds.length ≤ sizeLine) (h : ∀ x ∈ ds, okD n x) : okD (n + 1) (.lst ds) := ⟨hz, h⟩
def prP (p : Int × Int) : PyData := .tuple [.int p.1, .int p.2]
theorem toP_fr (p : Int × Int) : toP (fr p) = some (prP p) := rfl
theorem toPs_fr : ∀ ps : List (Int × Int), toPs (ps.map fr) = some (ps.map prP)
  | [] => rfl
  | p :: r => by
    show (toP (fr p)).bind (fun x => (toPs (r.map fr)).map (x :: ·)) = _
    rw [toP_fr, toPs_fr r]
    rfl
theorem lay_fr : ∀ ps : List (Int × Int), PyData.canLayAll0 (ps.map prP) = true
  | [] => rfl
  | p :: r => by
    show ((prP p).canLay0 && PyData.canLayAll0 (r.map prP)) = true
    rw [lay_fr r]
    rfl
theorem depth_fr : ∀ ps : List (Int × Int), PyData.depthAll (ps.map prP) ≤ 1
  | [] => by decide
  | p :: r => by
    show max (prP p).depth (PyData.depthAll (r.map prP)) ≤ 1
    have := depth_fr r
    have e : (prP p).depth = 1 := rfl
    omega
theorem shaped_fr (ps : List (Int × Int)) : SeqAt.shaped (.list (ps.map prP)) = true := by
  unfold SeqAt.shaped
  have h1 : (PyData.list (ps.map prP)).canLay0 = true := lay_fr ps
  have h2 : (PyData.list (ps.map prP)).depth ≤ 64 := by
    have : (PyData.list (ps.map prP)).depth = PyData.depthAll (ps.map prP) + 1 := rfl
    have := depth_fr ps
    omega
  rw [h1, decide_eq_true h2]
  rfl
theorem ne_same {h : GH} {ps : List (Int × Int)} : REq true h (.lst (ps.map fr)) (.lst (ps.map fr)) (.bl false) := by
  have e : toP (.lst (ps.map fr)) = some (.list (ps.map prP)) := by
    show (toPs (ps.map fr)).map PyData.list = _
    rw [toPs_fr]
    rfl
  refine ⟨_, _, e, e, shaped_fr ps, shaped_fr ps, ?_⟩
  have := SeqAt.eqv_refl (.list (ps.map prP)) (lay_fr ps)
  rw [this]
  rfl
theorem ne_nil {h : GH} {ps : List (Int × Int)} : ∃ b, REq true h (.lst (ps.map fr)) (.lst []) (.bl b) ∧ (b = true → ps ≠ []) := by
  have e : toP (.lst (ps.map fr)) = some (.list (ps.map prP)) := by
    show (toPs (ps.map fr)).map PyData.list = _
    rw [toPs_fr]
    rfl
  refine ⟨_, ⟨_, _, e, rfl, shaped_fr ps, rfl, rfl⟩, fun hb z => ?_⟩
  subst z
  cases hb
theorem F2.frs {α : Type} {Good : Int × Int → Prop} : ∀ {as : List α} {ys : List D}, F2 (fun _ y => ∃ q, y = fr q ∧ Good q) as ys → ∃ qs : List (Int × Int), ys = qs.map fr ∧ qs.length = as.length ∧ ∀ q ∈ qs, Good q
  | _, _, .nil => ⟨[], rfl, rfl, fun _ h => nomatch h⟩
  | _, _, .cons ⟨q, e, g⟩ r => by
    obtain ⟨qs, e2, hl, hg⟩ := F2.frs r
    refine ⟨q :: qs, by rw [e, e2]; rfl, by rw [List.length_cons, List.length_cons, hl], fun x hx => ?_⟩
    rcases List.mem_cons.mp hx with rfl | hx
    · exact g
    · exact hg x hx
theorem of_le {q : Int × Int} {m B : Nat} (hl : isLow q) (h1 : q.1.natAbs ≤ m) (h2 : q.2.natAbs ≤ m) (hm : m < 2 ^ B) : Bf B q := ⟨hl.1, Nat.lt_of_le_of_lt h1 hm, Nat.lt_of_le_of_lt h2 hm⟩
theorem mem3 {α : Type} {P : α → Prop} {a b c : α} (ha : P a) (hb : P b) (hc : P c) : ∀ x ∈ [a, b, c], P x := fun x hx => by
  rcases List.mem_cons.mp hx with rfl | hx
  · exact ha
  · rcases List.mem_cons.mp hx with rfl | hx
    · exact hb
    · rcases List.mem_cons.mp hx with rfl | hx
      · exact hc
      · cases hx
theorem mem2 {α : Type} {P : α → Prop} {a b : α} (ha : P a) (hb : P b) : ∀ x ∈ [a, b], P x := fun x hx => by
  rcases List.mem_cons.mp hx with rfl | hx
  · exact ha
  · rcases List.mem_cons.mp hx with rfl | hx
    · exact hb
    · cases hx
theorem mem1 {α : Type} {P : α → Prop} {a : α} (ha : P a) : ∀ x ∈ [a], P x := fun x hx => by
  rcases List.mem_cons.mp hx with rfl | hx
  · exact ha
  · cases hx
theorem memC {α : Type} {P : α → Prop} {a : α} {l : List α} (ha : P a) (hl : ∀ x ∈ l, P x) : ∀ x ∈ a :: l, P x := fun x hx => by
  rcases List.mem_cons.mp hx with rfl | hx
  · exact ha
  · exact hl x hx
theorem memN {α : Type} {P : α → Prop} : ∀ x ∈ ([] : List α), P x := fun _ h => nomatch h
theorem okI (n : Nat) (i : Int) : okD n (.int i) := by cases n <;> trivial
theorem okB (n : Nat) (i : Bool) : okD n (.bl i) := by cases n <;> trivial
theorem okS (n : Nat) (i : Str) : okD n (.str i) := by cases n <;> trivial
theorem okN (n : Nat) : okD n .non := by cases n <;> trivial
/-- equal data -/
theorem same_of {n : Nat} {h : GH} {P : GP} {a b d : D} (ea : a = d) (eb : b = d) (hv : vw h d = d) (ho : okD n d) (k : P (.bl true) h) : S_law_same n [a, b] h P := by
  subst ea eb
  exact ⟨_, _, _, rfl, hv, hv, ho, k⟩
end Gh

set_option maxHeartbeats 1000000
namespace Gh
open PySem L2
theorem comp_map {α : Type} {i : Nat} {ge : gTE} {s : GS} {p : Addr} {P : List D → GH → Prop} {h : GH} (f g : α → D) (n : h p = none) : ∀ (l : List α) (acc : List D),
    (∀ a ∈ l, ∀ acc Q, Q (g a) (put h p (.lst acc)) → ge (s.set i (some (f a))) (put h p (.lst acc)) Q) → acc.length + l.length ≤ sizeLine → P (acc ++ l.map g) h → gComp (tgName i) gYes ge s p P (l.map f) acc (put h p (.lst acc))
  | [], acc, _, _, k => by
    show P acc (del (put h p (.lst acc)) p)
    rw [put_del n]
    rwa [List.map_nil, List.append_nil] at k
  | a :: r, acc, he, hz, k => by
    refine he a List.mem_cons_self acc _ ⟨by rw [List.length_cons] at hz; omega, put_same, ?_⟩
    rw [put_put]
    refine comp_map f g n r (acc ++ [g a]) (fun d' hd' => he d' (List.mem_cons_of_mem _ hd')) (by rw [List.length_append, List.length_singleton]; rw [List.length_cons] at hz; omega) ?_
    rw [List.append_assoc]
    exact k
/-- a whole new list, from nothing -/
theorem lc_map {α : Type} {i : Nat} {ge : gTE} {s : GS} {p : Addr} {P : List D → GH → Prop} {h : GH} (f g : α → D) (n : h p = none) (l : List α) (hz : l.length ≤ sizeLine)
    (he : ∀ a ∈ l, ∀ acc Q, Q (g a) (put h p (.lst acc)) → ge (s.set i (some (f a))) (put h p (.lst acc)) Q) (k : P (l.map g) h) : gComp (tgName i) gYes ge s p P (l.map f) [] (put h p (.lst [])) :=
  comp_map f g n l [] he (by rw [List.length_nil]; omega) k
theorem lc_rel {i : Nat} {ge : gTE} {s : GS} {p : Addr} {P : List D → GH → Prop} {R : D → D → Prop} {h : GH} (n : h p = none) (ds : List D) (hz : ds.length ≤ sizeLine)
    (he : ∀ d ∈ ds, ∀ acc Q, (∀ y, R d y → Q y (put h p (.lst acc))) → ge (s.set i (some d)) (put h p (.lst acc)) Q) (k : ∀ ys, F2 R ds ys → P ys h) : gComp (tgName i) gYes ge s p P ds [] (put h p (.lst [])) :=
  comp_rel n ds [] he (by rw [List.length_nil]; omega) k
theorem bls_map {α : Type} (f : α → Bool) : ∀ l : List α, bls (l.map fun a => D.bl (f a)) = some (l.map f)
  | [] => rfl
  | a :: r => by
    show (bls (r.map fun a => D.bl (f a))).map (f a :: ·) = _
    rw [bls_map f r]
    rfl
theorem all_of {α : Type} {h : GH} (f : α → Bool) (l : List α) : RAll false h [.lst (l.map fun a => .bl (f a))] (.bl (l.all f)) :=
  ⟨_, _, _, rfl, rfl, bls_map f l, by show _ = D.bl ((l.map f).all id); rw [List.all_map]; rfl⟩
theorem any_of {α : Type} {h : GH} (f : α → Bool) (l : List α) : RAll true h [.lst (l.map fun a => .bl (f a))] (.bl (l.any f)) :=
  ⟨_, _, _, rfl, rfl, bls_map f l, by show _ = D.bl ((l.map f).any id); rw [List.any_map]; rfl⟩
theorem atomVs_strs : ∀ l : List Str, atomVs (l.map D.str) = some (l.map V.str)
  | [] => rfl
  | a :: r => by
    show (some (V.str a)).bind (fun x => (atomVs (r.map D.str)).map (x :: ·)) = _
    rw [atomVs_strs r]
    rfl
/-! ## texts -/
theorem split_parts (x y : Str) : Txt.split x y ≠ [] ∧ ∀ p ∈ Txt.split x y, p.length ≤ x.length := by
  unfold Txt.split
  split
  · exact ⟨by simp, fun p hp => by rw [List.mem_singleton.mp hp]; exact Nat.le_refl _⟩
  · split
    · exact ⟨by simp, fun p hp => by rw [List.mem_singleton.mp hp]; exact Nat.le_refl _⟩
    · refine ⟨?_, fun p hp => ?_⟩
      · unfold Builtin.Str.partsBetween
        cases Builtin.Str.occurrences x y 0 x.length (x.length + 1) <;> simp
      · unfold Builtin.Str.partsBetween at hp
        obtain ⟨q, _, rfl⟩ := List.mem_map.mp hp
        show (x.cps.extract q.1 q.2).size ≤ x.cps.size
        rw [Array.size_extract]
        omega
theorem foldl_app0 (g : Array Nat) : ∀ (l : List Str) (acc : Array Nat), g = #[] → (l.foldl (fun acc p => acc ++ g ++ p.cps) acc).size = acc.size + (l.map (·.length)).sum
  | [], acc, _ => by simp
  | p :: r, acc, e => by
    rw [List.foldl_cons, foldl_app0 g r _ e, List.map_cons, List.sum_cons, e]
    have : (acc ++ #[] ++ p.cps).size = acc.size + p.length := by simp; rfl
    omega
theorem join0_len (l : List Str) : (Txt.join "" l).length = (l.map (·.length)).sum := by
  have e0 : (("" : Str)).cps = #[] := rfl
  show ((l.drop 1).foldl (fun acc p => acc ++ ("" : Str).cps ++ p.cps) (l.headD Str.empty).cps).size = _
  rw [foldl_app0 _ _ _ e0]
  cases l with
  | nil => rfl
  | cons a r => rfl
theorem app_len (x y : Str) : (x ++ y).length = x.length + y.length := by
  show (x.cps ++ y.cps).size = x.cps.size + y.cps.size
  rw [Array.size_append]
theorem sum_le {B : Nat} : ∀ l : List Nat, (∀ x ∈ l, x ≤ B) → l.sum ≤ l.length * B
  | [], _ => by simp
  | a :: r, h => by
    rw [List.sum_cons, List.length_cons, Nat.succ_mul]
    have := h a List.mem_cons_self
    have := sum_le r fun x hx => h x (List.mem_cons_of_mem _ hx)
    omega
end Gh

set_option maxHeartbeats 2000000
namespace Gh
open PySem L2
/-! ## drawing: mixed -/
theorem put2_at {h : GH} {p q : Addr} {a b : GO} (ne : q ≠ p) : put (put h p a) q b p = some a := by rw [put_ne (Ne.symm ne), put_same]
theorem put2_old {h : GH} {p q c : Addr} {a b g : GO} (hp : h p = none) (hq : h q = none) (e : h c = some g) : put (put h p a) q b c = some g := by
  rw [put_ne (fun z => by subst z; rw [hq] at e; cases e), put_ne (fun z => by subst z; rw [hp] at e; cases e), e]
theorem put2_swap {h : GH} {p q : Addr} {a b a' b' : GO} (ne : q ≠ p) : put (put (put (put h p a) q b) p a') q b' = put (put h p a') q b' := by
  funext c
  by_cases y : c = q
  · subst y; rw [put_same, put_same]
  · rw [put_ne y, put_ne y]
    by_cases z : c = p
    · subst z; rw [put_same, put_same]
    · rw [put_ne z, put_ne y, put_ne z, put_ne z]
theorem erase_perm {α : Type} : ∀ {l : List α} {i : Nat} (h : i < l.length), (l[i] :: l.eraseIdx i).Perm l
  | a :: r, 0, _ => .refl _
  | a :: r, i + 1, h => by
    have hi : i < r.length := by simpa using h
    show (r[i] :: a :: r.eraseIdx i).Perm (a :: r)
    exact (List.Perm.swap a r[i] _).trans (.cons a (erase_perm hi))
def S_law_mixed : GSpec := fun ds h P => ∃ (b : Addr) (xs : List D), ds = [.ref b, .lst xs] ∧ h b = some .bag ∧ xs.length ≤ 1000 ∧ ∀ r : List D, r.Perm xs → P (.lst r) h
def b_mixed : gTS := (sDrop (gMl RApp (gVar 3) (aCons (gMl RPopAt (gVar 2) (aCons (gCall S_law_pull (aCons (gVar 0) (aCons (gCB RLen (aCons (gVar 2) aNil)) aNil))) aNil)) aNil)))
def g_law_mixed : gTS := (sSeq (sPar 2 3 (aCons (gOw (fList (aCons (gVar 1) aNil))) (aCons (gOw (fLst aNil)) aNil)))
 (sSeq (sFor (iRg1 (aCons (gCB RLen (aCons (gVar 1) aNil)) aNil)) (tgName 4)
  (sDrop (gMl RApp (gVar 3) (aCons (gMl RPopAt (gVar 2) (aCons (gCall S_law_pull (aCons (gVar 0) (aCons (gCB RLen (aCons (gVar 2) aNil)) aNil))) aNil)) aNil))))
 (sRetX (gVar 3))))
theorem sl1000 {n : Nat} (h : n ≤ 1000) : n ≤ sizeLine := Nat.le_trans h (by decide)
theorem mixed_loop {b pl pf : Addr} {h : GH} {d : Option D} {N : GEnds} (hb : h b = some .bag) (hl : h pl = none) (hf : h pf = none) (ne : pf ≠ pl) (xs : List D) (hz : xs.length ≤ 1000)
    (k : ∀ (found : List D) (o : Option D), found.Perm xs → N.nx [some (.ref b), d, some (.ref pl), some (.ref pf), o] (put (put h pl (.lst [])) pf (.lst found))) :
    ∀ (is left found : List D) (o : Option D), is.length = left.length → (found ++ left).Perm xs →
      gLoop (tgName 4) b_mixed N is [some (.ref b), d, some (.ref pl), some (.ref pf), o] (put (put h pl (.lst left)) pf (.lst found))
  | [], left, found, o, hn, hp => by
    have : left = [] := List.eq_nil_of_length_eq_zero hn.symm
    subst this
    rw [List.append_nil] at hp
    exact k found o hp
  | i :: is, left, found, o, hn, hp => by
    have hlen : found.length + left.length = xs.length := by have := hp.length_eq; rwa [List.length_append] at this
    have hl0 : 0 < left.length := by rw [← hn]; simp
    refine ⟨_, rfl, pf, found, rfl, put_same, _, rfl, pl, left, rfl, put2_at ne, _, rfl, _, rfl, _, RLen_own (put2_at ne), b, (left.length : Nat), rfl, put2_old hl hf hb, by omega, small_log (by show left.length ≤ 2 ^ 64; omega), fun k0 h0 h1 => ?_⟩
    have hi : k0.toNat < left.length := by omega
    have ek : k0 = ((k0.toNat : Nat) : Int) := by omega
    have hg : left[k0.toNat]? = some left[k0.toNat] := List.getElem?_eq_getElem hi
    refine ⟨left, _, _, put2_at ne, ⟨k0.toNat, by rw [← ek], hg, by omega, rfl⟩, found, _, _, ?_, ⟨_, rfl, by have := sl1000 hz; omega, rfl, rfl⟩, ?_⟩
    · rw [put_ne ne, put_same]
    · show gLoop (tgName 4) b_mixed N is _ (put (put (put (put h pl (.lst left)) pf (.lst found)) pl (.lst (left.eraseIdx k0.toNat))) pf (.lst (found ++ [left[k0.toNat]])))
      rw [put2_swap ne]
      refine mixed_loop hb hl hf ne xs hz k is _ _ _ ?_ ?_
      · rw [List.length_eraseIdx_of_lt hi]
        have : (i :: is).length = is.length + 1 := rfl
        omega
      · refine List.Perm.trans ?_ hp
        rw [List.append_assoc]
        refine List.Perm.append_left found ?_
        exact erase_perm hi
theorem pure_law_mixed (ds : List D) (h : GH) (P : GP) (hs : S_law_mixed ds h P) : g_law_mixed { nx := fun _ h' => P .non h', rt := P } (startG ["_law_bag_here", "_law_some", "_law_left", "_law_found", "_law_turn"] ds) h := by
  obtain ⟨b, xs, rfl, hb, hz, hp⟩ := hs
  refine ⟨_, rfl, _, xs, rfl, .inl rfl, fun pl hl => ?_⟩
  refine ⟨by decide, fun pf hf => ⟨_, _, rfl, ?_⟩⟩
  have ne : pf ≠ pl := fun z => by rw [z, put_same] at hf; cases hf
  have hf' : h pf = none := by rw [put_ne ne] at hf; exact hf
  refine ⟨_, rfl, _, ⟨_, rfl, rfl⟩, (xs.length : Nat), rfl, ⟨by omega, by omega⟩, ?_⟩
  refine mixed_loop hb hl hf' ne xs hz (fun found o hq => ?_) _ xs [] none ?_ (.refl _)
  · refine ⟨_, rfl, [pl], .inr ⟨pf, found, rfl, put_same, ?_⟩⟩
    rw [del_put2 hl hf' ne]
    exact hp found hq
  · rw [rangeD_length]; simp
theorem len_law_mixed (ds : List D) (h : GH) (P : GP) (hs : S_law_mixed ds h P) : ds.length = 2 := by obtain ⟨b, xs, rfl, _⟩ := hs; rfl
/-! ## shares, letters -/
def S_law_share : GSpec := fun ds h P => ∃ b : Addr, ds = [.ref b] ∧ h b = some .bag ∧ ∀ p : Int × Int, isLow p → 0 ≤ p.1 → p.1 ≤ p.2 → p.2 ≤ 99 → P (fr p) h
def g_law_share : gTS := (sSeq (sSet 1 (gBin RAdd (gC (.int 1)) (gCall S_law_pull (aCons (gVar 0) (aCons (gCall S_law_of (aCons (gVar 0) (aCons (gFr (fLst (aCons (gC (.int 2)) (aCons (gC (.int 4)) (aCons (gC (.int 9)) (aCons (gC (.int 99)) aNil)))))) aNil))) aNil)))))
 (sRet (gCall S_law_low (aCons (gCall S_law_pull (aCons (gVar 0) (aCons (gBin RAdd (gVar 1) (gC (.int 1))) aNil))) (aCons (gVar 1) aNil)))))
theorem small_log' {i : Int} (h0 : 0 ≤ i) (h1 : i ≤ 1000) : i.natAbs.log2 < 9000 := small_log (by omega)
theorem low_share {k d : Int} (h0 : 0 ≤ k) (h1 : k ≤ d) (hd : 0 < d) (h9 : d ≤ 99) : isLow (low k d) ∧ 0 ≤ (low k d).1 ∧ (low k d).1 ≤ (low k d).2 ∧ (low k d).2 ≤ 99 := by
  have hg := Int.gcd_pos_of_ne_zero_right k (show d ≠ 0 by omega)
  refine ⟨low_low hd, Int.ediv_nonneg h0 (by omega), Int.ediv_le_ediv (by omega) h1, ?_⟩
  have := Int.ediv_le_self (a := d) (Int.gcd k d : Nat) (by omega)
  exact Int.le_trans this h9
theorem pure_law_share (ds : List D) (h : GH) (P : GP) (hs : S_law_share ds h P) : g_law_share { nx := fun _ h' => P .non h', rt := P } (startG ["_law_bag_here", "_law_down"] ds) h := by
  obtain ⟨b, rfl, hb, hp⟩ := hs
  refine ⟨_, rfl, _, rfl, (by show 4 ≤ sizeLine; decide : _ ≤ sizeLine), b, _, _, rfl, hb, rfl, by simp, (by show 4 ≤ sizeLine; decide), ?_⟩
  have key : ∀ m : Int, 0 < m → m ≤ 99 → S_law_pull [.ref b, .int m] h fun d h1 => ∃ c, RAdd h1 (.int 1) d c ∧ (sRet (gCall S_law_low (aCons (gCall S_law_pull (aCons (gVar 0) (aCons (gBin RAdd (gVar 1) (gC (.int 1))) aNil))) (aCons (gVar 1) aNil)))) { nx := fun _ h' => P .non h', rt := P } [some (.ref b), some c] h1 := by
    intro m m0 m1
    refine ⟨b, m, rfl, hb, m0, small_log' (by omega) (by omega), fun k k0 k1 => ⟨_, rfl, ?_⟩⟩
    refine ⟨_, rfl, _, rfl, _, rfl, b, _, rfl, hb, by omega, small_log' (by omega) (by omega), fun j j0 j1 => ?_⟩
    refine ⟨_, rfl, j, 1 + k, rfl, by omega, Nat.lt_of_lt_of_le (show (1 + k).natAbs < 2 ^ 64 by omega) (pow_mono (by decide)), .inl ?_⟩
    obtain ⟨q1, q2, q3, q4⟩ := low_share (k := j) (d := 1 + k) j0 (by omega) (by omega) (by omega)
    exact hp _ q1 q2 q3 q4
  intro x hx
  simp only [List.mem_cons, List.not_mem_nil, or_false] at hx
  rcases hx with rfl | rfl | rfl | rfl
  · exact key 2 (by decide) (by decide)
  · exact key 4 (by decide) (by decide)
  · exact key 9 (by decide) (by decide)
  · exact key 99 (by decide) (by decide)
theorem len_law_share (ds : List D) (h : GH) (P : GP) (hs : S_law_share ds h P) : ds.length = 1 := by obtain ⟨b, rfl, _⟩ := hs; rfl
abbrev abc : Str := "abcdefghijklmnopqrstuvwxyz"
def S_law_letters : GSpec := fun ds h P => ds = [] ∧ P (.str abc) h
def g_law_letters : gTS := (sRet (gC (.str "abcdefghijklmnopqrstuvwxyz")))
theorem pure_law_letters (ds : List D) (h : GH) (P : GP) (hs : S_law_letters ds h P) : g_law_letters { nx := fun _ h' => P .non h', rt := P } (startG [] ds) h := .inl hs.2
theorem len_law_letters (ds : List D) (h : GH) (P : GP) (hs : S_law_letters ds h P) : ds.length = 0 := by rw [hs.1]; rfl
end Gh

set_option maxHeartbeats 2000000
namespace Gh
open PySem L2
/-! ## comprehensions once more -/
theorem comp_relT {gt : gTG} {σ : D → GS} {ge : gTE} {gc : gTT} {s : GS} {p : Addr} {P : List D → GH → Prop} {R : D → D → Prop} {t : D → Bool} {h : GH} (n : h p = none) : ∀ (ds acc : List D),
    (∀ d ∈ ds, ∀ h Q, Q (σ d) h → gt d s h Q) →
    (∀ d ∈ ds, ∀ acc Q, Q (t d) (put h p (.lst acc)) → gc (σ d) (put h p (.lst acc)) Q) →
    (∀ d ∈ ds, t d = true → ∀ acc Q, (∀ y, R d y → Q y (put h p (.lst acc))) → ge (σ d) (put h p (.lst acc)) Q) → acc.length + ds.length ≤ sizeLine → (∀ ys, F2 R (ds.filter t) ys → P (acc ++ ys) h) → gComp gt gc ge s p P ds acc (put h p (.lst acc))
  | [], acc, _, _, _, _, k => by
    show P acc (del (put h p (.lst acc)) p)
    rw [put_del n]
    have := k [] .nil
    rwa [List.append_nil] at this
  | d :: r, acc, hg, hc, he, hz, k => by
    refine hg d List.mem_cons_self _ _ ?_
    refine hc d List.mem_cons_self acc _ ?_
    cases ht : t d with
    | true =>
      refine iteT (he d List.mem_cons_self ht acc _ fun y hy => ⟨by rw [List.length_cons] at hz; omega, put_same, ?_⟩)
      rw [put_put]
      refine comp_relT n r (acc ++ [y]) (fun d' hd' => hg d' (List.mem_cons_of_mem _ hd')) (fun d' hd' => hc d' (List.mem_cons_of_mem _ hd')) (fun d' hd' => he d' (List.mem_cons_of_mem _ hd')) (by rw [List.length_append, List.length_singleton]; rw [List.length_cons] at hz; omega) fun ys hys => ?_
      rw [List.append_assoc]
      refine k (y :: ys) ?_
      rw [List.filter_cons, if_pos ht]
      exact .cons hy hys
    | false =>
      refine iteF ⟨put_same, ?_⟩
      refine comp_relT n r acc (fun d' hd' => hg d' (List.mem_cons_of_mem _ hd')) (fun d' hd' => hc d' (List.mem_cons_of_mem _ hd')) (fun d' hd' => he d' (List.mem_cons_of_mem _ hd')) (by rw [List.length_cons] at hz; omega) fun ys hys => ?_
      refine k ys ?_
      rw [List.filter_cons, if_neg (by rw [ht]; exact Bool.false_ne_true)]
      exact hys
theorem comp_filter {α : Type} {i : Nat} {ge : gTE} {gc : gTT} {s : GS} {p : Addr} {P : List D → GH → Prop} {h : GH} (f : α → D) (t : α → Bool) (n : h p = none) : ∀ (l : List α) (acc : List D),
    (∀ a ∈ l, ∀ acc Q, Q (t a) (put h p (.lst acc)) → gc (s.set i (some (f a))) (put h p (.lst acc)) Q) →
    (∀ a ∈ l, ∀ acc Q, Q (f a) (put h p (.lst acc)) → ge (s.set i (some (f a))) (put h p (.lst acc)) Q) → acc.length + l.length ≤ sizeLine → P (acc ++ (l.filter t).map f) h → gComp (tgName i) gc ge s p P (l.map f) acc (put h p (.lst acc))
  | [], acc, _, _, _, k => by
    show P acc (del (put h p (.lst acc)) p)
    rw [put_del n]
    rwa [List.filter_nil, List.map_nil, List.append_nil] at k
  | a :: r, acc, hc, he, hz, k => by
    refine hc a List.mem_cons_self acc _ ?_
    cases ht : t a with
    | true =>
      refine iteT (he a List.mem_cons_self acc _ ⟨by rw [List.length_cons] at hz; omega, put_same, ?_⟩)
      rw [put_put]
      refine comp_filter f t n r (acc ++ [f a]) (fun d' hd' => hc d' (List.mem_cons_of_mem _ hd')) (fun d' hd' => he d' (List.mem_cons_of_mem _ hd')) (by rw [List.length_append, List.length_singleton]; rw [List.length_cons] at hz; omega) ?_
      rw [List.append_assoc]
      rw [List.filter_cons, if_pos ht] at k
      exact k
    | false =>
      refine iteF ⟨put_same, ?_⟩
      refine comp_filter f t n r acc (fun d' hd' => hc d' (List.mem_cons_of_mem _ hd')) (fun d' hd' => he d' (List.mem_cons_of_mem _ hd')) (by rw [List.length_cons] at hz; omega) ?_
      rw [List.filter_cons, if_neg (by rw [ht]; exact Bool.false_ne_true)] at k
      exact k
theorem lc_filter {α : Type} {i : Nat} {ge : gTE} {gc : gTT} {s : GS} {p : Addr} {P : List D → GH → Prop} {h : GH} (f : α → D) (t : α → Bool) (n : h p = none) (l : List α) (hz : l.length ≤ sizeLine)
    (hc : ∀ a ∈ l, ∀ acc Q, Q (t a) (put h p (.lst acc)) → gc (s.set i (some (f a))) (put h p (.lst acc)) Q)
    (he : ∀ a ∈ l, ∀ acc Q, Q (f a) (put h p (.lst acc)) → ge (s.set i (some (f a))) (put h p (.lst acc)) Q) (k : P ((l.filter t).map f) h) : gComp (tgName i) gc ge s p P (l.map f) [] (put h p (.lst [])) :=
  comp_filter f t n l [] hc he (by rw [List.length_nil]; omega) k
theorem inV_strs (x : Str) (l : List Str) : inV (.str x) (l.map V.str) = decide (x ∈ l) := by
  unfold inV
  rw [List.any_map]
  by_cases hm : x ∈ l
  · rw [decide_eq_true hm, List.any_eq_true]
    exact ⟨x, hm, decide_eq_true rfl⟩
  · rw [decide_eq_false hm, List.any_eq_false]
    intro y hy hq
    refine hm ?_
    have : y = x := of_decide_eq_true hq
    rw [← this]
    exact hy
theorem notIn_of {h : GH} {x : Str} {d : D} {l : List Str} (e : vw h d = .lst (l.map D.str) ∨ vw h d = .tup (l.map D.str)) : RIn true h (.str x) d (.bl (!decide (x ∈ l))) := by
  unfold RIn
  rcases e with e | e <;> rw [e] <;> exact ⟨.str x, l.map V.str, rfl, atomVs_strs l, by rw [inV_strs]; rfl⟩
/-! ## fresh names -/
def S_law_without : GSpec := fun ds h P => ∃ (ps gs : List Str) (d : D), ds = [.lst (ps.map .str), d] ∧ (d = .lst (gs.map .str) ∨ d = .tup (gs.map .str)) ∧ ps.length ≤ 1000 ∧ P (.lst ((ps.filter fun x => !decide (x ∈ gs)).map .str)) h
def g_law_without : gTS := (sRet (gFr (fLc (iSeq (gVar 0)) (tgName 2) (gB (gBin (RIn true) (gVar 2) (gVar 1))) (gVar 2) [2])))
theorem pure_law_without (ds : List D) (h : GH) (P : GP) (hs : S_law_without ds h P) : g_law_without { nx := fun _ h' => P .non h', rt := P } (startG ["_law_present", "_law_gone", "_law_name"] ds) h := by
  obtain ⟨ps, gs, d, rfl, hd, hz, hp⟩ := hs
  refine ⟨_, rfl, fun p hp1 => ?_⟩
  refine lc_filter D.str (fun x => !decide (x ∈ gs)) hp1 ps (sl1000 hz) (fun a _ acc Q hq => ⟨_, rfl, _, rfl, _, notIn_of (l := gs) ?_, _, rfl, hq⟩) (fun a _ acc Q hq => ⟨_, rfl, hq⟩) (.inl hp)
  rcases hd with rfl | rfl
  · exact .inl rfl
  · exact .inr rfl
theorem len_law_without (ds : List D) (h : GH) (P : GP) (hs : S_law_without ds h P) : ds.length = 2 := by obtain ⟨ps, gs, d, rfl, _⟩ := hs; rfl
theorem perm_strs {r : List D} {ys : List Str} (h : r.Perm (ys.map D.str)) : ∃ zs : List Str, r = zs.map D.str ∧ zs.Perm ys := by
  have hm : ∀ x ∈ r, ∃ y : Str, x = .str y := fun x hx => by
    obtain ⟨y, _, e⟩ := List.mem_map.mp (h.mem_iff.mp hx)
    exact ⟨y, e.symm⟩
  have ex : ∀ l : List D, (∀ x ∈ l, ∃ y : Str, x = .str y) → ∃ zs : List Str, l = zs.map D.str := by
    intro l
    induction l with
    | nil => intro _; exact ⟨[], rfl⟩
    | cons a t ih =>
      intro hl
      obtain ⟨y, rfl⟩ := hl a List.mem_cons_self
      obtain ⟨zs, rfl⟩ := ih fun x hx => hl x (List.mem_cons_of_mem _ hx)
      exact ⟨y :: zs, rfl⟩
  obtain ⟨zs, rfl⟩ := ex r hm
  refine ⟨zs, rfl, ?_⟩
  have q := h.map (fun d : D => match d with | .str x => x | _ => "")
  rw [List.map_map, List.map_map] at q
  have e : ((fun d : D => match d with | .str x => x | _ => "") ∘ D.str) = id := rfl
  rw [e, List.map_id, List.map_id] at q
  exact q
theorem cut_take {α : Type} (xs : List α) (n : Nat) : cutD xs none (some (n : Nat)) = xs.take n := by
  unfold cutD
  rw [HT.sIx_none, List.drop_zero, Nat.sub_zero, HT.sIx_nat xs.length xs.length n]
  by_cases h : n ≤ xs.length
  · rw [Nat.min_eq_left h]
  · rw [Nat.min_eq_right (by omega), List.take_length, List.take_of_length_le (by omega)]
/-- the names come from the pool, none is present -/
def S_law_fresh : GSpec := fun ds h P => ∃ (b : Addr) (po pr : List Str) (n : Nat), ds = [.ref b, .lst (po.map .str), .lst (pr.map .str), .int (n : Nat)] ∧ h b = some .bag ∧ po.length ≤ 1000 ∧ pr.length ≤ 1000 ∧ po.Nodup ∧
  ∀ zs : List Str, zs.Nodup → (∀ z ∈ zs, z ∈ po ∧ z ∉ pr) → zs.length ≤ n → (n + pr.length ≤ po.length → zs.length = n) → P (.lst (zs.map .str)) h
def g_law_fresh : gTS := (sRet (gSl (gCall S_law_mixed (aCons (gVar 0) (aCons (gFr (fLc (iSeq (gVar 1)) (tgName 4) (gB (gBin (RIn true) (gVar 4) (gVar 2))) (gVar 4) [4])) aNil))) gNoPart (gPart (gVar 3))))
theorem filter_count {po : List Str} : ∀ (pr : List Str), po.Nodup → po.length ≤ (po.filter fun x => !decide (x ∈ pr)).length + pr.length := by
  induction po with
  | nil => intro pr _; simp
  | cons a r ih =>
    intro pr hn
    have hn' := List.nodup_cons.mp hn
    by_cases ha : a ∈ pr
    · rw [List.filter_cons, if_neg (by simp [ha])]
      have h1 := ih (pr.erase a) hn'.2
      have h2 : (pr.erase a).length + 1 = pr.length := by
        have := List.length_erase_of_mem ha
        have : 0 < pr.length := List.length_pos_of_mem ha
        omega
      have h3 : (r.filter fun x => !decide (x ∈ pr.erase a)) = r.filter fun x => !decide (x ∈ pr) := by
        refine List.filter_congr fun x hx => ?_
        have hxa : x ≠ a := fun z => hn'.1 (z ▸ hx)
        have : (x ∈ pr.erase a) ↔ x ∈ pr := List.mem_erase_of_ne hxa
        simp [this]
      rw [h3] at h1
      simp only [List.length_cons]
      omega
    · rw [List.filter_cons, if_pos (by simp [ha])]
      have h1 := ih pr hn'.2
      simp only [List.length_cons]
      omega
theorem pure_law_fresh (ds : List D) (h : GH) (P : GP) (hs : S_law_fresh ds h P) : g_law_fresh { nx := fun _ h' => P .non h', rt := P } (startG ["_law_bag_here", "_law_pool_here", "_law_present", "_law_many", "_law_name"] ds) h := by
  obtain ⟨b, po, pr, n, rfl, hb, hz, hz2, hn, hp⟩ := hs
  refine ⟨_, rfl, _, rfl, fun p hp1 => ?_⟩
  refine lc_filter D.str (fun x => !decide (x ∈ pr)) hp1 po (sl1000 hz) (fun a _ acc Q hq => ⟨_, rfl, _, rfl, _, notIn_of (l := pr) (.inl rfl), _, rfl, hq⟩) (fun a _ acc Q hq => ⟨_, rfl, hq⟩) ?_
  refine ⟨b, _, rfl, hb, ?_, fun r hr => ?_⟩
  · rw [List.length_map]; exact Nat.le_trans (List.length_filter_le _ _) hz
  obtain ⟨zs, rfl, hpz⟩ := perm_strs hr
  refine ⟨_, rfl, _, rfl, _, rfl, .inl ?_⟩
  rw [cut_take, ← List.map_take]
  have hnf : (po.filter fun x => !decide (x ∈ pr)).Nodup := hn.filter _
  refine hp (zs.take n) ?_ (fun z hz => ?_) ?_ (fun hh => ?_)
  · exact (hpz.nodup_iff.mpr hnf).sublist (List.take_sublist n zs)
  · have h1 := hpz.mem_iff.mp (List.mem_of_mem_take hz)
    have h2 := List.mem_filter.mp h1
    exact ⟨h2.1, by simpa using h2.2⟩
  · rw [List.length_take]; omega
  · have h1 := filter_count pr hn
    have h2 := hpz.length_eq
    rw [List.length_take]
    omega
theorem len_law_fresh (ds : List D) (h : GH) (P : GP) (hs : S_law_fresh ds h P) : ds.length = 4 := by obtain ⟨b, po, pr, n, rfl, _⟩ := hs; rfl
end Gh

set_option maxHeartbeats 2000000
namespace Gh
open PySem L2
theorem F2.strs {α : Type} {B : Nat} : ∀ {as : List α} {ys : List D}, F2 (fun _ y => ∃ x : Str, y = .str x ∧ x.length ≤ B) as ys → ∃ xs : List Str, ys = xs.map D.str ∧ xs.length = as.length ∧ ∀ x ∈ xs, x.length ≤ B
  | _, _, .nil => ⟨[], rfl, rfl, fun _ h => nomatch h⟩
  | _, _, .cons ⟨x, e, hx⟩ r => by
    obtain ⟨xs, e2, hl, hb⟩ := F2.strs r
    refine ⟨x :: xs, by rw [e, e2]; rfl, by rw [List.length_cons, List.length_cons, hl], fun z hz => ?_⟩
    rcases List.mem_cons.mp hz with rfl | hz
    · exact hx
    · exact hb z hz
theorem join_ok {h : GH} {xs : List Str} {B : Nat} (hl : xs.length ≤ 100) (hb : ∀ x ∈ xs, x.length ≤ B) (hB : B ≤ 1000) : RJoin h "" (.lst (xs.map D.str)) (.str (Txt.join "" xs)) ∧ (Txt.join "" xs).length ≤ xs.length * B := by
  have e0 : ((("" : Str))).length = 0 := rfl
  have hs : (xs.map (·.length)).sum ≤ xs.length * B := by
    have := sum_le (B := B) (xs.map (·.length)) (fun x hx => by obtain ⟨y, hy, rfl⟩ := List.mem_map.mp hx; exact hb y hy)
    rwa [List.length_map] at this
  have hm : xs.length * B ≤ 100 * 1000 := Nat.mul_le_mul hl hB
  refine ⟨⟨xs, .inl rfl, ?_, rfl⟩, by rw [join0_len]; exact hs⟩
  rw [e0]
  omega
theorem letters_one : ∀ c ∈ strD abc, ∃ x : Str, c = .str x ∧ x.length ≤ 1 := fun c hc => by
  unfold strD at hc
  obtain ⟨k, _, rfl⟩ := List.mem_map.mp hc
  exact ⟨_, rfl, Nat.le_refl 1⟩
theorem abc_len : abc.length = 26 := by decide +kernel
theorem abc_at : ∀ i : Nat, i < 26 → abc.cps.toList[i]? = some (97 + i) := by decide +kernel
theorem str_len {h : GH} {x : Str} (hz : x.length ≤ sizeLine) : RLen h [.str x] (.int (x.length : Nat)) := ⟨_, rfl, hz, rfl⟩
/-! ## small letters -/
def low26 (x : Str) : Prop := ∀ c ∈ x.cps.toList, 97 ≤ c ∧ c ≤ 122
theorem low26.app {x y : Str} (a : low26 x) (b : low26 y) : low26 (x ++ y) := fun c hc => by
  have e : (x ++ y).cps.toList = x.cps.toList ++ y.cps.toList := by
    show (x.cps ++ y.cps).toList = _
    rw [Array.toList_append]
  rw [e] at hc
  exact (List.mem_append.mp hc).elim (a c) (b c)
theorem low26.cut {x : Str} (a : low26 x) (lo hi : Option Int) : low26 (cutS x lo hi) := fun c hc => a c (List.mem_of_mem_drop (List.mem_of_mem_take (show c ∈ ((x.cps.toList.drop _).take _) from hc)))
theorem low26.rep {x : Str} (a : low26 x) (n : Nat) : low26 (repS x n) := fun c hc => by
  have hc2 : c ∈ (List.replicate n x.cps.toList).flatten := hc
  obtain ⟨l, hl, h2⟩ := List.mem_flatten.mp hc2
  rw [List.mem_replicate] at hl
  rw [hl.2] at h2
  exact a c h2
theorem foldl_mem (g : Array Nat) (c : Nat) : ∀ (l : List Str) (acc : Array Nat), g = #[] → c ∈ (l.foldl (fun acc p => acc ++ g ++ p.cps) acc).toList → c ∈ acc.toList ∨ ∃ x ∈ l, c ∈ x.cps.toList
  | [], acc, _, h => .inl h
  | p :: r, acc, e, h => by
    rw [List.foldl_cons] at h
    rcases foldl_mem g c r _ e h with h | ⟨x, hx, h⟩
    · rw [e] at h
      have h' : c ∈ acc.toList ++ p.cps.toList := by simpa using h
      rcases List.mem_append.mp h' with h | h
      · exact .inl h
      · exact .inr ⟨p, List.mem_cons_self, h⟩
    · exact .inr ⟨x, List.mem_cons_of_mem _ hx, h⟩
theorem low26.join {l : List Str} (a : ∀ x ∈ l, low26 x) : low26 (Txt.join "" l) := fun c hc => by
  have hc2 : c ∈ ((l.drop 1).foldl (fun acc p => acc ++ ("" : Str).cps ++ p.cps) (l.headD Str.empty).cps).toList := hc
  rcases foldl_mem _ c _ _ rfl hc2 with h | ⟨x, hx, h⟩
  · cases l with
    | nil => cases h
    | cons x r => exact a x List.mem_cons_self c h
  · exact a x (List.mem_of_mem_drop hx) c h
theorem low26_letter : ∀ c ∈ strD abc, ∃ x : Str, c = .str x ∧ x.length ≤ 1 ∧ low26 x := fun c hc => by
  unfold strD at hc
  obtain ⟨k, hk, rfl⟩ := List.mem_map.mp hc
  refine ⟨_, rfl, Nat.le_refl 1, fun d hd => ?_⟩
  have e : d = k := by simpa using hd
  subst e
  have : ∀ c ∈ abc.cps.toList, 97 ≤ c ∧ c ≤ 122 := by decide +kernel
  exact this d hk
theorem F2.strL {α : Type} {B : Nat} : ∀ {as : List α} {ys : List D}, F2 (fun _ y => ∃ x : Str, y = .str x ∧ x.length ≤ B ∧ low26 x) as ys → ∃ xs : List Str, ys = xs.map D.str ∧ xs.length = as.length ∧ (∀ x ∈ xs, x.length ≤ B) ∧ ∀ x ∈ xs, low26 x
  | _, _, .nil => ⟨[], rfl, rfl, (fun _ h => nomatch h), fun _ h => nomatch h⟩
  | _, _, .cons ⟨x, e, hx, hl26⟩ r => by
    obtain ⟨xs, e2, hl, hb, hc⟩ := F2.strL r
    refine ⟨x :: xs, by rw [e, e2]; rfl, by rw [List.length_cons, List.length_cons, hl], fun z hz => ?_, fun z hz => ?_⟩
    · rcases List.mem_cons.mp hz with rfl | hz
      · exact hx
      · exact hb z hz
    · rcases List.mem_cons.mp hz with rfl | hz
      · exact hl26
      · exact hc z hz
/-! ## the pool -/
def S_law_pool : GSpec := fun ds h P => ∃ (b : Addr) (n : Nat), ds = [.ref b, .int (n : Nat)] ∧ h b = some .bag ∧ n ≤ 26 ∧ ∀ (ys : List Str) (L : Nat), ys.length = n → ys.Nodup → L ≤ 7 → 1 ≤ L → (∀ y ∈ ys, y.length = L ∧ low26 y) → P (.lst (ys.map .str)) h
def g_law_pool : gTS := (sSeq (sSet 2 (gM1 RJoin (gC (.str "")) (gFr (fLc (iRg1 (aCons (gCall S_law_pull (aCons (gVar 0) (aCons (gC (.int 5)) aNil))) aNil)) (tgName 5) gYes (gCall S_law_of (aCons (gVar 0) (aCons (gCall S_law_letters aNil) aNil))) [5]))))
 (sSeq (sIf (gB (gBin (REq false) (gCall S_law_pull (aCons (gVar 0) (aCons (gC (.int 2)) aNil))) (gC (.int 0))))
  (sSet 2 (gBin RMul (gSl (gVar 2) gNoPart (gPart (gC (.int 1)))) (gCB RLen (aCons (gVar 2) aNil))))
  sNext)
 (sSeq (sAsg (gTup (aCons (gCall S_law_pull (aCons (gVar 0) (aCons (gBin RAdd (gCB RLen (aCons (gVar 2) aNil)) (gC (.int 1))) aNil))) (aCons (gCall S_law_pull (aCons (gVar 0) (aCons (gC (.int 26)) aNil))) aNil))) (tgTup 2 (tgCons (tgName 3) (tgCons (tgName 4) tgNil))))
 (sRet (gFr (fLc (iRg1 (aCons (gVar 1) aNil)) (tgName 5) gYes (gBin RAdd (gBin RAdd (gSl (gVar 2) gNoPart (gPart (gVar 3))) (gBin RIx (gCall S_law_letters aNil) (gBin RMod (gBin RAdd (gVar 4) (gVar 5)) (gC (.int 26))))) (gSl (gVar 2) (gPart (gVar 3)) gNoPart)) [5]))))))
def t_pool : gTS := (sSeq (sAsg (gTup (aCons (gCall S_law_pull (aCons (gVar 0) (aCons (gBin RAdd (gCB RLen (aCons (gVar 2) aNil)) (gC (.int 1))) aNil))) (aCons (gCall S_law_pull (aCons (gVar 0) (aCons (gC (.int 26)) aNil))) aNil))) (tgTup 2 (tgCons (tgName 3) (tgCons (tgName 4) tgNil))))
 (sRet (gFr (fLc (iRg1 (aCons (gVar 1) aNil)) (tgName 5) gYes (gBin RAdd (gBin RAdd (gSl (gVar 2) gNoPart (gPart (gVar 3))) (gBin RIx (gCall S_law_letters aNil) (gBin RMod (gBin RAdd (gVar 4) (gVar 5)) (gC (.int 26))))) (gSl (gVar 2) (gPart (gVar 3)) gNoPart)) [5]))))
def pn (A B : Str) (f : Int) (k : Nat) : Str := A ++ ⟨#[97 + ((f + (0 + (k : Nat))).fmod 26).toNat]⟩ ++ B
theorem pn_len (A B : Str) (f : Int) (k : Nat) : (pn A B f k).length = A.length + 1 + B.length := by
  unfold pn
  rw [app_len, app_len]
  rfl
theorem pn_low {A B : Str} {f : Int} {k : Nat} (a : low26 A) (b : low26 B) : low26 (pn A B f k) := by
  unfold pn
  refine (a.app fun c hc => ?_).app b
  have e : c = 97 + ((f + (0 + (k : Nat))).fmod 26).toNat := by simpa using hc
  have hm := fmod_in (f + (0 + (k : Nat))) (show (0 : Int) < 26 by decide)
  omega
theorem cut_two (x : Str) (a : Int) (h0 : 0 ≤ a) : (cutS x none (some a)).length + (cutS x (some a) none).length ≤ x.length := by
  obtain ⟨n, rfl⟩ : ∃ n : Nat, a = (n : Nat) := ⟨a.toNat, by omega⟩
  show (((x.cps.toList.drop (HT.sIx x.length 0 none)).take (HT.sIx x.length x.length (some (n : Nat)) - HT.sIx x.length 0 none)).toArray).size + (((x.cps.toList.drop (HT.sIx x.length 0 (some (n : Nat)))).take (HT.sIx x.length x.length none - HT.sIx x.length 0 (some (n : Nat)))).toArray).size ≤ x.length
  rw [HT.sIx_none, HT.sIx_none, HT.sIx_nat x.length x.length n, HT.sIx_nat x.length 0 n, List.size_toArray, List.size_toArray, List.length_take, List.length_take, List.length_drop, List.length_drop, Array.length_toList]
  have : x.cps.size = x.length := rfl
  omega
theorem pn_inj {A B : Str} {f : Int} {j k : Nat} (h0 : 0 ≤ f) (hf : f < 26) (hj : j < 26) (hk : k < 26) (e : pn A B f j = pn A B f k) : j = k := by
  have e1 : (pn A B f j).cps = (pn A B f k).cps := congrArg Str.cps e
  have e2 : A.cps ++ #[97 + ((f + (0 + (j : Nat))).fmod 26).toNat] ++ B.cps = A.cps ++ #[97 + ((f + (0 + (k : Nat))).fmod 26).toNat] ++ B.cps := e1
  have e3 := congrArg Array.toList e2
  simp only [Array.toList_append] at e3
  have e4 : 97 + ((f + (0 + (j : Nat))).fmod 26).toNat = 97 + ((f + (0 + (k : Nat))).fmod 26).toNat := by
    have e5 := List.append_cancel_left (List.append_cancel_right e3)
    simpa using e5
  rw [Int.fmod_eq_emod_of_nonneg _ (by decide), Int.fmod_eq_emod_of_nonneg _ (by decide)] at e4
  omega
theorem pool_tail {b : Addr} {n : Nat} {h : GH} {N : GEnds} {o3 o4 o5 : Option D} (hb : h b = some .bag) (hn : n ≤ 26) (stem : Str) (hs : stem.length ≤ 4) (hlo : low26 stem)
    (hp : ∀ (ys : List Str) (L : Nat), ys.length = n → ys.Nodup → L ≤ 7 → 1 ≤ L → (∀ y ∈ ys, y.length = L ∧ low26 y) → N.rt (.lst (ys.map .str)) h) : t_pool N [some (.ref b), some (.int (n : Nat)), some (.str stem), o3, o4, o5] h := by
  have hS : sizeLine = 16777216 := sizeLine_eq
  refine ⟨_, rfl, _, rfl, _, str_len (by omega), _, rfl, b, _, rfl, hb, by omega, small_log' (by omega) (by omega), fun a a0 a1 => ?_⟩
  refine ⟨_, rfl, b, 26, rfl, hb, by decide, by decide +kernel, fun f f0 f1 => ?_⟩
  refine ⟨by show 2 ≤ sizeLine; decide, _, rfl, rfl, _, _, rfl, _, _, rfl, rfl, ?_⟩
  refine ⟨_, rfl, (n : Nat), rfl, ⟨by omega, by omega⟩, fun p hp1 => ?_⟩
  have hA := cutS_length stem none (some a)
  have hB := cutS_length stem (some a) none
  refine lc_map (fun i : Nat => D.int (0 + (i : Nat))) (fun i : Nat => D.str (pn (cutS stem none (some a)) (cutS stem (some a) none) f i)) hp1 (List.range n) (by rw [List.length_range]; omega) (fun k hk acc Q hq => ?_) ?_
  · have hm := fmod_in (f + (0 + (k : Nat))) (show (0 : Int) < 26 by decide)
    have hix : atI abc.cps.toList ((f + (0 + (k : Nat))).fmod 26) = some (97 + ((f + (0 + (k : Nat))).fmod 26).toNat) := by
      have q := abc_at ((f + (0 + (k : Nat))).fmod 26).toNat (by omega)
      have q2 := atI_nat q
      rwa [Int.toNat_of_nonneg hm.1] at q2
    refine ⟨_, rfl, _, rfl, _, rfl, _, ⟨by omega, rfl⟩, rfl, _, rfl, _, rfl, _, rfl, _, ⟨by decide, rfl⟩, _, ⟨by decide +kernel, _, hix, rfl⟩, _, ⟨?_, rfl⟩, _, rfl, _, rfl, _, rfl, _, ⟨by omega, rfl⟩, _, ⟨?_, rfl⟩, hq⟩
    · show _ + 1 ≤ sizeLine; omega
    · rw [app_len]; show _ + 1 + _ ≤ sizeLine; omega
  · refine .inl ?_
    have e : (List.range n).map (fun i : Nat => D.str (pn (cutS stem none (some a)) (cutS stem (some a) none) f i)) = ((List.range n).map (pn (cutS stem none (some a)) (cutS stem (some a) none) f)).map D.str := by rw [List.map_map]; rfl
    rw [e]
    refine hp _ ((cutS stem none (some a)).length + 1 + (cutS stem (some a) none).length) (by simp) ?_ (by have := cut_two stem a a0; omega) (by omega) (fun y hy => ?_)
    · refine List.pairwise_map.mpr (List.Pairwise.imp_of_mem (R := fun a b => a ≠ b) (fun {x y} hx hy hne z => hne (pn_inj f0 f1 ?_ ?_ z)) List.nodup_range)
      · have := List.mem_range.mp hx; omega
      · have := List.mem_range.mp hy; omega
    · obtain ⟨k, _, rfl⟩ := List.mem_map.mp hy
      exact ⟨pn_len _ _ _ _, pn_low (hlo.cut _ _) (hlo.cut _ _)⟩
theorem repS_len (x : Str) (n : Nat) : (repS x n).length = x.length * n := by
  unfold repS Str.length
  simp [Nat.mul_comm]
theorem pure_law_pool (ds : List D) (h : GH) (P : GP) (hs : S_law_pool ds h P) : g_law_pool { nx := fun _ h' => P .non h', rt := P } (startG ["_law_bag_here", "_law_many", "_law_stem", "_law_at", "_law_first", "_law_k"] ds) h := by
  obtain ⟨b, m, rfl, hb, hm, hp⟩ := hs
  have hS : sizeLine = 16777216 := sizeLine_eq
  refine ⟨_, rfl, _, rfl, b, 5, rfl, hb, by decide, by decide +kernel, fun n n0 n1 => ?_⟩
  refine ⟨n, rfl, ⟨by omega, by omega⟩, fun p hp1 => ?_⟩
  refine lc_rel (R := fun _ y => ∃ x : Str, y = .str x ∧ x.length ≤ 1 ∧ low26 x) hp1 _ (by rw [rangeD_length]; omega) (fun d hd acc Q hq => ?_) fun ys hys => ?_
  · refine ⟨_, rfl, rfl, b, _, _, rfl, put_old hp1 hb, rfl, by decide +kernel, by decide +kernel, fun x hx => hq _ (low26_letter x hx)⟩
  obtain ⟨xs, rfl, hlen, hxs, hxl⟩ := F2.strL hys
  rw [rangeD_length] at hlen
  have j1 := join_ok (h := h) (xs := xs) (B := 1) (by omega) hxs (by decide)
  refine ⟨_, j1.1, ?_⟩
  have hjl : (Txt.join "" xs).length ≤ 4 := by have := j1.2; omega
  refine ⟨_, rfl, b, 2, rfl, hb, by decide, by decide +kernel, fun q q0 q1 => ⟨_, rfl, _, rfl, ?_⟩⟩
  refine ite2 (fun c => ?_) (fun c => ?_)
  · have hc := cutS_length (Txt.join "" xs) none (some 1)
    have hc2 : (cutS (Txt.join "" xs) none (some 1)).length ≤ 1 := by
      have e : cutS (Txt.join "" xs) none (some 1) = ⟨((Txt.join "" xs).cps.toList.take (HT.sIx (Txt.join "" xs).length (Txt.join "" xs).length (some 1))).toArray⟩ := by
        unfold cutS
        rw [HT.sIx_none, List.drop_zero, Nat.sub_zero]
      rw [e]
      show (List.toArray _).size ≤ 1
      have q2 : HT.sIx (Txt.join "" xs).length (Txt.join "" xs).length (some 1) = min 1 (Txt.join "" xs).length := HT.sIx_nat _ _ 1
      rw [List.size_toArray, List.length_take, q2]
      omega
    refine ⟨_, rfl, _, rfl, _, ⟨by omega, rfl⟩, ?_⟩
    have hml : (cutS (Txt.join "" xs) none (some 1)).length * ((Txt.join "" xs).length : Int).toNat ≤ 4 := by
      rw [Int.toNat_natCast]
      calc _ ≤ 1 * 4 := Nat.mul_le_mul hc2 hjl
        _ = 4 := rfl
    refine ⟨_, rfl, _, str_len (x := Txt.join "" xs) (by omega), _, ⟨⟨by omega, by omega, by omega⟩, rfl⟩, ?_⟩
    exact pool_tail hb hm _ (by rw [repS_len]; exact hml) (((low26.join hxl).cut _ _).rep _) hp
  · exact pool_tail hb hm _ hjl (low26.join hxl) hp
theorem len_law_pool (ds : List D) (h : GH) (P : GP) (hs : S_law_pool ds h P) : ds.length = 2 := by obtain ⟨b, n, rfl, _⟩ := hs; rfl
/-! ## the names of pieces -/
def PoolOk (ys : List Str) : Prop := ys.length = 12 ∧ ys.Nodup ∧ (("whole" : Str)) ∉ ys ∧ ∀ y ∈ ys, 1 ≤ y.length ∧ y.length ≤ 7 ∧ low26 y
def S_law_pieces : GSpec := fun ds h P => ∃ b : Addr, ds = [.ref b] ∧ h b = some .bag ∧ ∀ ys, PoolOk ys → P (.lst (ys.map .str)) h
def g_law_pieces : gTS := (sRet (gFr (fLc (iSeq (gCall S_law_pool (aCons (gVar 0) (aCons (gC (.int 12)) aNil)))) (tgName 1) gYes (gIf (gB (gBin (REq true) (gVar 1) (gC (.str "whole")))) (gVar 1) (gC (.str "wholes"))) [1])))
def unW (y : Str) : Str := if y = "whole" then "wholes" else y
theorem w5 : (("whole" : Str)).length = 5 := by decide +kernel
theorem w6 : (("wholes" : Str)).length = 6 := by decide +kernel
theorem unW_ne (y : Str) : unW y ≠ "whole" := by
  unfold unW
  split
  · intro z
    have := congrArg Str.length z
    rw [w5, w6] at this
    cases this
  · assumption
theorem unW_inj {x y : Str} (hl : x.length = y.length) (e : unW x = unW y) : x = y := by
  unfold unW at e
  split at e <;> split at e
  · rename_i a b; rw [a, b]
  · rename_i a b
    rw [a, w5] at hl
    have := congrArg Str.length e
    rw [w6] at this
    omega
  · rename_i a b
    rw [b, w5] at hl
    have := congrArg Str.length e
    rw [w6] at this
    omega
  · exact e
theorem pure_law_pieces (ds : List D) (h : GH) (P : GP) (hs : S_law_pieces ds h P) : g_law_pieces { nx := fun _ h' => P .non h', rt := P } (startG ["_law_bag_here", "_law_name"] ds) h := by
  obtain ⟨b, rfl, hb, hp⟩ := hs
  refine ⟨_, rfl, b, 12, rfl, hb, by decide, fun ys L hl hn hL hL1 hy p hp1 => ?_⟩
  refine lc_map D.str (fun y => D.str (unW y)) hp1 ys (by rw [hl]; decide) (fun y hy acc Q hq => ?_) ?_
  · refine ⟨_, rfl, _, rfl, _, rfl, ?_⟩
    unfold unW at hq
    refine ite2 (fun c => ?_) (fun c => ?_)
    · rw [if_neg (by simpa using c)] at hq
      exact ⟨_, rfl, hq⟩
    · rw [if_pos (by simpa using c)] at hq
      exact hq
  · refine .inl ?_
    have e : ys.map (fun y => D.str (unW y)) = (ys.map unW).map D.str := by rw [List.map_map]; rfl
    rw [e]
    refine hp _ ⟨by rw [List.length_map, hl], ?_, ?_, ?_⟩
    · refine List.pairwise_map.mpr (List.Pairwise.imp_of_mem (R := fun a b => a ≠ b) (fun {x y} hx hy2 hne z => hne (unW_inj (by rw [(hy x hx).1, (hy y hy2).1]) z)) hn)
    · intro z
      obtain ⟨y, _, e⟩ := List.mem_map.mp z
      exact unW_ne y e
    · intro z hz
      obtain ⟨y, hy2, rfl⟩ := List.mem_map.mp hz
      unfold unW
      split
      · exact ⟨by rw [w6]; decide, by rw [w6]; decide, by unfold low26; decide +kernel⟩
      · rw [(hy y hy2).1]; exact ⟨hL1, hL, (hy y hy2).2⟩
theorem len_law_pieces (ds : List D) (h : GH) (P : GP) (hs : S_law_pieces ds h P) : ds.length = 1 := by obtain ⟨b, rfl, _⟩ := hs; rfl
end Gh

/-! H0: the head's facts over a part of the heap that is found name by name -/
namespace Gh
open PySem PySem.Spec PyProof.Rows L2
def clsBody : Stmt → List Stmt
  | .ClassDef _ _ _ b _ _ _ _ _ _ _ => b
  | _ => []
/-- what is looked at behind an object: a def's code and defaults, a class's names, a dict's values -/
def refsF (o : Obj) : List Addr := match o.data with
  | .func fd => He.refV fd.code ++ (He.refV fd.defaults ++ (He.refV fd.kwdefaults ++ fd.closure.map (·.2)))
  | .cls cd => [cd.ns]
  | _ => []
/-- the values of a dict (a class's names) -/
def refsN (o : Obj) : List Addr := match o.data with
  | .dict es _ => es.toList.flatMap fun e => He.refV e.val
  | _ => []
def next (f : Obj → List Addr) (g : Addr → Option Obj) (as : List Addr) : List Addr := as.flatMap fun a => match g a with
  | some o => f o
  | none => []
def asP (g : Addr → Option Obj) : List Addr :=
  let l1 := next refsN g [mainGlobals]
  let l2 := next refsF g l1
  let l3 := next refsN g l2
  let l4 := next refsF g l3
  mainGlobals :: cStatics :: (l1 ++ (l2 ++ (l3 ++ l4)))
abbrev AlP : Type := Bool × List He.FnW
def obsP (fa : List (PySem.W.Frag → Bool)) (fn : List He.DefD) (K : PySem.W.Frag) : AlP := ((fa.all fun f => f K) && fn.all fun d => d.ok K, fn.map fun d => He.fnW K d.at_)
def valP (fn : List He.DefD) : AlP := (true, fn.map He.DefD.val)
def SaysP (fa : List (PySem.W.Frag → Bool)) (fn : List He.DefD) (K : PySem.W.Frag) : Prop := obsP fa fn K = valP fn
def obsPG (fa : List (PySem.W.Frag → Bool)) (fn : List He.DefD) (g : Addr → Option Obj) : AlP := obsP fa fn (He.frG g (asP g))
def hookP (fa : List (PySem.W.Frag → Bool)) (fn : List He.DefD) : PySem.W.Hook where
  α := AlP
  obs := fun s => obsPG fa fn s.heap.get?
  val := fun _ => valP fn
  says := fun _ h => ∃ K : PySem.W.Frag, K.In h ∧ SaysP fa fn K
  of := fun _ _ e => ⟨_, He.frG_in, e⟩
  keeps := fun _ _ _ ⟨K, hK, c⟩ k => ⟨K, PySem.W.Frag.In.keeps hK k, c⟩
theorem obsPG_eq {fa : List (PySem.W.Frag → Bool)} {fn : List He.DefD} {g : Addr → Option Obj} {s : Shared} (h : ∀ a, g a = s.heap.get? a) : obsPG fa fn g = (hookP fa fn).obs s := by
  have e : g = s.heap.get? := funext h
  rw [e] <;> rfl
section
variable {fa : List (PySem.W.Frag → Bool)} {fn : List He.DefD} {K : PySem.W.Frag}
theorem SaysP.fact (c : SaysP fa fn K) (i : Nat) {f : PySem.W.Frag → Bool} (h : fa[i]? = some f := by rfl) : f K = true := by
  have c1 := (He.ba (show ((fa.all fun f => f K) && fn.all fun d => d.ok K) = true from congrArg (fun z : AlP => z.1) c)).1
  exact List.all_eq_true.mp c1 f (List.mem_of_getElem? h)
theorem SaysP.def_ (c : SaysP fa fn K) (i : Nat) {d : He.DefD} (h : fn[i]? = some d := by rfl) : ∃ fd, FunD K d.name d.qual d.params d.body d.scope (d.dvs K) (d.kws K) (He.fAd K d.at_) fd := by
  have c2 := (He.ba (show ((fa.all fun f => f K) && fn.all fun d => d.ok K) = true from congrArg (fun z : AlP => z.1) c)).2
  have e : fn.map (fun d => He.fnW K d.at_) = fn.map He.DefD.val := congrArg (fun z : AlP => z.2) c
  have e2 : (fn.map fun d => He.fnW K d.at_)[i]? = (fn.map He.DefD.val)[i]? := by rw [e]
  rw [List.getElem?_map, List.getElem?_map, h] at e2
  exact He.DefD.funD (Option.some.inj e2) (List.all_eq_true.mp c2 d (List.mem_of_getElem? h))
end
end Gh

set_option maxHeartbeats 2000000
/-! X1: try .. except (A, B) as n -/
namespace Gh
open PySem PySem.Spec PyProof.Rows L2
theorem flying_keep {base h h' : Heap} {l : List Env} {e : Addr} {Z : Obj → Prop} (x : HandSPX.FlyingZ base l e Z h) (k : ∀ b o, h.get? b = some o → h'.get? b = some o) : HandSPX.FlyingZ base l e Z h' := by
  obtain ⟨k1, k2, k3, oe, vs, T, oT, ts, h1, h2, h3, h4, h5, h6, h7, h8, h9⟩ := x
  refine ⟨fun b o q => k b o (k1 b o q), k2, ?_, oe, vs, T, oT, ts, k _ _ h1, h2, h3, h4, h5, h6, k _ _ h7, h8, h9⟩
  have all : ∀ (l : List Env), h.FunFrames base l → h'.FunFrames base l := by
    intro l
    induction l with
    | nil => intro _; trivial
    | cons env r ih =>
      intro hl
      obtain ⟨hk, ⟨L, o, hf, hn, ho, hd⟩, hr⟩ := hl
      exact ⟨hk, ⟨L, o, hf, hn, k _ _ ho, hd⟩, ih hr⟩
  exact all l k3
/-- what the clause 'except (x, y) as n' wishes of an exception of the body: slot i is n's -/
def wAs2 (K : PySem.W.Frag) (c1 c2 : Value) (i : Nat) (ts : Addr → Value → Option Addr → TS) (Wout : WX) (D : Ends) : WX := fun cls d σ H =>
  ∃ b, PySem.W.exmAny K cls [c1, c2] = some b ∧ (b = true → ∀ a, H a = none → ts a cls d { nx := fun σ' H' => D.nx (σ'.set i none) H', rt := D.rt, bk := fun σ' H' => D.bk (σ'.set i none) H', ct := fun σ' H' => D.ct (σ'.set i none) H' } (σ.set i (some (.ref a))) H) ∧
    (b = false → Wout cls d σ H)
section
variable {X : Cx} {x y n : Str} {c1 c2 : Value} {i kt : Nat} {body suite : List Stmt} {b₀ : Stmt} {np np2 tp pos pos' : Pos} {tb : WX → TS} {ts : Addr → Value → Option Addr → TS} {Wout : WX}
theorem ps_try_as2 (hs : X.stack = X.env :: X.outer) (hf : X.env.frame = some X.env.locals) (hN : X.N.Nodup) (hi : X.N[i]? = some n) (hln : X.env.kindOf n = some .local) (hc : Names X x c1) (hc2 : Names X y c2) (tk : Takes X Wout)
    (hb : ∀ (W : WX) (pn : List (Addr × Obj)) (xe : Value → Shared → Prop), Takes (X.tr pn xe) W → PassesOwn (model X.prog X.w) X.A X.env xe → PSs (X.tr pn xe) body (tb W))
    (hsu : ∀ (a : Addr) (oe : Obj) (cls : Value) (d : Option Addr) (pn : List (Addr × Obj)), Zc cls d oe → (∃ vs, oe.data = .fields vs) → PSs (X.suite a ((a, oe) :: pn)) (b₀ :: suite) (ts a cls d))
    (hst : starEach [.Name x np, .Name y np2] X.env = [(false, eval (.Name x np) X.env), (false, eval (.Name y np2) X.env)] := by rfl) :
    PS X (.Try body [.ExceptHandler (some (.Tuple [.Name x np, .Name y np2] kt tp)) (some n) (b₀ :: suite) pos'] [] [] pos) (fun D σ H => tb (wAs2 X.K c1 c2 i ts Wout D) D σ H) := by
  refine ⟨fun pins s σ H D I h => ?_⟩
  have ok := I.ok
  have hfr : X.A.frames = some (X.env :: X.outer) := by rw [ok.frames, hs]
  have hloc : Loc X.env.scope n := .inl hln
  refine wpAny_Try_except ?_
  refine wpAny_mono ((hb (wAs2 X.K c1 c2 i ts Wout D) (X.pn ++ pins) (fun e s₁ => wpAny (model X.prog X.w) X.A (noteFrame e X.env) (fun _ s₂ => wpAny (model X.prog X.w) X.A (setFlight e none) (fun _ s₃ =>
    wpAny (model X.prog X.w) X.A (handleBy e X.env [.ExceptHandler (some (.Tuple [.Name x np, .Name y np2] kt tp)) (some n) (b₀ :: suite) pos']) (SP X pins D) X.xe s₃) X.xe s₂) X.xe s₁) (fun u s' xx => ?_) PassesOwn.looking).run [] s σ H D (I.toTry _) h) (fun f s1 hsp => ?_) (fun e s1 he => he)
  · -- the catch
    obtain ⟨a, B, sI, pins', σ', H', cls, d, rfl, J', nb, up, sky, na, os, ag, b, hb1, hyes, hno⟩ := xx
    have J : Inv X pins σ' H' sI := J'.ofTry ok
    have sky' : Sky B (X.env :: X.outer) a (Zc cls d) X.env.locals s'.heap := by rw [← hs]; exact sky
    show wpAny (model X.prog X.w) X.A (noteFrame (.ref a) X.env) _ _ _
    refine Sky.land Zc.steady hfr hf sky' fun h3 fl3 up3 => ?_
    have J3 : Inv X pins σ' H' { s' with heap := h3 } := J.landed nb fl3.1 (up.trans up3) os ag
    obtain ⟨oe3, vs3, he3, hz3, hd3⟩ := fl3.there
    have notFr : ∀ {h : Heap} {o : Obj} {vs : Array Value}, h.FunFrames B (X.env :: X.outer) → h.get? a = some o → o.data = .fields vs → a ∉ frs (X.env :: X.outer) := fun {h o vs} ff e dd hm => by
      obtain ⟨_, o', e', hnf⟩ := ff.mem hm
      rw [e] at e'; cases e'
      exact hnf _ dd
    have nfr := notFr fl3.2.2.1 he3 hd3
    have nL : a ≠ X.env.locals := fun z => nfr (List.mem_filterMap.mpr ⟨X.env, List.mem_cons_self, by rw [hf, z]⟩)
    have nF : a ∉ X.fs := fun hm => by
      obtain ⟨e, he, q⟩ := List.mem_filterMap.mp hm
      exact nfr (List.mem_filterMap.mpr ⟨e, List.mem_cons_of_mem _ he, q⟩)
    have S3 := J3.suite he3 hd3 na nL nF
    refine wpAny_handleBy_cons (codeAny_handlers_test ?_) (by intro q; cases q)
    have name : ∀ {z : Str} {c : Value} {zp : Pos} {Q : Value → Shared → Prop} {E : Value → Shared → Prop}, Names X z c → Q c { s' with heap := h3 } → wpAny (model X.prog X.w) (X.A.mark (some (.ref a))) (eval (.Name z zp) X.env) Q E { s' with heap := h3 } := fun {z c zp Q E} hc q => by
      obtain ⟨hg, hdbg, hm | ⟨hm, hv, hnn⟩⟩ := hc
      · exact ld_glob (X := X.suite a ((a, oe3) :: (X.pn ++ pins))) S3 hg hm q hdbg
      · exact ld_blt (X := X.suite a ((a, oe3) :: (X.pn ++ pins))) S3 hg hm hv q hnn hdbg
    refine wpAny_Tuple_spliced ?_
    rw [hst]
    refine Calls.spliced_cons (name hc (Calls.spliced_cons (name hc2 (Calls.spliced_nil ⟨by show 2 ≤ sizeLine; decide, ?_⟩))))
    have kp : ∀ b o, h3.get? b = some o → (h3.push { cls := .type "tuple", data := .seq [c1, c2].toArray }).get? b = some o := fun b o e => Heap.get?_push_of_some _ e
    generalize hh5 : h3.push { cls := .type "tuple", data := .seq [c1, c2].toArray } = h5 at kp
    have htp : h5.get? h3.objs.size = some { cls := .type "tuple", data := .seq [c1, c2].toArray } := by rw [← hh5]; exact Heap.get?_push_size _ rfl
    have fl5 : HandSPX.FlyingZ B (X.env :: X.outer) a (Zc cls d) h5 := flying_keep fl3 kp
    have J5 : Inv X pins σ' H' { s' with heap := h5 } := J3.kept (t' := s'.toks) kp
    have he5 := kp _ _ he3
    have LT : PySem.W.Looks (model X.prog X.w) h5 (typeOf (.ref a)) cls := fun A Q E s k q => wpAny_typeOf_ref (k _ _ he5) (by rw [hz3.1]; exact q)
    have LM := PySem.W.exm_tup2 (M := model X.prog X.w) (J5.kIn) LT htp hb1
    refine LM.here ?_
    have up5 : s'.heap.UpToSlots h5 := up3.trans (Heap.UpToSlots.of_keeps kp)
    have S5 := J5.suite he5 hd3 na nL nF
    cases b with
    | true =>
      refine codeAny_handlers_suite_as ?_
      refine HandSPX.lands_againZ fl5 fun h4 fl4 up4 => ?_
      have J4 : Inv X pins σ' H' { s' with heap := h4 } := J.landed nb fl4.1 ((up.trans up5).trans up4) os ag
      obtain ⟨oe4, vs4, he4, hz4, hd4⟩ := fl4.there
      have S4 := J4.suite he4 hd4 na nL nF
      refine store_ok (X := X.suite a ((a, oe4) :: (X.pn ++ pins))) (v := .ref a) S4 hN hi hloc rfl (fun s5 S5 => ?_) (.inr hln)
      refine wpAny_mono ((hsu a oe4 cls d (X.pn ++ pins) hz4 ⟨_, hd4⟩).run [] s5 _ H' _ S5 (hyes rfl a na)) (fun f s6 hsp => ?_) (fun _ _ z => False.elim z)
      have end_ : ∀ {σ6 : L2.St} {H6 : Hp} {Q : Shared → Prop}, Inv (X.suite a ((a, oe4) :: (X.pn ++ pins))) [] σ6 H6 s6 → (∀ s7, Inv X pins (σ6.set i none) H6 s7 → Q s7) →
          wpAny (model X.prog X.w) X.A (do bindName X.env n .none; unbindBehindTheSuite X.env n pos') (fun _ s7 => Q s7) X.xe s6 := fun {σ6 H6 Q} S6 hq => gone_ok (S6.unsuite ok) hN hi hln hq
      cases f with
      | next =>
        obtain ⟨σ6, H6, S6, q6⟩ := hsp
        exact end_ S6 fun s7 J7 => ⟨_, _, J7, q6⟩
      | brk =>
        obtain ⟨σ6, H6, S6, q6⟩ := hsp
        exact end_ S6 fun s7 J7 => ⟨_, _, J7, q6⟩
      | cont =>
        obtain ⟨σ6, H6, S6, q6⟩ := hsp
        exact end_ S6 fun s7 J7 => ⟨_, _, J7, q6⟩
      | ret u =>
        obtain ⟨v6, σ6, H6, S6, r6, q6⟩ := hsp
        exact end_ S6 fun s7 J7 => ⟨_, _, _, J7, r6, q6⟩
    | false =>
      show wpAny _ X.A (handleBy (.ref a) X.env []) _ _ _
      refine wpAny_handleBy_nil ?_
      obtain ⟨k1, k2, k3, oe, vs, T, oT, ts', he, hz, hd, h1, hr⟩ := id fl5
      unfold PySem.passOn
      refine wpAny_bind (wpAny_field he hd h1 ?_)
      rw [if_neg (show ¬ ((Value.ref T == Value.none) = true) from by simp)]
      have fin : wpAny (model X.prog X.w) X.A (setFlight (.ref a) X.env.frame) (fun _ s4 => wpAny (model X.prog X.w) X.A (throw (.ref a) : Sem Flow) (SP X pins D) X.xe s4) X.xe { s' with heap := h5 } := by
        rw [hf]
        refine HandSPX.setFlight_upZ fl5 fun h4 hh4 up4 => wpAny_throw (tk _ _ ?_)
        exact ⟨a, B, sI, pins, σ', H', cls, d, rfl, J, nb, (up.trans up5).trans up4, .inr (.inr (by rw [hs]; exact hh4)), na, os, ag, hno rfl⟩
      first
        | exact wpAny_bind (wpAny_pure (wpAny_bind fin))
        | exact wpAny_bind fin
  · cases f with
    | next =>
      obtain ⟨σ', H', J', q⟩ := hsp
      exact wpAny_execs_nil ⟨σ', H', J'.ofTry ok, q⟩
    | brk =>
      obtain ⟨σ', H', J', q⟩ := hsp
      exact ⟨σ', H', J'.ofTry ok, q⟩
    | cont =>
      obtain ⟨σ', H', J', q⟩ := hsp
      exact ⟨σ', H', J'.ofTry ok, q⟩
    | ret u =>
      obtain ⟨v, σ', H', J', r, q⟩ := hsp
      exact ⟨v, σ', H', J'.ofTry ok, r, q⟩
end
end Gh

set_option maxHeartbeats 2000000
/-! X2: exceptions in the ghost layer -/
namespace Gh
open PySem PySem.Spec PyProof.Rows L2
/-- what is wanted of an exception: its class, its fields, the heap without its dict -/
abbrev GX := Str → List (Str × D) → GH → Prop
def exK (K : Fg) (h0 : GH) (H0 : Hp) (px : GX) : XK := fun cls d H => ∃ (h : GH) (C : Str) (fs : List (Str × D)) (dd : Addr), cls = .ref (He.ga K C) ∧ d = some dd ∧ Step h0 H0 h H ∧ Rel K h H ∧ h dd = some (.xd fs) ∧ px C fs (del h dd)
def exW (K : Fg) (h0 : GH) (H0 : Hp) (px : GX) : WX := fun cls d _ H => exK K h0 H0 px cls d H
theorem exK.after {K : Fg} {h0 h1 : GH} {H0 H1 : Hp} {px : GX} (s : Step h0 H0 h1 H1) {cls : Value} {d : Option Addr} {H : Hp} (x : exK K h1 H1 px cls d H) : exK K h0 H0 px cls d H := by
  obtain ⟨h, C, fs, dd, e1, e2, st, re, e3, p⟩ := x
  exact ⟨h, C, fs, dd, e1, e2, s.trans st, re, e3, p⟩
abbrev GSpecX := List D → GH → GP → GX → Prop
def GSPX (K : Fg) (S : GSpecX) : Sp := fun vs H Q E => ∃ ds h P px, Rel K h H ∧ Dvs K h H vs ds ∧ S ds h P px ∧ (∀ v H' d h', Step h H h' H' → Rel K h' H' → Dv K h' H' v d → P d h' → Q v H') ∧ ∀ cls d H', exK K h H px cls d H' → E cls d H'
/-- a def of the module that may raise, by its name -/
def FcX (P : Program) (w : World) (K : Fg) (mg : Str → Option Value) (base : Heap) (k : Nat) (x : Str) (S : GSpecX) : Prop :=
  ∃ f : Addr, FnR P w K mg base (L2.CX P w) k f (GSPX K S) ∧ mg x = some (.ref f) ∧ PySem.W.keepIn K (.ref f) = true
theorem FcX.mono {P : Program} {w : World} {K : Fg} {mg : Str → Option Value} {base : Heap} {j k : Nat} {x : Str} {S : GSpecX} (c : FcX P w K mg base j x S) (h : j ≤ k) : FcX P w K mg base k x S :=
  let ⟨f, F, m, kp⟩ := c; ⟨f, F.mono h, m, kp⟩
theorem FcX.imp {P : Program} {w : World} {K : Fg} {mg : Str → Option Value} {base : Heap} {k : Nat} {x : Str} {S S' : GSpecX} (c : FcX P w K mg base k x S) (h : ∀ ds h P px, S' ds h P px → S ds h P px) : FcX P w K mg base k x S' :=
  let ⟨f, F, m, kp⟩ := c; ⟨f, F.imp fun vs H Q E ⟨ds, h0, P, px, re, dv, s, k, kx⟩ => ⟨ds, h0, P, px, re, dv, h _ _ _ _ s, k, kx⟩, m, kp⟩
section
variable {X : Cx} {e : Expr} {es : List Expr} {gas : gTA} {pos : Pos} {h0 : GH} {H0 : Hp} {px : GX}
def gCallX (S : GSpecX) (px : GX) (ga : gTA) : gTE := fun s h P => ga s h fun ds h1 => S ds h1 P px
theorem passX (tk : Takes X (exW X.K h0 H0 px)) : Passes (L2.CX X.prog X.w) X (exK X.K h0 H0 px) := passes_call tk fun _ _ _ _ z => z
theorem callX_of {K : Fg} {S : GSpecX} (σ : L2.St) (H : Hp) (Q : VK) (q : gE K (AN.step h0 H0) (gCallX S px gas) σ H Q) : gA K (AN.step h0 H0) gas σ H fun vs H1 => GSPX K S vs H1 Q (exK K h0 H0 px) := by
  obtain ⟨s, h, P, re, l, g, k⟩ := q
  refine ⟨s, h, _, re, l, g, fun vs H1 ds h1 s1 re1 dvs g1 => ?_⟩
  exact ⟨ds, h1, P, px, re1, dvs, g1, fun v H' d h' s2 re2 dv p => k v H' d h' (s1.trans s2) re2 dv p, fun cls d H' x => exK.after (l.an.trans s1) x⟩
theorem e_callX {k j : Nat} {x : Str} {S : GSpecX} {p : Pos} (tk : Takes X (exW X.K h0 H0 px)) (c : FcX X.prog X.w X.K X.mg X.base k x S) (hr : Room j X.A) (hk : k ≤ j) (ha : PA X (e :: es) (gA X.K (AN.step h0 H0) gas)) (hg : Gl X x := by rfl) (hdb : (x == ("__debug__" : Str)) = false := by decide)
    (he : starEach (e :: es) X.env = (false, eval e X.env) :: starEach es X.env := by rfl) (hpl : (backTo pos (starEach es X.env)).any (·.1) = false := by rfl) :
    PE X (.Call (.Name x p) (e :: es) [] pos) (gE X.K (AN.step h0 H0) (gCallX S px gas)) := by
  obtain ⟨f, F, hm, kp⟩ := c
  refine ⟨fun pins s σ H Q I h => ?_⟩
  refine wpAny_Call_Name_kw (ld_glob I hg hm ?_ hdb)
  refine PySem.W.callWith_K (h₀ := X.base) I.ok.mod.kin kp (thn (ha.run pos pins s σ H _ I (callX_of σ H Q h)) fun us s1 ⟨vs, H1, I1, r, q⟩ => ⟨I1.kIn, ?_⟩) he hpl
  exact wpAny_call (run_fnR F (hr.mono hk) (passX tk) I1 r q)
end
/-! ### a def by its body -/
section
variable {P : Program} {w : World} {K : Fg} {mg : Str → Option Value} {base : Heap}
theorem gfunX {x : Str} {st : Stmt} {f : Addr} {fd : FuncData} {N ps : List Str} {k : Nat} {S : GSpecX} {g : GX → gTS} (F : Fun K x x st f fd) (hm : mg x = some (.ref f)) (b : Binds K fd ps []) (sc : FnScope N ps (defScope st)) (len : ∀ ds h P px, S ds h P px → ds.length = ps.length)
    (hd : ∀ (cdv : Value) (A : Around) (outer : List Env) (s : Shared) (H : Hp) (E : XK) (h0 : GH) (px : GX), Takes (cxOf (L2.CX P w) P w K mg base N x (defScope st) f cdv A outer s H E) (exW K h0 H px) → Room k (A.deeper (envOfC x (defScope st) s.heap.objs.size f cdv)) →
      PSs (cxOf (L2.CX P w) P w K mg base N x (defScope st) f cdv A outer s H E) (defBody st) (gS K (AN.step h0 H) (g px)))
    (hg : ∀ ds h P px, S ds h P px → g px { nx := fun _ h' => P .non h', rt := P } (startG N ds) h) : FcX P w K mg base (k + 1) x S := by
  refine ⟨f, ?_, hm, F.kp⟩
  have ok : FnOk P w K mg base (L2.CX P w) (k + 1) f fd ps (GSPX K S) := by
    refine F.okX sc (fun vs H Q E ⟨ds, h, P, px, re, dv, s, _⟩ => by rw [dv.length]; exact len _ _ _ _ s) (fun cdv A outer s H vs Q E hr ⟨ds, h, Pp, px, re, dv, hs, kk, kx⟩ => ?_)
    have tk : Takes (cxOf (L2.CX P w) P w K mg base N x (defScope st) f cdv A outer s H E) (exW K h H px) := (takes_of (X := cxOf (L2.CX P w) P w K mg base N x (defScope st) f cdv A outer s H E) (E := E) rfl rfl rfl rfl).imp fun cls d σ H' z => kx cls d H' z
    refine ⟨_, hd cdv A outer s H E h px tk hr, ?_⟩
    exact ⟨startG N ds, h, _, re, Sl.begin dv (Step.refl h H), hg ds h Pp px hs, fun σ' H' s' h' st re' l' p => kk _ H' _ h' st re' .non p, fun v H' d h' st re' dv' p => kk v H' d h' st re' dv' p, fun _ _ _ _ _ _ _ z => z.elim, fun _ _ _ _ _ _ _ z => z.elim⟩
  have r := ok.raw b .nil
  exact r.imp fun vs H Q E q => by rw [List.append_nil]; exact q
end
end Gh

set_option maxHeartbeats 2000000
/-! X3: raise C(), raise C(e) -/
namespace L2
open PySem PySem.Spec PyProof.Rows
def tMkO0 (C : Addr) (sp : Sp) : St → Hp → XK → Prop := fun σ H1 Q => ∀ a, H1 a = none → sp [.ref a] (upd H1 a (exo a C none))
  (fun v H2 => v = .non ∧ ∃ (d : Addr) (fs : List (Str × V)), H2 a = some (exo a C (some d)) ∧ H2 d = some (exd d fs) ∧ H1 d = none ∧ Q (.ref C) (some d) (upd (del H2 a) d (.xd fs))) (fun _ _ _ => False)
theorem pmk_oex0 {X : Cx} {p pos : Pos} {CX : CXT} {x : Str} {C fI : Addr} {k : Nat} {fd : FuncData} {ps : List Str} {sp : Sp} (T : OexC X.K C) (iC : PySem.W.findIn X.K (.ref C) "__init__" = some (some (.ref fI))) (tI : PySem.W.typeIn X.K (.ref fI) = some (.type "function"))
    (F1 : FnOk X.prog X.w X.K X.mg X.base CX k fI fd ps sp) (hr : Room (k + 1) X.A) (hb : Binds X.K fd ps []) (hx : Passes CX X (fun _ _ _ => False)) (hg : Gl X x) (hm : X.mg x = some (.ref C))
    (hdb : (x == ("__debug__" : Str)) = false := by decide) :
    PMk X (.Call (.Name x p) [] [] pos) (tMkO0 C sp) := by
  intro pins s σ H1 Q I1 q1
  obtain ⟨nm, q, N, bs, bm, sn, sub, ab, col, dd, k0, k1, k2, k3, k5, hC, hbm⟩ := T.cls
  refine wpAny_Call_Name_kw (ld_glob I1 hg hm ?_ hdb)
  refine PySem.W.callWith_K0 I1.kIn T.kC ?_
  show wpAny _ _ (call (.ref C) []) _ _ _
  obtain ⟨hp, g, dr, tk, os⟩ := s
  have hsz : hp.objs.size ≤ hp.objs.size + 1 := Nat.le_succ _
  have hn : H1 (hp.objs.size + 1) = none := I1.hok.fresh hsz
  have hq := q1 (hp.objs.size + 1) hn
  have kk : ∀ b o, hp.get? b = some o → ((hp.push (PySem.W.kdv_tup [])).push (PySem.HandSPX.excO C hp.objs.size)).get? b = some o := fun b o e => Heap.get?_push_of_some _ (Heap.get?_push_of_some _ e)
  have hget : ((hp.push (PySem.W.kdv_tup [])).push (PySem.HandSPX.excO C hp.objs.size)).get? (hp.objs.size + 1) = some (PySem.HandSPX.excO C hp.objs.size) := by heap_get
  have I2 : Inv X pins σ (upd H1 (hp.objs.size + 1) (exo (hp.objs.size + 1) C none)) ⟨(hp.push (PySem.W.kdv_tup [])).push (PySem.HandSPX.excO C hp.objs.size), g, dr, tk, os⟩ :=
    I1.laid (t' := tk) (a := hp.objs.size + 1) (o := exo (hp.objs.size + 1) C none) (h' := (hp.push (PySem.W.kdv_tup [])).push (PySem.HandSPX.excO C hp.objs.size)) kk hsz (exo_ok hget)
  have r2 : Vals [V.ref (hp.objs.size + 1)] [Value.ref (hp.objs.size + 1)] := .cons rfl .nil
  have hl : [Value.ref (hp.objs.size + 1)].length = ps.length := by
    have e := r2.length
    rw [F1.len _ _ _ _ hq] at e
    exact e.symm
  refine wpAny_call (PySem.HandSPX.call_own F.excBase_ValueError (fun Y => PySem.HandSPX.refsVE_contains Y bm hbm) (I1.kIn _ _ hC) (PySem.W.looks_findIn I1.kIn iC) (fun self => PySem.W.bind_fn I1.kIn self tI) (by decide)
    (codeAny_mono (F1.run _ X.stack _ _ ⟨[Value.ref (hp.objs.size + 1)], []⟩ [Value.ref (hp.objs.size + 1)] _ _ (fun _ _ _ => False) (hr.make C [] []) (I2.env0.make C [] []) (by have b := hb _ [Value.ref (hp.objs.size + 1)] I2.kIn (by rw [List.append_nil]; exact hl); rw [List.append_nil] at b; exact b) r2 hq) fun r s' hq' => ?_))
  cases r with
  | error er => exact hx pins σ _ _ er s' I2 hq'
  | ok fl =>
    cases fl with
    | ret u =>
      obtain ⟨v, H2, os2, bare2, un2, hok2, rv, ev, d, fs, ea, ed, hd1, q2⟩ := hq'
      subst ev
      obtain ⟨h2, g2, d2, t2, os'⟩ := s'
      exact ⟨rv, mk_end (raises_own T.exC T.tyC) I1 hsz kk un2 hok2 os2 bare2 ea ed hd1 q2⟩
    | next => exact False.elim hq'
    | brk => exact False.elim hq'
    | cont => exact False.elim hq'
/-! ### __init__: self.word = w; self.f = x -/
def spI0 (C : Addr) (w : Str) : Sp := fun vs H Q _ => ∃ a, vs = [.ref a] ∧ H a = some (exo a C none) ∧ ∀ dx, H dx = none → dx ≠ a → Q .non (upd (upd H dx (exd dx [("word", .str w)])) a (exo a C (some dx)))
def spI1 (C : Addr) (w f : Str) : Sp := fun vs H Q _ => ∃ a v, vs = [.ref a, v] ∧ H a = some (exo a C none) ∧ ∀ dx, H dx = none → dx ≠ a → Q .non (upd (upd (upd H dx (exd dx [("word", .str w)])) a (exo a C (some dx))) dx (exd dx [(f, v), ("word", .str w)]))
section
variable {P : Program} {w : World} {K : PySem.W.Frag} {mg : Str → Option Value} {base : Heap} {f C : Addr} {fd : FuncData} {st : Stmt} {qual : Str}
theorem init0_ok {wd : Str} {j : Nat} {p1 p2 p3 p4 : Pos} (F : Fun K "__init__" qual st f fd) (sc : FnScope ["self"] ["self"] (defScope st)) (hb : defBody st = [.Assign [.Attribute (.Name "self" p1) "word" p2] (.Constant (.str wd) j p3) p4]) (hs : Vis (defScope st) "self") (T : OexC K C) (hw : PySem.W.findIn K (.ref C) "word" = some none) :
    FnOk P w K mg base CX0 1 f fd ["self"] (spI0 C wd) := by
  refine F.ok sc (fun vs H Q E ⟨a, e, _⟩ => by rw [e]; rfl) (fun cdv A outer s H vs Q E hr ⟨a, e, ha, q⟩ => ?_)
  subst e
  rw [hb]
  refine ⟨_, pss_one (ps_ost (pe_var (i := 0) rfl hs (by decide) (by decide)) pe_str), ?_⟩
  exact ⟨_, rfl, a, C, rfl, T, hw, .inl ⟨ha, fun dx n ne => q dx n ne⟩⟩
theorem init1_ok {wd g : Str} {j : Nat} {p1 p2 p3 p4 p5 p6 p7 p8 : Pos} (F : Fun K "__init__" qual st f fd) (sc : FnScope ["self", g] ["self", g] (defScope st)) (hb : defBody st = [.Assign [.Attribute (.Name "self" p1) "word" p2] (.Constant (.str wd) j p3) p4, .Assign [.Attribute (.Name "self" p5) g p6] (.Name g p7) p8])
    (hs : Vis (defScope st) "self") (hvis : Vis (defScope st) g) (hdg : (g == ("__debug__" : Str)) = false) (hcg : (g == ("__classdict__" : Str)) = false) (T : OexC K C) (hw : PySem.W.findIn K (.ref C) "word" = some none) (hf : PySem.W.findIn K (.ref C) g = some none) :
    FnOk P w K mg base CX0 1 f fd ["self", g] (spI1 C wd g) := by
  refine F.ok sc (fun vs H Q E ⟨a, v, e, _⟩ => by rw [e]; rfl) (fun cdv A outer s H vs Q E hr ⟨a, v, e, ha, q⟩ => ?_)
  subst e
  rw [hb]
  refine ⟨_, pss_cons (ps_ost (pe_var (i := 0) rfl hs (by decide) (by decide)) pe_str) (pss_one (ps_ost (pe_var (i := 0) rfl hs (by decide) (by decide)) (pe_var (i := 1) rfl hvis hdg hcg))), ?_⟩
  refine ⟨_, rfl, a, C, rfl, T, hw, .inl ⟨ha, fun dx n ne => ?_⟩⟩
  refine ⟨v, rfl, _, rfl, a, C, rfl, T, hf, .inr ⟨dx, [("word", .str wd)], upd_same, ?_, by show 1 ≤ 900; decide, ?_⟩⟩
  · rw [upd_ne ne, upd_same]
  · exact q dx n ne
end
end L2
namespace Gh
open PySem PySem.Spec PyProof.Rows L2
/-- an own exception class of the module: facts -/
structure XCls (K : Fg) (mg : Str → Option Value) (x : Str) : Prop where
  mg : mg x = some (.ref (He.ga K x))
  T : OexC K (He.ga K x)
  iC : ∃ fI, PySem.W.findIn K (.ref (He.ga K x)) "__init__" = some (some (.ref fI)) ∧ PySem.W.typeIn K (.ref fI) = some (.type "function")
theorem made_rel {K : Fg} {h0 h : GH} {H0 H : Hp} {px : GX} {x : Str} {a dx : Addr} {o : HO} {fs : List (Str × D)} {vs : List V} (re : Rel K h H) (st : Step h0 H0 h H) (na : H a = none) (nd : H dx = none) (ne : dx ≠ a) (dv : Dvs K h H vs (fs.map (·.2))) (hp : px x fs h) {H2 : Hp} (hH : ∀ b, b ≠ a → b ≠ dx → H2 b = H b) :
    exK K h0 H0 px (.ref (He.ga K x)) (some dx) (upd (L2.del H2 a) dx (.xd ((fs.map (·.1)).zip vs))) := by
  have hn : h dx = none := re.free nd
  have hna : h a = none := re.free na
  have same : ∀ b o, H b = some o → upd (L2.del H2 a) dx (.xd ((fs.map (·.1)).zip vs)) b = some o := fun b o e => by
    have h1 : b ≠ dx := fun z => by subst z; rw [nd] at e; cases e
    have h2 : b ≠ a := fun z => by subst z; rw [na] at e; cases e
    rw [upd_ne h1]
    show (if b = a then none else H2 b) = some o
    rw [if_neg h2, hH b h2 h1, e]
  have s2 : Step h H (put h dx (.xd fs)) (upd (L2.del H2 a) dx (.xd ((fs.map (·.1)).zip vs))) := ⟨fun b o _ _ e => same b o e, fun b e => by
    by_cases z : b = dx
    · subst z; exact .inr (.inl nd)
    · rw [put_ne z] at e; exact .inl e⟩
  refine ⟨put h dx (.xd fs), x, fs, dx, rfl, rfl, st.trans s2, fun b g e => ?_, put_same, ?_⟩
  · by_cases z : b = dx
    · subst z
      rw [put_same] at e
      cases e
      exact ⟨vs, upd_same, dv.mono s2⟩
    · rw [put_ne z] at e
      exact (re b g e).mono s2 fun o q => same b o q
  · rw [put_del hn]; exact hp
section
variable {X : Cx} {e : Expr} {ga : gTE} {p p' pos : Pos} {h0 : GH} {H0 : Hp} {px : GX} {x : Str}
def sRaise0 (px : GX) (x w : Str) : gTS := fun _ _ h => px x [("word", .str w)] h
theorem s_raise0 {wd : Str} {k : Nat} {fd : FuncData} (hc : X.calm = true) (tk : Takes X (exW X.K h0 H0 px)) (T : OexC X.K (He.ga X.K x)) {fI : Addr} (iC : PySem.W.findIn X.K (.ref (He.ga X.K x)) "__init__" = some (some (.ref fI))) (tI : PySem.W.typeIn X.K (.ref fI) = some (.type "function"))
    (F1 : FnOk X.prog X.w X.K X.mg X.base CX0 1 fI fd ["self"] (spI0 (He.ga X.K x) wd)) (hb : Binds X.K fd ["self"] []) (hr : Room k X.A) (hk : 2 ≤ k) (hm : X.mg x = some (.ref (He.ga X.K x))) (hg : Gl X x := by rfl) (hdb : (x == ("__debug__" : Str)) = false := by decide) :
    PS X (.Raise (some (.Call (.Name x p) [] [] p')) none pos) (gS X.K (AN.step h0 H0) (sRaise0 px x wd)) :=
  (ps_raise hc tk (pmk_oex0 T iC tI F1 (hr.mono hk) hb pass0 hg hm hdb)).imp fun De σ H ⟨s, h, N, re, l, g, m⟩ => by
    intro a na
    refine ⟨a, rfl, upd_same, fun dx nd ne => ?_⟩
    rw [upd_ne ne] at nd
    refine ⟨rfl, dx, [("word", .str wd)], upd_same, by rw [upd_ne ne, upd_same], nd, ?_⟩
    refine made_rel (x := x) (fs := [("word", .str wd)]) (vs := [.str wd]) (o := .lst []) re l.an na nd ne (.cons (.str wd) .nil) g fun b h1 h2 => ?_
    rw [upd_ne h1, upd_ne h2, upd_ne h1]
end
end Gh

set_option maxHeartbeats 2000000
/-! X4: a caught exception's fields; defs called where an exception is handled -/
namespace Gh
open PySem PySem.Spec PyProof.Rows L2
/-- e.n of an exception that the context pins -/
theorem pe_xfG {Y : Cx} {a C : Addr} {oe : Obj} {cls : Value} {d : Option Addr} {e : Expr} {te : TE} {pos : Pos} {n : Str} (T : XfC Y.K C) (hno : PySem.W.findIn Y.K (.ref C) n = some none)
    (hz : Zc cls d oe) (hf : ∃ vs, oe.data = .fields vs) (hp : (a, oe) ∈ Y.pn) (he : PE Y e te) (hb : attributeBase e n Y.env (eval e Y.env) = eval e Y.env := by rfl) :
    PE Y (.Attribute e n pos) (tXf a cls d C n te) := by
  refine ⟨fun pins s σ H Q I h => ?_⟩
  refine attr_of hb (thn (he.run pins s σ H _ I h) fun u s1 hh => ?_)
  obtain ⟨x, H1, I1, rx, ex, ec, dd, fs, v, ed, ea, l, q⟩ := hh
  subst ex
  obtain rfl : u = Value.ref a := rx
  subst ec
  subst ed
  obtain ⟨ha, _⟩ := I1.pin (a, oe) (List.mem_append_left _ hp)
  obtain ⟨vs, hd⟩ := hf
  have hx : ObjOk Y.prog Y.w H1 s1.heap dd (.xd fs) := I1.hok dd _ ea
  obtain ⟨mA, hns, hr⟩ := hx
  obtain ⟨od, ho, hl⟩ := lookIn_ns hns
  obtain ⟨u, hu, ru⟩ := RelO.some_of (v := v) (o := mA n) (by rw [← l]; exact hr n)
  have J : PySem.W.InstAt s1.heap a oe C (some od) := ⟨ha, hz.1, by unfold PySem.W.notCls; rw [hd] <;> rfl, by rw [hz.2]; exact ho⟩
  exact HandSPX.exc_get I1.kIn J T.ga T.gg T.exC (PySem.W.findObj_own T.hdC hno rfl (by rw [hl, hu])) (handed_of ru) ⟨v, H1, I1.tok _, ru, q⟩
theorem Dvs.look {K : Fg} {h : GH} {H : Hp} {n : Str} {d : D} : ∀ {fs : List (Str × D)} {vs : List V}, Dvs K h H vs (fs.map (·.2)) → fs.lookup n = some d → ∃ v, ((fs.map (·.1)).zip vs).lookup n = some v ∧ Dv K h H v d
  | [], _, _, e => by cases e
  | (m, d0) :: r, _, .cons (v := v) (vs := vs) a t, e => by
    rw [List.lookup_cons] at e
    show ∃ v', List.lookup n ((m, v) :: (r.map (·.1)).zip vs) = some v' ∧ _
    rw [List.lookup_cons]
    cases q : (n == m) with
    | true => rw [q] at e; cases e; exact ⟨v, rfl, a⟩
    | false => rw [q] at e; exact Dvs.look t e
/-- all that is asked of an own exception class whose instances' fields are read -/
structure XOk (K : Fg) (C : Addr) : Prop where
  T : XfC K C
  no : ∀ n ∈ (["word", "player", "name", "place", "limit", "index", "row"] : List Str), PySem.W.findIn K (.ref C) n = some none
def xokB (K : Fg) (C : Addr) : Bool := xfB K C && (["word", "player", "name", "place", "limit", "index", "row"] : List Str).all fun n => decide (PySem.W.findIn K (.ref C) n = some none)
theorem xokB_ok {K : Fg} {C : Addr} (h : xokB K C = true) : XOk K C := by
  obtain ⟨h1, h2⟩ := Bool.and_eq_true_iff.mp h
  exact ⟨xfB_ok h1, fun n hn => of_decide_eq_true (List.all_eq_true.mp h2 n hn)⟩
def gXf (a dd : Addr) (n : Str) (ge : gTE) : gTE := fun s h P => ge s h fun d h1 => d = .ref a ∧ ∃ fs v, h1 dd = some (.xd fs) ∧ fs.lookup n = some v ∧ P v h1
theorem e_xf {Y : Cx} {An : AN} {a C dd : Addr} {oe : Obj} {e : Expr} {ge : gTE} {pos : Pos} {n : Str} (xo : XOk Y.K C) (hz : Zc (.ref C) (some dd) oe) (hf : ∃ vs, oe.data = .fields vs) (hp : (a, oe) ∈ Y.pn) (he : PE Y e (gE Y.K An ge))
    (hn : n ∈ (["word", "player", "name", "place", "limit", "index", "row"] : List Str) := by decide) (hb : attributeBase e n Y.env (eval e Y.env) = eval e Y.env := by rfl) : PE Y (.Attribute e n pos) (gE Y.K An (gXf a dd n ge)) :=
  (pe_xfG xo.T (xo.no n hn) hz hf hp he hb).imp fun σ H Q ⟨s, h, P, re, l, g, k⟩ => by
    refine ⟨s, h, _, re, l, g, fun x H1 d h1 s1 re1 dx ⟨ed, fs, v, ex, el, p⟩ => ?_⟩
    subst ed
    cases dx
    obtain ⟨vs, hx, rs⟩ := re1 dd _ ex
    obtain ⟨u, hu, du⟩ := rs.look el
    exact ⟨rfl, rfl, dd, _, u, rfl, hx, hu, k u H1 v h1 s1 re1 du p⟩
/-! ### warm defs -/
/-- a def called where something may be handled; p: an object that is pinned -/
def FnWm (P : Program) (w : World) (K : Fg) (mg : Str → Option Value) (base : Heap) (k : Nat) (f : Addr) (fd : FuncData) (ps : List Str) (sp : Addr × Obj → Sp) : Prop :=
  ∀ (A : Around) (outer : List Env) (s : Shared) (H : Hp) (args : Args) (us : List Value) (vs : List V) (Q : VK) (E : XK) (p : Addr × Obj), L2H.RoomH k A → L2H.PinOk outer H s p → Env0 P w K mg base A outer s H → BindsTo s fd args (ps.zip us) → Vals vs us → sp p vs H Q E →
    codeAny (model P w) A (.call (.ref f) args) (CR CX0 outer P w H s Q E) s
theorem fn_ofW {P : Program} {w : World} {K : Fg} {mg : Str → Option Value} {base : Heap} {k : Nat} {f : Addr} {name qual : Str} {params : Arguments} {body : List Stmt} {scope : Scope} {dV kV doc pm cdv ct oc : Value} {an od : Option Addr}
    {osl : Array (Option Value)} {N ps : List Str} {sp : Addr × Obj → Sp} (lk : K.lookup f = some ⟨oc, od, .func (PySem.W.fnOf name qual params body scope dV kV doc pm an cdv ct), osl⟩) (hcd : PySem.W.codeIn K cdv qual = true) (S : FnScope N ps scope)
    (len : ∀ p vs H Q E, sp p vs H Q E → vs.length = ps.length)
    (hbody : ∀ (A : Around) (outer : List Env) (s : Shared) (H : Hp) (vs : List V) (Q : VK) (E : XK) (p : Addr × Obj), L2H.RoomH k (A.deeper (envOfC qual scope s.heap.objs.size f cdv)) → sp p vs H Q E →
      ∃ t, PSs (L2H.cxH CX0 P w K mg base N qual scope f cdv A outer s H E p).nox body t ∧ t { nx := fun _ H' => Q .non H', rt := Q } (L2.start N vs) H) :
    FnWm P w K mg base (k + 1) f (PySem.W.fnOf name qual params body scope dV kV doc pm an cdv ct) ps sp := by
  intro A outer s H args us vs Q E p hr hpin e0 hb r hsp
  have hl := len _ _ _ _ _ hsp
  have KX : K.In s.heap := e0.mod.kin.keeps fun b o e => (e0.bs b o e).1
  have lim : s.heap.NoLimit := e0.mod.nolimit.keeps fun b o e => (e0.bs b o e).1
  have hkind : ∀ y ∈ ps.zip us, scope.names.lookup y.1 = some .local ∨ (scope.names.lookup y.1 = some .cell ∧ ((cellsFrom (s.heap.objs.size + 1) scope.names []).lookup y.1).isSome = true) := fun ⟨n, v⟩ hy => by
    rcases S.par n (List.of_mem_zip hy).1 with q | q
    · exact .inl q
    · exact .inr ⟨q, PySem.W.cellsFrom_some _ _ _ (.inl q)⟩
  refine codeAny_call_function hr.depth (KX _ _ lk) rfl S.co S.gen rfl (PySem.W.codeRec_of KX hcd) (hb _ _ _ _ ?_)
  refine wpAny_newFunctionEnv_cells S.kind hkind fun env he s1 x => ?_
  subst he
  refine ⟨lim.keeps x.toInCall.keep, codeAny_func ?_⟩
  obtain ⟨t, ht, hq⟩ := hbody A outer s H vs Q E p (hr.deeper _) hsp
  have I : Inv (L2H.cxH CX0 P w K mg base N qual scope f cdv A outer s H E p) [] (L2.start N vs) H s1 := L2H.inv_startH S hpin e0 hl r x
  refine wpAny_mono (ht.nox.run [] s1 (L2.start N vs) H _ I hq) (fun fl s' hs => ?_) fun e s' hs => hs
  have fin : ∀ {σ' : L2.St} {H' : Hp} {v : V} {u : Value}, Inv (L2H.cxH CX0 P w K mg base N qual scope f cdv A outer s H E p) [] σ' H' s' → RelV v u → Q v H' → CE outer P w H s Q u s' :=
    fun {σ' H' v u} J rv q => ⟨v, H', J.os, J.bare, J.base, J.hok, rv, q⟩
  cases fl with
  | ret u =>
    obtain ⟨v, σ', H', J, rv, q⟩ := hs
    exact fin J rv q
  | next =>
    obtain ⟨σ', H', J, q⟩ := hs
    exact fin (v := V.non) (u := Value.none) J rfl q
  | brk =>
    obtain ⟨_, _, _, q⟩ := hs
    exact False.elim q
  | cont =>
    obtain ⟨_, _, _, q⟩ := hs
    exact False.elim q
end Gh

set_option maxHeartbeats 4000000
/-! X5: _law_field, _law_try -/
namespace Gh
open PySem PySem.Spec PyProof.Rows L2
abbrev FSpec := Addr → Addr → GSpec
def spF (K : Fg) (S : FSpec) (p : Addr × Obj) : Sp := fun vs H Q E => ∃ C dd, Zc (.ref C) (some dd) p.2 ∧ (∃ vs, p.2.data = .fields vs) ∧ XOk K C ∧ GSP K (S p.1 dd) vs H Q E
/-- a def that reads a caught exception -/
def FcF (P : Program) (w : World) (K : Fg) (mg : Str → Option Value) (base : Heap) (k : Nat) (x : Str) (S : FSpec) : Prop :=
  ∃ (f : Addr) (fd : FuncData) (ps : List Str), FnWm P w K mg base k f fd ps (spF K S) ∧ (∀ a dd ds h Q, S a dd ds h Q → ds.length = ps.length) ∧ mg x = some (.ref f) ∧ PySem.W.keepIn K (.ref f) = true ∧ Binds K fd ps []
section
variable {P : Program} {w : World} {K : Fg} {mg : Str → Option Value} {base : Heap}
theorem gfunF {x : Str} {st : Stmt} {f : Addr} {fd : FuncData} {N ps : List Str} {k : Nat} {S : FSpec} {g : Addr → Addr → gTS} (F : Fun K x x st f fd) (hm : mg x = some (.ref f)) (b : Binds K fd ps []) (sc : FnScope N ps (defScope st)) (len : ∀ a dd ds h P, S a dd ds h P → ds.length = ps.length)
    (hd : ∀ (cdv : Value) (A : Around) (outer : List Env) (s : Shared) (H : Hp) (E : XK) (p : Addr × Obj) (C dd : Addr), L2H.RoomH k (A.deeper (envOfC x (defScope st) s.heap.objs.size f cdv)) → XOk K C → Zc (.ref C) (some dd) p.2 → (∃ vs, p.2.data = .fields vs) → PSs (L2H.cxH CX0 P w K mg base N x (defScope st) f cdv A outer s H E p).nox (defBody st) (gS K AN.top (g p.1 dd)))
    (hg : ∀ a dd ds h P, S a dd ds h P → g a dd { nx := fun _ h' => P .non h', rt := P } (startG N ds) h) : FcF P w K mg base (k + 1) x S := by
  obtain ⟨oc, od, kV, doc, pm, an, cdv, ct, osl, e, lk, hcd⟩ := F.ex
  refine ⟨f, fd, ps, ?_, len, hm, F.kp, b⟩
  subst e
  refine fn_ofW lk hcd sc (fun p vs H Q E ⟨C, dd, _, _, _, ds, h, P, re, dv, s, _⟩ => by rw [dv.length]; exact len _ _ _ _ _ s) fun A outer s H vs Q E p hr ⟨C, dd, hz, hf, xo, ds, h, Pp, re, dv, hs, kk⟩ => ?_
  refine ⟨_, hd cdv A outer s H E p C dd hr xo hz hf, ?_⟩
  exact ⟨startG N ds, h, _, re, Sl.begin dv trivial, hg _ _ ds h Pp hs, fun σ' H' s' h' st re' l' p => kk _ H' _ h' st re' .non p, fun v H' d h' st re' dv' p => kk v H' d h' st re' dv' p, fun _ _ _ _ _ _ _ z => z.elim, fun _ _ _ _ _ _ _ z => z.elim⟩
end
section
variable {Y : Cx} {An : AN} {e : Expr} {es : List Expr} {gas : gTA} {pos : Pos}
theorem e_callF {k : Nat} {x : Str} {S : FSpec} {p : Pos} {a C dd : Addr} {oe : Obj} (c : FcF Y.prog Y.w Y.K Y.mg Y.base k x S) (hr : L2H.RoomH k Y.A) (xo : XOk Y.K C) (hz : Zc (.ref C) (some dd) oe) (hf : ∃ vs, oe.data = .fields vs) (hp : (a, oe) ∈ Y.pn) (ha : PA Y (e :: es) (gA Y.K An gas)) (hg : Gl Y x := by rfl) (hdb : (x == ("__debug__" : Str)) = false := by decide)
    (he : starEach (e :: es) Y.env = (false, eval e Y.env) :: starEach es Y.env := by rfl) (hpl : (backTo pos (starEach es Y.env)).any (·.1) = false := by rfl) :
    PE Y (.Call (.Name x p) (e :: es) [] pos) (gE Y.K An (gCall (S a dd) gas)) := by
  obtain ⟨f, fd, ps, F, len, hm, kp, b⟩ := c
  refine ⟨fun pins s σ H Q I h => ?_⟩
  refine wpAny_Call_Name_kw (ld_glob I hg hm ?_ hdb)
  refine PySem.W.callWith_K (h₀ := Y.base) I.ok.mod.kin kp (thn (ha.run pos pins s σ H _ I (call_of (E := E0) σ H Q h)) fun us s1 ⟨vs, H1, I1, r, q⟩ => ⟨I1.kIn, ?_⟩) he hpl
  have hl : us.length = ps.length := by
    obtain ⟨ds, h, Pp, re, dv, hs, _⟩ := q
    rw [← r.length, dv.length]
    exact len _ _ _ _ _ hs
  have bb := b s1 us I1.kIn (by rw [List.append_nil]; exact hl)
  rw [List.append_nil] at bb
  have P1 := I1.pin (a, oe) (List.mem_append_left _ hp)
  have hpin : L2H.PinOk Y.stack H1 s1 (a, oe) := ⟨P1.1, P1.2.1, fun hm => (List.mem_cons.mp (I1.stkSub a hm)).elim P1.2.2.1 P1.2.2.2.1, P1.2.2.2.2⟩
  refine wpAny_call (codeAny_mono (F Y.A Y.stack s1 H1 ⟨us, []⟩ us vs Q E0 (a, oe) hr hpin I1.env0 bb r ⟨C, dd, hz, hf, xo, q⟩) fun r s' hq => ?_)
  cases r with
  | error e => exact (show False from hq).elim
  | ok fl =>
    cases fl with
    | ret u => exact I1.after hq
    | next => exact False.elim hq
    | brk => exact False.elim hq
    | cont => exact False.elim hq
end
/-! ### _law_try -/
/-- the word of an exception, and its field -/
abbrev lk (fs : List (Str × D)) (n : Str) : Option D := fs.lookup n
def wordOf (fs : List (Str × D)) : Option Str := match lk fs "word" with
  | some (.str w) => some w
  | _ => none
def inL (l : List Str) (w : Str) : Bool := decide (w ∈ l)
def fieldOf (fs : List (Str × D)) : Option D := match wordOf fs with
  | none => none
  | some w => if inL ["unknownplayer", "brokenrule"] w = true then lk fs "player" else
    if inL ["unknownpiece", "duplicatepiece", "invalidname", "unknownname", "inuse", "cycle", "unfit"] w = true then lk fs "name" else
    if inL ["invalidstatement", "parseerror"] w = true then lk fs "place" else
    if inL ["toolarge", "invalidcommand"] w = true then (if w = "toolarge" then lk fs "limit" else lk fs "index") else
    if w = "invaliddocument" then lk fs "row" else some .non
def S_law_field : FSpec := fun a dd ds h P => ds = [.ref a] ∧ ∃ fs d, h dd = some (.xd fs) ∧ fieldOf fs = some d ∧ P d h
theorem len_law_field (a dd : Addr) (ds : List D) (h : GH) (P : GP) (hs : S_law_field a dd ds h P) : ds.length = 1 := by rw [hs.1]; rfl
def g_law_field (a dd : Addr) : gTS := (sSeq (sIf (gB (gBin (RIn false) (gXf a dd "word" (gVar 0)) (gTup (aCons (gC (.str "unknownplayer")) (aCons (gC (.str "brokenrule")) aNil)))))
  (sRet (gXf a dd "player" (gVar 0)))
  sNext)
 (sSeq (sIf (gB (gBin (RIn false) (gXf a dd "word" (gVar 0)) (gTup (aCons (gC (.str "unknownpiece")) (aCons (gC (.str "duplicatepiece")) (aCons (gC (.str "invalidname")) (aCons (gC (.str "unknownname")) (aCons (gC (.str "inuse")) (aCons (gC (.str "cycle")) (aCons (gC (.str "unfit")) aNil))))))))))
  (sRet (gXf a dd "name" (gVar 0)))
  sNext)
 (sSeq (sIf (gB (gBin (RIn false) (gXf a dd "word" (gVar 0)) (gTup (aCons (gC (.str "invalidstatement")) (aCons (gC (.str "parseerror")) aNil)))))
  (sRet (gXf a dd "place" (gVar 0)))
  sNext)
 (sSeq (sIf (gB (gBin (RIn false) (gXf a dd "word" (gVar 0)) (gTup (aCons (gC (.str "toolarge")) (aCons (gC (.str "invalidcommand")) aNil)))))
  (sRet (gIf (gB (gBin (REq false) (gXf a dd "word" (gVar 0)) (gC (.str "toolarge")))) (gXf a dd "limit" (gVar 0)) (gXf a dd "index" (gVar 0))))
  sNext)
 (sRet (gIf (gB (gBin (REq false) (gXf a dd "word" (gVar 0)) (gC (.str "invaliddocument")))) (gXf a dd "row" (gVar 0)) (gC .non)))))))
theorem inV_strL (x : Str) (l : List Str) : inV (.str x) (l.map V.str) = inL l x := by
  unfold inV inL
  rw [List.any_map]
  by_cases hm : x ∈ l
  · rw [decide_eq_true hm, List.any_eq_true]
    exact ⟨x, hm, decide_eq_true rfl⟩
  · rw [decide_eq_false hm, List.any_eq_false]
    intro y hy hq
    refine hm ?_
    have : y = x := of_decide_eq_true hq
    rw [← this]
    exact hy
theorem atomsOf : ∀ l : List Str, atomVs (l.map D.str) = some (l.map V.str)
  | [] => rfl
  | x :: r => by
    show (atomV (D.str x)).bind _ = _
    rw [atomsOf r]
    rfl
theorem inS {h : GH} {x : Str} (l : List Str) : RIn false h (.str x) (.tup (l.map .str)) (.bl (inL l x)) := ⟨.str x, l.map V.str, rfl, atomsOf l, by rw [inV_strL]; rfl⟩
theorem ite2' {c : Prop} [Decidable c] {a b : Prop} (ha : c → a) (hb : ¬ c → b) : if c then a else b := by
  by_cases h : c
  · rw [if_pos h]; exact ha h
  · rw [if_neg h]; exact hb h
theorem pure_law_field (a dd : Addr) (ds : List D) (h : GH) (P : GP) (hs : S_law_field a dd ds h P) : g_law_field a dd { nx := fun _ h' => P .non h', rt := P } (startG ["_law_e"] ds) h := by
  obtain ⟨rfl, fs, d, hx, hd, hp⟩ := hs
  unfold fieldOf at hd
  cases ew : wordOf fs with
  | none => rw [ew] at hd; cases hd
  | some w =>
    rw [ew] at hd
    have hw : lk fs "word" = some (.str w) := by
      unfold wordOf at ew
      split at ew
      · rename_i x e; cases ew; exact e
      · cases ew
    dsimp only at hd
    refine ⟨_, rfl, rfl, fs, _, hx, hw, (by show 2 ≤ sizeLine; decide), _, inS ["unknownplayer", "brokenrule"], _, rfl, ?_⟩
    refine ite2' (fun c => ?_) (fun c => ?_)
    · rw [if_pos c] at hd
      exact ⟨_, rfl, rfl, fs, d, hx, hd, .inl hp⟩
    rw [if_neg c] at hd
    refine ⟨_, rfl, rfl, fs, _, hx, hw, (by show 7 ≤ sizeLine; decide), _, inS ["unknownpiece", "duplicatepiece", "invalidname", "unknownname", "inuse", "cycle", "unfit"], _, rfl, ?_⟩
    refine ite2' (fun c => ?_) (fun c => ?_)
    · rw [if_pos c] at hd
      exact ⟨_, rfl, rfl, fs, d, hx, hd, .inl hp⟩
    rw [if_neg c] at hd
    refine ⟨_, rfl, rfl, fs, _, hx, hw, (by show 2 ≤ sizeLine; decide), _, inS ["invalidstatement", "parseerror"], _, rfl, ?_⟩
    refine ite2' (fun c => ?_) (fun c => ?_)
    · rw [if_pos c] at hd
      exact ⟨_, rfl, rfl, fs, d, hx, hd, .inl hp⟩
    rw [if_neg c] at hd
    refine ⟨_, rfl, rfl, fs, _, hx, hw, (by show 2 ≤ sizeLine; decide), _, inS ["toolarge", "invalidcommand"], _, rfl, ?_⟩
    refine ite2' (fun c => ?_) (fun c => ?_)
    · rw [if_pos c] at hd
      refine ⟨_, rfl, rfl, fs, _, hx, hw, _, rfl, _, rfl, ?_⟩
      refine ite2' (fun c2 => ?_) (fun c2 => ?_)
      · rw [if_pos (of_decide_eq_true c2)] at hd
        exact ⟨_, rfl, rfl, fs, d, hx, hd, .inl hp⟩
      · rw [if_neg (fun z => c2 (decide_eq_true z))] at hd
        exact ⟨_, rfl, rfl, fs, d, hx, hd, .inl hp⟩
    rw [if_neg c] at hd
    refine ⟨_, rfl, rfl, fs, _, hx, hw, _, rfl, _, rfl, ?_⟩
    refine ite2' (fun c2 => ?_) (fun c2 => ?_)
    · rw [if_pos (of_decide_eq_true c2)] at hd
      exact ⟨_, rfl, rfl, fs, d, hx, hd, .inl hp⟩
    · rw [if_neg (fun z => c2 (decide_eq_true z))] at hd
      cases hd
      exact .inl hp
section
variable {X : Cx} {An : AN} {a b : Expr} {ga gb : gTE} {pos : Pos}
theorem t_eqU (hu : X.A.units + 64 < cLine) (ha : PE X a (gE X.K An ga)) (hb : PE X b (gE X.K An gb)) : PT X (.Compare a [.Eq] [b] pos) (gT X.K An (gB (gBin (REq false) ga gb))) := t_cmp (op_eq.or (op_eqD hu)) lEq ha hb (nomark _)
end
end Gh

set_option maxHeartbeats 4000000
/-! X6: _law_try(lambda: e) -/
namespace Gh
open PySem PySem.Spec PyProof.Rows L2
/-- a lambda's body that may raise -/
def gEX (K : Fg) (g : GX → gTE) (E : XK) : TE := fun σ H Q => ∃ s h P px, Rel K h H ∧ Sl K AN.top h H σ s ∧ g px s h P ∧ (∀ v H' d h', Step h H h' H' → Rel K h' H' → Dv K h' H' v d → P d h' → Q v H') ∧ ∀ cls d H', exK K h H px cls d H' → E cls d H'
/-- what is known of the classes that may come -/
def Caught (K : Fg) (c1 c2 : Value) (C : Str) : Prop := XOk K (He.ga K C) ∧ PySem.W.exmAny K (.ref (He.ga K C)) [c1, c2] = some true
/-- what _law_try makes of the lambda's reading -/
def TTry (K : Fg) (c1 c2 : Value) : (XK → Hp → VK → Prop) → Hp → VK → Prop := fun tl H Q => ∃ E : XK, tl E H (fun v H' => [V.str "", v].length ≤ sizeLine ∧ ∀ p, H' p = none → Q (.ref p) (upd H' p (.tup [.str "", v]))) ∧
  ∀ cls d H', E cls d H' → ∃ (h' : GH) (C : Str) (fs : List (Str × D)) (dd : Addr) (wd : Str) (fv : D), cls = .ref (He.ga K C) ∧ d = some dd ∧ Rel K h' H' ∧ h' dd = some (.xd fs) ∧ Caught K c1 c2 C ∧ wordOf fs = some wd ∧ fieldOf fs = some fv ∧
    ∀ v H2, Step h' H' h' H2 → Rel K h' H2 → Dv K h' H2 v (.tup [.str wd, fv]) → Q v H2
/-- the body of _law_try -/
def tryBody (a e : Str) (j kt k1 k2 : Nat) (p1 p2 p3 p4 p5 p6 p7 p8 p9 p10 p11 p12 p13 p14 p15 p16 p17 : Pos) : List Stmt :=
  [.Try [.Return (some (.Tuple [.Constant (.str "") j p1, .Call (.Name a p2) [] [] p3] k1 p4)) p5]
    [.ExceptHandler (some (.Tuple [.Name "GrainError" p6, .Name "MissingError" p7] kt p8)) (some e) [.Return (some (.Tuple [.Attribute (.Name e p9) "word" p10, .Call (.Name "_law_field" p11) [.Name e p12] [] p13] k2 p14)) p15] p16] [] [] p17]
theorem word_look {fs : List (Str × D)} {w : Str} (h : wordOf fs = some w) : lk fs "word" = some (.str w) := by
  unfold wordOf at h
  split at h
  · rename_i x e; cases h; exact e
  · cases h
theorem try_gives {X : Cx} {x a e q : Str} {sg : Scope} {g : Addr} {cdg c1 c2 : Value} {k j kt k1 k2 : Nat} {p1 p2 p3 p4 p5 p6 p7 p8 p9 p10 p11 p12 p13 p14 p15 p16 p17 : Pos} (hr : Room (k + 1) X.A) (cF : FcF X.prog X.w X.K X.mg X.base k "_law_field" S_law_field)
    (hle : sg.names.lookup e = some .local) (hae : [a, e].Nodup) (he1 : (e == ("__debug__" : Str)) = false) (he2 : (e == ("__classdict__" : Str)) = false) (hg1 : X.mg "GrainError" = some c1) (hg2 : X.mg "MissingError" = some c2) (gl1 : sg.names.lookup ("GrainError" : Str) = some .globalImplicit) (gl2 : sg.names.lookup ("MissingError" : Str) = some .globalImplicit) (glf : sg.names.lookup ("_law_field" : Str) = some .globalImplicit) :
    LamX.GivesTo X [a, e] x sg g cdg (tryBody a e j kt k1 k2 p1 p2 p3 p4 p5 p6 p7 p8 p9 p10 p11 p12 p13 p14 p15 p16 p17) a q (TTry X.K c1 c2) := by
  intro f c' s H Q tl act hc h
  obtain ⟨E, ht, hE⟩ := h
  have hrm : L2H.RoomH k ((cxOf C8.CX0 X.prog X.w X.K X.mg X.base [a, e] x sg g cdg X.A X.stack s H C8.E0).A) := L2H.roomH_of (hr.deeper _)
  refine ⟨_, pss_one (ps_try_as2 (X := (cxOf C8.CX0 X.prog X.w X.K X.mg X.base [a, e] x sg g cdg X.A X.stack s H C8.E0).nox) (i := 1) (n := e) (c1 := c1) (c2 := c2) (Wout := fun _ _ _ _ => False)
    (tb := fun W D σ H => ∃ Ech : XK, (∀ cls d σ' H', Ech cls d H' → W cls d σ' H') ∧ σ[0]? = some (some (.ref f)) ∧ H c' = some (LamX.CodeO c' q) ∧ tl Ech H (fun v H1 => [V.str "", v].length ≤ sizeLine ∧ ∀ p, H1 p = none → D.rt (.ref p) (upd H1 p (.tup [.str "", v]))))
    (ts := fun a' cls d D σ H => σ.length = 2 → ∃ C dd, cls = .ref C ∧ d = some dd ∧ XOk X.K C ∧ gS X.K AN.top (sRet (gTup (aCons (gXf a' dd "word" (gVar 1)) (aCons (gCall (S_law_field a' dd) (aCons (gVar 1) aNil)) aNil)))) D σ H)
    rfl rfl hae rfl hle ⟨gl1, by decide, .inl hg1⟩ ⟨gl2, by decide, .inl hg2⟩ L2.takes0 (fun W pn xe tk _ => ?_) (fun a' oe cls d pn hz hf => ?_)), ?_⟩
  · refine ⟨fun pins s' σ H' D I ⟨Ech, hW, h1, h2, h3⟩ => ?_⟩
    have hp := act W pn xe Ech p2 p3 tk hW
    have hq := pss_one (ps_ret (pos := p5) (pe_tup (x1 := k1) (pos := p4) (pa_cons (pe_str (j := j) (pos := p1) (x := "")) (pa_cons hp pa_nil))))
    exact hq.run pins s' σ H' D I ⟨h1, h2, h3⟩
  · refine ⟨fun pins s1 σ H1 D I hts => ?_⟩
    obtain ⟨C, dd, e1, e2, xo, qq⟩ := hts I.len
    subst e1 e2
    have hv := fun pp : Pos => e_var (pos := pp) (X := ((cxOf C8.CX0 X.prog X.w X.K X.mg X.base [a, e] x sg g cdg X.A X.stack s H C8.E0).nox).suite a' ((a', oe) :: pn)) (An := AN.top) 1 (x := e) rfl (Or.inl hle) he1 he2
    have hm : (a', oe) ∈ ((((cxOf C8.CX0 X.prog X.w X.K X.mg X.base [a, e] x sg g cdg X.A X.stack s H C8.E0).nox).suite a' ((a', oe) :: pn))).pn := List.mem_cons_self
    have d1 := e_xf (Y := (((cxOf C8.CX0 X.prog X.w X.K X.mg X.base [a, e] x sg g cdg X.A X.stack s H C8.E0).nox).suite a' ((a', oe) :: pn))) (An := AN.top) (pos := p10) (C := C) (dd := dd) (n := "word") xo hz hf hm (hv p9)
    have d2 := e_callF (Y := (((cxOf C8.CX0 X.prog X.w X.K X.mg X.base [a, e] x sg g cdg X.A X.stack s H C8.E0).nox).suite a' ((a', oe) :: pn))) (An := AN.top) (pos := p13) (p := p11) (x := "_law_field") cF ⟨hrm.dp, hrm.un⟩ xo hz hf hm (a_cons (hv p12) a_nil) glf (by decide)
    exact (b_one (s_ret (pos := p15) (e_tup (x1 := k2) (pos := p14) (a_cons d1 (a_cons d2 a_nil))))).run pins s1 σ H1 D I qq
  · refine ⟨E, fun cls d σ' H' he => ?_, rfl, hc, ht⟩
    obtain ⟨h', C, fs, dd, wd, fv, ec, ed, re, hx, ⟨xo, hm⟩, hw, hf, kk⟩ := hE cls d H' he
    subst ec ed
    refine ⟨true, hm, fun _ a' na hl => ?_, fun z => by cases z⟩
    refine ⟨_, dd, rfl, rfl, xo, [none, some (.ref a')], h', { nx := fun _ _ => False, rt := fun d h'' => d = .tup [.str wd, fv] ∧ h'' = h' }, re, ?_, ?_, ?_⟩
    · rw [List.length_set] at hl
      match σ', hl with
      | [u, v], _ =>
        refine ⟨rfl, fun i d hi => ?_, trivial⟩
        match i, hi with
        | 1, hi =>
          have hi' : (some (some (D.ref a')) : Option (Option D)) = some (some d) := hi
          cases hi'
          exact ⟨_, rfl, .ref a'⟩
    · exact ⟨_, rfl, rfl, fs, _, hx, word_look hw, _, rfl, rfl, fs, fv, hx, hf, by show 2 ≤ sizeLine; decide, .inl ⟨rfl, rfl⟩⟩
    · refine ⟨fun _ _ _ _ _ _ _ z => z.elim, fun v H2 d h2 st re2 dv ⟨e1, e2⟩ => ?_, fun _ _ _ _ _ _ _ z => z.elim, fun _ _ _ _ _ _ _ z => z.elim⟩
      subst e1 e2
      exact kk v H2 st re2 dv
end Gh

set_option maxHeartbeats 4000000
/-! X7: _law_try(lambda: e), the rule -/
namespace Gh
open PySem PySem.Spec PyProof.Rows L2
def gTry (Tb : List (Addr × Str)) (Cs : List Str) (ge : GX → gTE) : gTE := fun s h P => (∀ a q, h a = some (.tab q) ↔ (a, q) ∈ Tb) ∧
  ge (fun C fs h' => C ∈ Cs ∧ ∃ wd fv, wordOf fs = some wd ∧ fieldOf fs = some fv ∧ P (.tup [.str wd, fv]) h') s h (fun d h1 => P (.tup [.str "", d]) h1)
theorem GOk.nt {K : Fg} {h : GH} {H : Hp} {a : Addr} {g : GO} (k : GOk K h H a g) (hg : ∀ q, g ≠ .tab q) {o : HO} (e : H a = some o) : NT o := by
  cases g with
  | lst ds => obtain ⟨xs, q, r⟩ := k; rw [q] at e; cases e; intro _ z; cases z
  | bag => obtain ⟨l, ns, i, g, sa, c, q, _⟩ := k; rw [q] at e; cases e; intro _ z; cases z
  | ins C fs => obtain ⟨dx, vs, q, r⟩ := k; rw [q] at e; cases e; intro _ z; cases z
  | dct kvs => obtain ⟨vs, q, r⟩ := k; rw [q] at e; cases e; intro _ z; cases z
  | xd fs => obtain ⟨vs, q, r⟩ := k; rw [q] at e; cases e; intro _ z; cases z
  | tab q => exact absurd rfl (hg q)
theorem GOk.ne_code {K : Fg} {h : GH} {H : Hp} {a c : Addr} {g : GO} {q : Str} (k : GOk K h H a g) : H a ≠ some (LamX.CodeO c q) := by
  intro e
  have e' : H a = some (HO.ext _) := e
  cases g with
  | lst ds => obtain ⟨xs, q, r⟩ := k; rw [q] at e'; cases e'
  | bag => obtain ⟨l, ns, i, g, sa, c, q, _⟩ := k; rw [q] at e'; cases e'
  | ins C fs => obtain ⟨dx, vs, q, r⟩ := k; rw [q] at e'; cases e'
  | dct kvs => obtain ⟨vs, q, r⟩ := k; rw [q] at e'; cases e'
  | xd fs => obtain ⟨vs, q, r⟩ := k; rw [q] at e'; cases e'
  | tab q => obtain ⟨ps, q1, _⟩ := k; rw [q1] at e'; cases e'
theorem rel_tabs {K : Fg} {h : GH} {H H1 : Hp} {Tb : List (Addr × Str)} (re : Rel K h H) (hT : ∀ a q, h a = some (.tab q) ↔ (a, q) ∈ Tb) (eN : LamX.ExtN H H1) (T1 : LamX.Tabs Tb H1) : Step h H h H1 ∧ Rel K h H1 := by
  have st : Step h H h H1 := ⟨fun a o _ nt e => eN a o e nt, fun a e => .inl e⟩
  refine ⟨st, fun a g e => ?_⟩
  by_cases hg : ∃ q, g = .tab q
  · obtain ⟨q, rfl⟩ := hg
    obtain ⟨ps, h1, h2, h3⟩ := T1 (a, q) ((hT a q).mp e)
    refine ⟨ps, h1, h2, fun pos cv hc => ?_⟩
    obtain ⟨c, e1, e2⟩ := h3 pos cv hc
    refine ⟨c, e1, ?_, e2⟩
    cases z : h c with
    | none => rfl
    | some g' =>
      exfalso
      by_cases hg' : ∃ q', g' = .tab q'
      · obtain ⟨q', rfl⟩ := hg'
        obtain ⟨ps', h1', _⟩ := T1 (c, q') ((hT c q').mp z)
        have h4 : H1 c = some (HO.tbl ps') := h1'
        rw [h4] at e2
        have e3 : (some (HO.tbl ps') : Option HO) = some (HO.ext _) := e2
        cases e3
      · have k2 := (re c g' z).mono st fun o q => eN c o q ((re c g' z).nt (fun q w => hg' ⟨q, w⟩) q)
        exact k2.ne_code e2
  · exact (re a g e).mono st fun o q => eN a o q ((re a g e).nt (fun q w => hg ⟨q, w⟩) q)
theorem try_of {K : Fg} {An : AN} {c1 c2 : Value} {Tb : List (Addr × Str)} {Cs : List Str} {ge : GX → gTE} (hC : ∀ C ∈ Cs, Caught K c1 c2 C) (σ : L2.St) (H : Hp) (Q : VK) (q : gE K An (gTry Tb Cs ge) σ H Q) : LamX.tLam Tb (TTry K c1 c2) (gEX K ge) σ H Q := by
  obtain ⟨s, h, P, re, l, ⟨hT, g⟩, k⟩ := q
  refine ⟨fun p hp => ?_, fun H1 eN T1 => ?_⟩
  · obtain ⟨ps, h1, h2, h3⟩ := re p.1 (.tab p.2) ((hT p.1 p.2).mpr hp)
    exact ⟨ps, h1, h2, fun pos cv hc => let ⟨c, e1, _, e2⟩ := h3 pos cv hc; ⟨c, e1, e2⟩⟩
  obtain ⟨st, re1⟩ := rel_tabs re hT eN T1
  have l1 := l.mono st
  refine ⟨exK K h H1 (fun C fs h' => C ∈ Cs ∧ ∃ wd fv, wordOf fs = some wd ∧ fieldOf fs = some fv ∧ P (.tup [.str wd, fv]) h'), ⟨s, h, _, _, re1, ⟨l1.1, l1.2, trivial⟩, g, fun v H' d h' st2 re2 dv p => ⟨by show 2 ≤ sizeLine; decide, fun t n => ?_⟩, fun _ _ _ z => z⟩, fun cls d H' he => ?_⟩
  · have dvs : Dvs K h' H' [.str "", v] [.str "", d] := .cons (.str _) (.cons dv .nil)
    exact k _ _ _ h' ((st.trans st2).trans (Step.new n)) (re2.new n) (dvs.tup_new re2 n) p
  · obtain ⟨h', C, fs, dd, e1, e2, st2, re2, e3, hCs, wd, fv, hw, hf, hp⟩ := he
    refine ⟨h', C, fs, dd, wd, fv, e1, e2, re2, e3, hC C hCs, hw, hf, fun v H2 st3 re3 dv => ?_⟩
    exact k v H2 _ (del h' dd) (((st.trans st2).trans st3).trans Step.del) re3.del (dv.mono Step.del) hp
/-- what is known of _law_try and _law_field -/
structure TryF (P : Program) (w : World) (K : Fg) (mg : Str → Option Value) (base : Heap) (k : Nat) (Cs : List Str) : Prop where
  ex : ∃ (st : Stmt) (f : Addr) (fd : FuncData) (j kt k1 k2 : Nat) (p1 p2 p3 p4 p5 p6 p7 p8 p9 p10 p11 p12 p13 p14 p15 p16 p17 : Pos) (c1 c2 : Value), Fun K "_law_try" "_law_try" st f fd ∧ mg "_law_try" = some (.ref f) ∧ Binds K fd ["_law_ask"] [] ∧ FnScope ["_law_ask", "_law_e"] ["_law_ask"] (defScope st) ∧
    defBody st = tryBody "_law_ask" "_law_e" j kt k1 k2 p1 p2 p3 p4 p5 p6 p7 p8 p9 p10 p11 p12 p13 p14 p15 p16 p17 ∧
    (defScope st).names.lookup ("_law_ask" : Str) = some .local ∧ (defScope st).names.lookup ("_law_e" : Str) = some .local ∧ (defScope st).names.lookup ("GrainError" : Str) = some .globalImplicit ∧ (defScope st).names.lookup ("MissingError" : Str) = some .globalImplicit ∧ (defScope st).names.lookup ("_law_field" : Str) = some .globalImplicit ∧
    mg "GrainError" = some c1 ∧ mg "MissingError" = some c2 ∧ ∀ C ∈ Cs, Caught K c1 c2 C
  fld : FcF P w K mg base k "_law_field" S_law_field
theorem e_try {X : Cx} {An : AN} {k j : Nat} {Cs : List Str} {c Pt : Addr} {params : Arguments} {body : Expr} {scope : Scope} {ge : GX → gTE} {p lpos pos : Pos} {Tb : List (Addr × Str)} (T : TryF X.prog X.w X.K X.mg X.base k Cs) (hr : Room j X.A) (hk : k + 2 ≤ j) (TB : LamX.TabB X.base X.mg c Pt) (hcode : X.env.code = .ref c)
    (hmT : (Pt, X.env.qual ++ "<lambda>") ∈ Tb) (hu : ∀ p ∈ Tb, p.1 = Pt → p.2 = X.env.qual ++ "<lambda>")
    (hbody : ∀ (A : Around) (outer : List Env) (s : Shared) (H : Hp) (E : XK) (f c' : Addr) (h0 : GH) (H0 : Hp) (px : GX), Takes (LamX.lamCx X A outer s H E scope f c') (exW X.K h0 H0 px) → Room k (A.deeper (LamX.lamEnv X scope s.heap.objs.size f c')) → PE (LamX.lamCx X A outer s H E scope f c') body (gE X.K (AN.step h0 H0) (ge px)))
    (hg : Gl X "_law_try" := by rfl) (L : LamX.LamS X.env.scope scope := by exact LamX.lamS_by (by decide +kernel)) (hdef : defaultsOf params X.env = ([], []) := by rfl)
    (hbind : ∀ (q : Str) (cl : List (Str × Addr)) (pm cv ctv : Value), bindArgs (PySem.W.kla_fn "<lambda>" q params body scope cl pm cv ctv) ⟨[], []⟩ = pure [] := by intros; rfl) :
    PE X (.Call (.Name "_law_try" p) [.Lambda params body scope lpos] [] pos) (gE X.K An (gTry Tb Cs ge)) := by
  obtain ⟨st, f, fd, j', kt, k1, k2, p1, p2, p3, p4, p5, p6, p7, p8, p9, p10, p11, p12, p13, p14, p15, p16, p17, c1, c2, F, hm, hb, sc, hbd, n1, n2, n3, n4, n5, m1, m2, hC⟩ := T.ex
  obtain ⟨oc, od, kV, doc, pm, an, cdv, ct, osl, e, lk, hcd⟩ := F.ex
  subst e
  have hr2 : Room (k + 2) X.A := hr.mono hk
  have hG : LamX.GivesTo X ["_law_ask", "_law_e"] "_law_try" (defScope st) f cdv (defBody st) "_law_ask" (X.env.qual ++ "<lambda>") (TTry X.K c1 c2) := by
    rw [hbd]
    exact try_gives (hr2.mono (Nat.le_succ _)) T.fld n2 (by decide +kernel) (by decide) (by decide) m1 m2 n3 n4 n5
  refine (LamX.pe_lamcall (T := Tb) (TT := TTry X.K c1 c2) (t := gEX X.K ge) (k := k) hg hm F.kp lk hcd hb sc rfl (.inl n1) hG TB hcode hmT hu hr2 L hdef hbind (fun A outer s H E f' c' hr' => ?_) (by decide) (by decide) (by decide)).imp (try_of hC)
  refine ⟨fun pins s' σ H' Q I ⟨sl, h, P, px, re, l, g, kk, kx⟩ => ?_⟩
  have tk : Takes (LamX.lamCx X A outer s H E scope f' c') (exW X.K h H' px) := (takes_of (X := LamX.lamCx X A outer s H E scope f' c') (E := E) rfl rfl rfl rfl).imp fun cls d σ H' z => kx cls d H' z
  exact (hbody A outer s H E f' c' h H' px tk hr').run pins s' σ H' Q I ⟨sl, h, P, re, ⟨l.1, l.2, Step.refl h H'⟩, g, kk⟩
end Gh

/-! H1: the head's facts, with the tables of the defs that make lambdas -/
namespace Gh
open PySem PySem.Spec PyProof.Rows L2
/-- the code of the module's def x -/
def codeOf (K : PySem.W.Frag) (x : Str) : Option Addr := match K.lookup (He.ga K x) with
  | some ⟨_, _, .func fd, _⟩ => (match fd.code with
    | .ref c => some c
    | _ => none)
  | _ => none
def hdB (o : Obj) : Option Addr := match o.cls with
  | .type t => (match o.data with
    | .fields vs => (match (vs[11]? : Option Value) with
      | some (Value.ref P) => (match vs.getD 18 .none with
        | .str _ _ => (match vs.getD 7 .none with
          | .int _ _ => (match vs.getD 9 .none with
            | .bool _ => (match vs.getD 10 .none with
              | .int _ _ => if t = "code" then some P else none
              | _ => none)
            | _ => none)
          | _ => none)
        | _ => none)
      | _ => none)
    | _ => none)
  | _ => none
def emptyTab (o : Obj) : Bool := match o with
  | ⟨.none, none, .fields ps, sl⟩ => ps.toList.isEmpty && sl.toList.isEmpty
  | _ => false
def tabB (g : Addr → Option Obj) (K : PySem.W.Frag) (x : Str) : Bool := match codeOf K x with
  | some c => (match g c with
    | some o => (match hdB o with
      | some P => !(c == P) && ((match g P with
        | some t => emptyTab t
        | none => false) && (match K.lookup P with
        | some _ => false
        | none => true))
      | none => false)
    | none => false)
  | none => false
def TabOk (h : Heap) (K : PySem.W.Frag) (x : Str) : Prop := ∃ c P, codeOf K x = some c ∧ PySem.W.CodeHd h c P ∧ h.get? P = some { cls := .none, data := .fields #[] } ∧ K.lookup P = none
theorem tabB_ok {h : Heap} {K : PySem.W.Frag} {x : Str} (e : tabB h.get? K x = true) : TabOk h K x := by
  unfold tabB at e
  split at e
  · rename_i c hc
    split at e
    · rename_i o ho
      split at e
      · rename_i P hP
        obtain ⟨e1, e2⟩ := Bool.and_eq_true_iff.mp e
        obtain ⟨e3, e4⟩ := Bool.and_eq_true_iff.mp e2
        refine ⟨c, P, hc, ?_, ?_, ?_⟩
        · unfold hdB at hP
          split at hP
          · rename_i t h1
            split at hP
            · rename_i vs h2
              split at hP
              · rename_i P' q2
                split at hP
                · rename_i a1 b1 q3
                  split at hP
                  · rename_i a2 b2 q4
                    split at hP
                    · rename_i a3 q5
                      split at hP
                      · rename_i a4 b4 q6
                        split at hP
                        · rename_i q1
                          cases hP
                          refine ⟨o, vs, _, _, _, _, _, _, _, ho, ?_, h2, q2, ?_, q3, q4, q5, q6, ?_⟩
                          · rw [h1, q1]
                          · rw [Array.getD_eq_getD_getElem?, q2]; rfl
                          · intro z; rw [z] at e1; simp at e1
                        · cases hP
                      · cases hP
                    · cases hP
                  · cases hP
                · cases hP
              · cases hP
            · cases hP
          · cases hP
        · split at e3
          · rename_i t ht
            unfold emptyTab at e3
            split at e3
            · rename_i ps sl
              obtain ⟨z1, z2⟩ := Bool.and_eq_true_iff.mp e3
              have y1 : ps = #[] := by
                have := List.isEmpty_iff.mp z1
                exact Array.toList_eq_nil_iff.mp this
              have y2 : sl = #[] := by
                have := List.isEmpty_iff.mp z2
                exact Array.toList_eq_nil_iff.mp this
              rw [ht, y1, y2]
            · cases e3
          · cases e3
        · split at e4
          · cases e4
          · assumption
      · cases e
    · cases e
  · cases e
theorem TabOk.keeps {h h' : Heap} {K : PySem.W.Frag} {x : Str} (t : TabOk h K x) (k : ∀ b o, h.get? b = some o → h'.get? b = some o) : TabOk h' K x := by
  obtain ⟨c, P, hc, ⟨o, vs, a1, a2, a3, a4, a5, a6, a7, ho, r⟩, hP, n⟩ := t
  exact ⟨c, P, hc, ⟨o, vs, a1, a2, a3, a4, a5, a6, a7, k _ _ ho, r⟩, k _ _ hP, n⟩
abbrev AlQ : Type := Bool × List He.FnV × List He.FnW
structure Plan where
  fa : List (PySem.W.Frag → Bool)
  fn : List He.FnD
  dn : List He.DefD
  tb : List Str
def Plan.obs (p : Plan) (g : Addr → Option Obj) (K : PySem.W.Frag) : AlQ := ((p.fa.all fun f => f K) && ((p.fn.all fun d => (He.Fa.code d.at_ d.qual).ok K && PySem.W.keepIn K (.ref (He.fAd K d.at_))) && ((p.dn.all fun d => d.ok K) && p.tb.all fun x => tabB g K x)), p.fn.map fun d => He.fnObs K d.at_, p.dn.map fun d => He.fnW K d.at_)
def Plan.val (p : Plan) : AlQ := (true, p.fn.map He.FnD.val, p.dn.map He.DefD.val)
def Plan.obsG (p : Plan) (g : Addr → Option Obj) : AlQ := p.obs g (He.frG g (asP g))
structure Plan.Says (p : Plan) (h : Heap) (K : PySem.W.Frag) : Prop where
  fact : ∀ f ∈ p.fa, f K = true
  fn : ∀ d ∈ p.fn, (∃ oc od osl kV doc pm an cdv ct, K.lookup (He.fAd K d.at_) = some ⟨oc, od, .func (PySem.W.fnOf d.name d.qual d.params d.body d.scope .none kV doc pm an cdv ct), osl⟩ ∧ PySem.W.codeIn K cdv d.qual = true) ∧ PySem.W.keepIn K (.ref (He.fAd K d.at_)) = true
  dn : ∀ d ∈ p.dn, ∃ fd, FunD K d.name d.qual d.params d.body d.scope (d.dvs K) (d.kws K) (He.fAd K d.at_) fd
  tb : ∀ x ∈ p.tb, TabOk h K x
theorem map_at {α β : Type} {f g : α → β} : ∀ {l : List α}, l.map f = l.map g → ∀ x ∈ l, f x = g x
  | [], _, x, hx => nomatch hx
  | a :: r, e, x, hx => by
    injection e with e1 e2
    rcases List.mem_cons.mp hx with rfl | hx
    · exact e1
    · exact map_at e2 x hx
theorem Plan.says_of {p : Plan} {h : Heap} {K : PySem.W.Frag} (e : p.obs h.get? K = p.val) : p.Says h K := by
  have e0 : _ = true := congrArg (fun z : AlQ => z.1) e
  have e1 : p.fn.map (fun d => He.fnObs K d.at_) = p.fn.map He.FnD.val := congrArg (fun z : AlQ => z.2.1) e
  have e2 : p.dn.map (fun d => He.fnW K d.at_) = p.dn.map He.DefD.val := congrArg (fun z : AlQ => z.2.2) e
  obtain ⟨b1, b⟩ := He.ba e0
  obtain ⟨b2, b⟩ := He.ba b
  obtain ⟨b3, b4⟩ := He.ba b
  refine ⟨fun f hf => List.all_eq_true.mp b1 f hf, fun d hd => ?_, fun d hd => He.DefD.funD (map_at e2 d hd) (List.all_eq_true.mp b3 d hd), fun x hx => tabB_ok (List.all_eq_true.mp b4 x hx)⟩
  obtain ⟨c1, c2⟩ := He.ba (List.all_eq_true.mp b2 d hd)
  exact ⟨He.fn_ok (map_at e1 d hd) c1, c2⟩
def Plan.hook (p : Plan) : PySem.W.Hook where
  α := AlQ
  obs := fun s => p.obsG s.heap.get?
  val := fun _ => p.val
  says := fun _ h => ∃ K : PySem.W.Frag, K.In h ∧ p.Says h K
  of := fun _ _ e => ⟨_, He.frG_in, Plan.says_of e⟩
  keeps := fun _ _ _ ⟨K, hK, c⟩ k => ⟨K, PySem.W.Frag.In.keeps hK k, ⟨c.fact, c.fn, c.dn, fun x hx => (c.tb x hx).keeps k⟩⟩
theorem Plan.obsG_eq {p : Plan} {g : Addr → Option Obj} {s : Shared} (h : ∀ a, g a = s.heap.get? a) : p.obsG g = p.hook.obs s := by
  have e : g = s.heap.get? := funext h
  rw [e] <;> rfl
end Gh
namespace Gh
open PySem PySem.Spec PyProof.Rows L2
theorem Plan.Says.factAt {p : Plan} {h : Heap} {K : PySem.W.Frag} (c : p.Says h K) (i : Nat) {f : PySem.W.Frag → Bool} (e : p.fa[i]? = some f := by rfl) : f K = true := c.fact f (List.mem_of_getElem? e)
theorem Plan.Says.fnAt {p : Plan} {h : Heap} {K : PySem.W.Frag} (c : p.Says h K) (i : Nat) {d : He.FnD} (e : p.fn[i]? = some d := by rfl) : (∃ oc od osl kV doc pm an cdv ct, K.lookup (He.fAd K d.at_) = some ⟨oc, od, .func (PySem.W.fnOf d.name d.qual d.params d.body d.scope .none kV doc pm an cdv ct), osl⟩ ∧ PySem.W.codeIn K cdv d.qual = true) ∧ PySem.W.keepIn K (.ref (He.fAd K d.at_)) = true := c.fn d (List.mem_of_getElem? e)
theorem Plan.Says.fun_ {p : Plan} {h : Heap} {K : PySem.W.Frag} (c : p.Says h K) (i : Nat) {x : Str} {q : Str} {at_ : Str × Option Str} {st : Stmt} (e : p.fn[i]? = some ⟨at_, x, q, defArgs st, defBody st, defScope st⟩ := by rfl) : ∃ fd, Fun K x q st (He.fAd K at_) fd := by
  obtain ⟨⟨oc, od, osl, kV, doc, pm, an, cdv, ct, l, c1⟩, k⟩ := c.fnAt i e
  exact ⟨_, fun_mk l c1 k⟩
end Gh

set_option maxHeartbeats 4000000
/-! X8: the law that makes lambdas; a def that may raise, where it does not -/
namespace Gh
open PySem PySem.Spec PyProof.Rows L2
section
variable {P : Program} {w : World} {K : Fg} {mg : Str → Option Value} {base : Heap}
/-- a def that may raise, called where it does not -/
def calmS (S : GSpecX) : GSpec := fun ds h P => S ds h P fun _ _ _ => False
theorem FcX.fc {k : Nat} {x : Str} {S : GSpecX} (c : FcX P w K mg base k x S) : Fc P w K mg base k x (calmS S) := by
  obtain ⟨f, F, m, kp⟩ := c
  refine ⟨f, fun A outer s H us vs Q E hr e0 r ⟨ds, h, Pp, re, dv, s0, kk⟩ => ?_, m, kp⟩
  refine codeAny_mono (F A outer s H us vs Q (fun _ _ _ => False) hr e0 r ⟨ds, h, Pp, fun _ _ _ => False, re, dv, s0, kk, fun cls d H' ⟨_, _, _, _, _, _, _, _, _, z⟩ => z⟩) fun r s' q => ?_
  cases r with
  | error e =>
    obtain ⟨_, _, _, _, _, _, _, _, _, _, _, _, z⟩ := q
    exact z.elim
  | ok fl => cases fl <;> exact q
/-! ### the law -/
/-- the first heap: one table -/
def tabH (Pt : Addr) (q : Str) : GH := put (fun _ => none) Pt (.tab q)
def tabs1 (h : GH) (Pt : Addr) (q : Str) : Prop := ∀ a q', h a = some (.tab q') ↔ (a, q') ∈ [(Pt, q)]
theorem tabs1_start {Pt : Addr} {q : Str} : tabs1 (tabH Pt q) Pt q := fun a q' => by
  unfold tabH
  by_cases z : a = Pt
  · subst z
    rw [put_same]
    simp [eq_comm]
  · rw [put_ne z]
    simp [z]
theorem tabs1.put {h : GH} {Pt b : Addr} {q : Str} {o : GO} (t : tabs1 h Pt q) (n : h b = none) (ho : ∀ q', o ≠ .tab q') : tabs1 (put h b o) Pt q := fun a q' => by
  by_cases z : a = b
  · subst z
    rw [put_same]
    constructor
    · intro e; cases e; exact absurd rfl (ho _)
    · intro e; rw [(t a q').mpr e] at n; cases n
  · rw [put_ne z]; exact t a q'
def spLawT (K : Fg) (Pt : Addr) : Sp := fun vs H Q _ => ∃ (a : Addr) (ns : List Int), vs = [.ref a] ∧ SqL K H a (ns.map V.int) ∧ ns.length ≤ 63 ∧ H Pt = some (.tbl #[]) ∧ ∀ H', Q (.bl true) H'
theorem code_at {x : Str} {st : Stmt} {f c : Addr} {fd : FuncData} (F : Fun K x x st f fd) (hf : f = He.ga K x) (hc : codeOf K x = some c) : fd.code = .ref c := by
  obtain ⟨oc, od, kV, doc, pm, an, cdv, ct, osl, e, lk, hcd⟩ := F.ex
  subst hf
  unfold codeOf at hc
  rw [lk] at hc
  simp only at hc
  split at hc
  · rename_i c' e'; cases hc; exact e'
  · cases hc
theorem law_ofT {x : Str} {st : Stmt} {f c Pt : Addr} {q : Str} {fd : FuncData} {N ps : List Str} {k : Nat} {g : gTS} (F : Fun K x x st f fd) (hf : f = He.ga K x) (hc : codeOf K x = some c) (sc : FnScope N ps (defScope st)) (hps : ps.length = 1)
    (hd : ∀ (A : Around) (outer : List Env) (s : Shared) (H : Hp) (E : XK), Room k (A.deeper (PyProof.Rows.envOfC x (defScope st) s.heap.objs.size f (.ref c))) → PSs (cxOf CX0 P w K mg base N x (defScope st) f (.ref c) A outer s H E).nox (defBody st) (gS K AN.top g))
    (hg : ∀ (ns : List Int), ns.length ≤ 63 → g { nx := fun _ _ => False, rt := fun d _ => d = .bl true } (startG N [.fro (ns.map .int)]) (tabH Pt q)) : FnOk P w K mg base CX0 (k + 1) f fd ps (spLawT K Pt) := by
  have hcd := code_at F hf hc
  obtain ⟨oc, od, kV, doc, pm, an, cdv, ct, osl, e, lk, hcq⟩ := F.ex
  subst e
  have hcd' : cdv = .ref c := hcd
  subst hcd'
  refine fn_of lk hcq sc (fun vs H Q E ⟨a, ns, e, _⟩ => by subst e; exact hps.symm) fun A outer s H vs Q E hr ⟨a, ns, e, hS, hl, hP, kk⟩ => ⟨_, (hd A outer s H E hr).nox, ?_⟩
  subst e
  have ne : Rd H a (.lst (ns.map V.int)) → tabH Pt q a = none := fun z => by
    unfold tabH
    rw [put_ne]
    intro y
    subst y
    rcases z with z | ⟨o, z⟩
    · rw [z] at hP; cases hP
    · rw [z] at hP; cases hP
  have re : Rel K (tabH Pt q) H := fun b g e => by
    unfold tabH at e
    by_cases z : b = Pt
    · subst z
      rw [put_same] at e
      cases e
      exact ⟨#[], hP, True.intro, fun pos cv hc => by
        have z : codeAmong pos [] = some cv := hc
        simp [codeAmong] at z⟩
    · rw [put_ne z] at e; cases e
  have dv : Dvs K (tabH Pt q) H [.ref a] [.fro (ns.map .int)] := .cons (.fro (hS.elim (fun z => .inl ⟨ne z, z⟩) .inr) (Dvs.ints ns)) .nil
  exact ⟨startG N [.fro (ns.map .int)], tabH Pt q, _, re, Sl.begin dv trivial, hg ns hl, fun _ _ _ _ _ _ _ z => z.elim, fun v H' d h' st re' dv' p => by subst p; cases dv'; exact kk H', fun _ _ _ _ _ _ _ z => z.elim, fun _ _ _ _ _ _ _ z => z.elim⟩
end
end Gh

set_option maxHeartbeats 4000000
/-! X9: the classes' facts, read off the head -/
namespace Gh
open PySem PySem.Spec PyProof.Rows L2
def oexCls (K : Fg) (C : Addr) : Bool := match K.lookup C with
  | some ⟨.type "type", _, .cls cd, sl⟩ => (match cd.mro, sl.toList with
    | .ref C' :: bm, [_, _, _, _, some (.builtin n), _] => C' == C && n == "ValueError.__new__" && !cd.hasDel && cd.hasDict && PySem.HandSPX.refsVE bm
    | _, _ => false)
  | _ => false
def oexB (K : Fg) (C : Addr) : Bool := oexCls K C && (decide (PySem.W.findIn K (.ref C) "__setattr__" = some (some (.builtin "object.__setattr__"))) && (decide (PySem.W.subIn K (.ref C) (.type "BaseException") = some true) && (decide (PySem.W.typeIn K (.ref C) = some (.type "type")) && PySem.W.keepIn K (.ref C))))
theorem oexB_ok {K : Fg} {C : Addr} (h : oexB K C = true) : OexC K C := by
  obtain ⟨h1, h⟩ := Bool.and_eq_true_iff.mp h
  obtain ⟨h2, h⟩ := Bool.and_eq_true_iff.mp h
  obtain ⟨h3, h⟩ := Bool.and_eq_true_iff.mp h
  obtain ⟨h4, h5⟩ := Bool.and_eq_true_iff.mp h
  refine ⟨?_, of_decide_eq_true h2, of_decide_eq_true h3, of_decide_eq_true h4, h5⟩
  unfold oexCls at h1
  split at h1
  · rename_i dd cd sl ho
    split at h1
    · rename_i C' bm k0 k1 k2 k3 n k5 hm hs
      simp only [Bool.and_eq_true, beq_iff_eq, Bool.not_eq_true'] at h1
      obtain ⟨⟨⟨⟨rfl, rfl⟩, hdel⟩, hdi⟩, ht⟩ := h1
      obtain ⟨nm, bs, mro, ns, qn, hd, sn, sub, ab, col, del⟩ := cd
      dsimp only at hm hdel hdi
      subst hm hdel hdi
      have hsl : sl = #[k0, k1, k2, k3, some (.builtin "ValueError.__new__"), k5] := by
        obtain ⟨l⟩ := sl
        simp only at hs
        rw [hs]
      subst hsl
      exact ⟨nm, qn, ns, bs, bm, sn, sub, ab, col, dd, k0, k1, k2, k3, k5, ho, ht⟩
    · cases h1
  · cases h1
def caughtB (K : Fg) (C : Str) : Bool := xokB K (He.ga K C) && decide (PySem.W.exmAny K (.ref (He.ga K C)) [.ref (He.ga K "GrainError"), .ref (He.ga K "MissingError")] = some true)
theorem caughtB_ok {K : Fg} {C : Str} (h : caughtB K C = true) : Caught K (.ref (He.ga K "GrainError")) (.ref (He.ga K "MissingError")) C := by
  obtain ⟨h1, h2⟩ := Bool.and_eq_true_iff.mp h
  exact ⟨xokB_ok h1, of_decide_eq_true h2⟩
/-- the class's own __init__ -/
def initB (K : Fg) (C : Str) : Bool := decide (PySem.W.findIn K (.ref (He.ga K C)) "__init__" = some (some (.ref (He.fAd K (C, some "__init__"))))) && decide (PySem.W.typeIn K (.ref (He.fAd K (C, some "__init__"))) = some (.type "function"))
theorem XOk.word {K : Fg} {C : Addr} (x : XOk K C) : PySem.W.findIn K (.ref C) "word" = some none := x.no "word" (by decide)
section
variable {P : Program} {w : World} {K : Fg} {mg : Str → Option Value} {base : Heap}
/-- an own exception class that takes no argument -/
structure Xc0 (P : Program) (w : World) (K : Fg) (mg : Str → Option Value) (base : Heap) (x wd : Str) : Prop where
  T : OexC K (He.ga K x)
  ex : ∃ fI fd, PySem.W.findIn K (.ref (He.ga K x)) "__init__" = some (some (.ref fI)) ∧ PySem.W.typeIn K (.ref fI) = some (.type "function") ∧ FnOk P w K mg base CX0 1 fI fd ["self"] (spI0 (He.ga K x) wd) ∧ Binds K fd ["self"] []
  gm : mg x = some (.ref (He.ga K x))
theorem xc0_mk {x wd qual : Str} {st : Stmt} {fd : FuncData} {j : Nat} {p1 p2 p3 p4 : Pos} (hT : oexB K (He.ga K x) = true) (hX : caughtB K x = true) (hi : initB K x = true) (hm : mg x = some (.ref (He.ga K x))) (F : Fun K "__init__" qual st (He.fAd K (x, some "__init__")) fd) (sc : FnScope ["self"] ["self"] (defScope st))
    (hb : defBody st = [.Assign [.Attribute (.Name "self" p1) "word" p2] (.Constant (.str wd) j p3) p4]) (hs : Vis (defScope st) "self") (bi : Binds K fd ["self"] []) : Xc0 P w K mg base x wd := by
  have T := oexB_ok hT
  obtain ⟨i1, i2⟩ := Bool.and_eq_true_iff.mp hi
  exact ⟨T, ⟨_, fd, of_decide_eq_true i1, of_decide_eq_true i2, init0_ok F sc hb hs T (caughtB_ok hX).1.word, bi⟩, hm⟩
end
section
variable {X : Cx} {p p' pos : Pos} {h0 : GH} {H0 : Hp} {px : GX} {x wd : Str} {k : Nat}
theorem s_raiseC (hc : X.calm = true) (tk : Takes X (exW X.K h0 H0 px)) (c : Xc0 X.prog X.w X.K X.mg X.base x wd) (hr : Room k X.A) (hk : 2 ≤ k) (hg : Gl X x := by rfl) (hdb : (x == ("__debug__" : Str)) = false := by decide) :
    PS X (.Raise (some (.Call (.Name x p) [] [] p')) none pos) (gS X.K (AN.step h0 H0) (sRaise0 px x wd)) := by
  obtain ⟨fI, fd, i1, i2, F, b⟩ := c.ex
  exact s_raise0 hc tk c.T i1 i2 F b hr hk c.gm hg hdb
end
end Gh
namespace Gh
open PySem PySem.Spec PyProof.Rows L2
theorem bindsLaw {K : Fg} {x qual p : Str} {st : Stmt} {f : Addr} {fd : FuncData} (F : Fun K x qual st f fd) (h : ∀ (kV doc pm : Value) (an : Option Addr) (cdv ct u : Value), bindArgs (PySem.W.fnOf x qual (defArgs st) (defBody st) (defScope st) .none kV doc pm an cdv ct) ⟨[u], []⟩ = pure [(p, u)]) (s : Shared) (u : Value) : BindsTo s fd ⟨[u], []⟩ [(p, u)] := by
  obtain ⟨oc, od, kV, doc, pm, an, cdv, ct, osl, rfl, lk, hcd⟩ := F.ex
  exact .of_eq (h kV doc pm an cdv ct u)
end Gh

set_option maxHeartbeats 2000000
/-! C9: reduced that may raise, is_fraction -/
namespace Gh
open PySem L2
def S_reducedX : GSpecX := fun ds h P px => ∃ n d : Int, ds = [.int n, .int d] ∧ d.natAbs < 2 ^ 9000 ∧ (d = 0 → px "InvalidFraction" [("word", .str "invalidfraction")] h) ∧ (d ≠ 0 → P (fr (red n d)) h)
def g_reducedX (px : GX) : gTS := (sSeq (sIf (gB (gBin (REq false) (gVar 1) (gC (.int 0))))
  (sRaise0 px "InvalidFraction" "invalidfraction")
  sNext)
 (sSeq (sSet 2 (gCall S_law_gcd (aCons (gVar 0) (aCons (gVar 1) aNil))))
 (sSeq (sIf (gB (gBin (RCmp fun i j => decide (i < j)) (gVar 1) (gC (.int 0))))
  (sSet 2 (gUn RNeg (gVar 2)))
  sNext)
 (sRet (gTup (aCons (gBin RFdiv (gVar 0) (gVar 2)) (aCons (gBin RFdiv (gVar 1) (gVar 2)) aNil)))))))
theorem pure_reducedX (ds : List D) (h : GH) (P : GP) (px : GX) (hs : S_reducedX ds h P px) : g_reducedX px { nx := fun _ h' => P .non h', rt := P } (startG ["numerator", "denominator", "by"] ds) h := by
  obtain ⟨a, b, rfl, hz, hx, hp⟩ := hs
  refine ⟨_, rfl, _, rfl, _, rfl, ite2 (fun c => hx (of_decide_eq_true c)) (fun c => ?_)⟩
  have hb : b ≠ 0 := fun z => c (decide_eq_true z)
  have hg := gcd_div (a := a) hb hz
  have hp := hp hb
  refine ⟨_, rfl, _, rfl, a, b, rfl, ?_⟩
  refine ⟨_, rfl, _, rfl, _, rfl, ite2 (fun c => ?_) (fun c => ?_)⟩
  · have hn : b < 0 := of_decide_eq_true c
    refine ⟨_, rfl, _, rfl, ?_⟩
    have hg' : (-((Int.gcd a b : Nat) : Int)) ≠ 0 ∧ (-((Int.gcd a b : Nat) : Int)).natAbs.log2 < 9000 := ⟨by omega, by rw [Int.natAbs_neg]; exact hg.2⟩
    refine ⟨_, rfl, _, rfl, _, ⟨hg', rfl⟩, _, rfl, _, rfl, _, ⟨hg', rfl⟩, two_le, .inl ?_⟩
    have e : red a b = (a.fdiv (-((Int.gcd a b : Nat) : Int)), b.fdiv (-((Int.gcd a b : Nat) : Int))) := by
      unfold red low
      rw [if_pos hn, Int.gcd_neg, Int.neg_gcd]
      have q : ∀ x : Int, x.fdiv (-((Int.gcd a b : Nat) : Int)) = -x / ((Int.gcd a b : Nat) : Int) := fun x => by
        have := Int.neg_fdiv_neg (-x) ((Int.gcd a b : Nat) : Int)
        rw [Int.neg_neg] at this
        rw [this, Int.fdiv_eq_ediv_of_nonneg _ (by omega)]
      rw [q, q]
    rw [e] at hp
    exact hp
  · have hn : ¬ b < 0 := fun z => c (decide_eq_true z)
    refine ⟨_, rfl, _, rfl, _, ⟨hg, rfl⟩, _, rfl, _, rfl, _, ⟨hg, rfl⟩, two_le, .inl ?_⟩
    have e : red a b = (a.fdiv ((Int.gcd a b : Nat) : Int), b.fdiv ((Int.gcd a b : Nat) : Int)) := by
      unfold red low
      rw [if_neg hn, Int.fdiv_eq_ediv_of_nonneg _ (by omega), Int.fdiv_eq_ediv_of_nonneg _ (by omega)]
    rw [e] at hp
    exact hp
theorem len_reducedX (ds : List D) (h : GH) (P : GP) (px : GX) (hs : S_reducedX ds h P px) : ds.length = 2 := by obtain ⟨a, b, rfl, _⟩ := hs; rfl
/-! is_fraction -/
def isFr (a b : Int) : Bool := decide (0 < b) && decide (((Int.gcd a b : Nat) : Int) = 1)
def S_is_fraction : GSpec := fun ds h P => ∃ xs : List D, ds = [.tup xs] ∧ xs.length ≤ sizeLine ∧ ((xs.length ≠ 2 ∧ P (.bl false) h) ∨ ∃ a b : Int, xs = [.int a, .int b] ∧ P (.bl (isFr a b)) h)
def g_is_fraction : gTS := (sRet (gAndV (gBin (REq false) (gCB RLen (aCons (gVar 0) aNil)) (gC (.int 2))) (gAndV (gBin (RCmp fun i j => decide (j < i)) (gBin RIx (gVar 0) (gC (.int 1))) (gC (.int 0))) (gBin (REq false) (gCall S_law_gcd (aCons (gBin RIx (gVar 0) (gC (.int 0))) (aCons (gBin RIx (gVar 0) (gC (.int 1))) aNil))) (gC (.int 1))))))
theorem pure_is_fraction (ds : List D) (h : GH) (P : GP) (hs : S_is_fraction ds h P) : g_is_fraction { nx := fun _ h' => P .non h', rt := P } (startG ["value"] ds) h := by
  obtain ⟨xs, rfl, hz, hx⟩ := hs
  refine ⟨_, rfl, _, ⟨_, rfl, rfl⟩, _, rfl, _, rfl, ?_⟩
  rcases hx with ⟨hl, hp⟩ | ⟨a, b, rfl, hp⟩
  · refine ite2 (fun c => ?_) (fun _ => .inl hp)
    have : ((xs.length : Nat) : Int) = 2 := of_decide_eq_true c
    exact absurd (by omega) hl
  · refine ite2 (fun _ => ?_) (fun c => absurd rfl c)
    refine ⟨_, rfl, _, ix1 (p := (a, b)), _, rfl, _, rfl, ite2 (fun c => ?_) (fun c => ?_)⟩
    · refine ⟨_, rfl, _, ix0 (p := (a, b)), _, rfl, _, ix1 (p := (a, b)), a, b, rfl, _, rfl, .inl ?_⟩
      have e : isFr a b = decide (((Int.gcd a b : Nat) : Int) = 1) := by unfold isFr; rw [show decide (0 < b) = true from c]; rfl
      rw [e] at hp
      exact hp
    · have e : isFr a b = false := by
        unfold isFr
        rw [Bool.and_eq_false_iff]
        exact .inl (Bool.eq_false_iff.mpr c)
      rw [e] at hp
      exact .inl hp
theorem len_is_fraction (ds : List D) (h : GH) (P : GP) (hs : S_is_fraction ds h P) : ds.length = 1 := by obtain ⟨a, rfl, _⟩ := hs; rfl
abbrev lamQ : Str := ("law" : Str) ++ ".<locals>." ++ "<lambda>"
theorem low_scale {a b k : Int} (hk : 0 < k) : low (a * k) (b * k) = low a b := by
  unfold low
  have e : ((Int.gcd (a * k) (b * k) : Nat) : Int) = ((Int.gcd a b : Nat) : Int) * k := by
    rw [Int.gcd_mul_right]
    push_cast
    rw [Int.natAbs_of_nonneg (by omega)]
  rw [e, Int.mul_ediv_mul_of_pos_left _ _ hk, Int.mul_ediv_mul_of_pos_left _ _ hk]
theorem red_scale {a b k : Int} (hk : 0 < k) : red (a * k) (b * k) = red a b := by
  unfold red
  by_cases h : b < 0
  · rw [if_pos h, if_pos (Int.mul_neg_of_neg_of_pos h hk), ← Int.neg_mul, ← Int.neg_mul, low_scale hk]
  · rw [if_neg h, if_neg (by have := Int.mul_nonneg (show 0 ≤ b by omega) (Int.le_of_lt hk); omega), low_scale hk]
theorem red_neg {a b : Int} (hb : b ≠ 0) : red (0 - a) (0 - b) = red a b := by
  rw [Int.zero_sub, Int.zero_sub]
  unfold red
  by_cases h : b < 0
  · rw [if_pos h, if_neg (by omega)]
  · rw [if_neg h, if_pos (by omega), Int.neg_neg, Int.neg_neg]
/-- the law's own lowest terms -/
theorem due_eq {a b : Int} (hb : b ≠ 0) : (if 0 < b then low a (b.natAbs : Int) else negF (low a (b.natAbs : Int))) = red a b := by
  by_cases h : 0 < b
  · rw [if_pos h, red_pos h, Int.natAbs_of_nonneg (by omega)]
  · rw [if_neg h]
    unfold red low negF
    have e : (b.natAbs : Int) = -b := by omega
    rw [if_pos (by omega), e, Int.gcd_neg, Int.gcd_neg, Int.neg_gcd]
    rw [Int.neg_ediv_of_dvd (Int.gcd_dvd_left ..)]
theorem red_low {a b : Int} (hb : b ≠ 0) : isLow (red a b) := by
  unfold red
  by_cases h : b < 0
  · rw [if_pos h]; exact low_low (by omega)
  · rw [if_neg h]; exact low_low (by omega)
theorem isFr_low {p : Int × Int} (h : isLow p) : isFr p.1 p.2 = true := by
  unfold isFr
  rw [decide_eq_true h.1, h.2]
  rfl
theorem isFr_scale {p : Int × Int} (h : isLow p) {k : Int} (hk : 0 < k) : isFr (p.1 * k) (p.2 * k) = decide (k = 1) := by
  unfold isFr
  rw [decide_eq_true (Int.mul_pos h.1 hk), Int.gcd_mul_right, h.2, Nat.one_mul, Bool.true_and]
  congr 1
  exact propext ⟨fun e => by omega, fun e => by omega⟩
/-- the answer of _law_try, as it is due -/
theorem ne_try {h : GH} {wd : Str} (hs : SeqAt.shaped (.tuple [.str wd, .none]) = true) : REq true h (.tup [.str wd, .non]) (.tup [.str wd, .non]) (.bl false) := by
  refine ⟨.tuple [.str wd, .none], .tuple [.str wd, .none], rfl, rfl, hs, hs, ?_⟩
  have := SeqAt.eqv_refl (.tuple [.str wd, .none]) (SeqAt.canLay_of_shaped hs)
  rw [this]
  rfl
theorem ne_invalid {h : GH} : REq true h (.tup [.str "invalidfraction", .non]) (.tup [.str "invalidfraction", .non]) (.bl false) := ne_try (by decide +kernel)
end Gh

set_option maxHeartbeats 2000000
/-! C10: whole numbers, texts of fractions -/
namespace Gh
open PySem L2
open TL (tl)
def digs : List Nat := ("0123456789" : Str).cps.toList
def wn (x : Str) : D :=
  if x.length = 0 ∨ 30 < x.length ∨ (x.cps.toList.any fun c => !decide (c ∈ digs)) = true then .non
  else if x.cps.toList.head? = some 48 ∧ 1 < x.length then .non else .int (NumText.digitsVal x.cps.toList : Nat)
def S_whole_number : GSpec := fun ds h P => ∃ x : Str, ds = [.str x] ∧ x.length ≤ sizeLine ∧ P (wn x) h
def g_whole_number : gTS := (sSeq (sIf (gOr (gB (gBin (REq false) (gVar 0) (gC (.str "")))) (gOr (gB (gBin (RCmp fun i j => decide (j < i)) (gCB RLen (aCons (gVar 0) aNil)) (gC (.int 30)))) (gB (gCB (RAll true) (aCons (gFr (fLc (iSeq (gVar 0)) (tgName 1) gYes (gBin (RIn true) (gVar 1) (gC (.str "0123456789"))) [1])) aNil)))))
  (sRet (gC .non))
  sNext)
 (sRet (gIf (gAnd (gB (gBin (REq false) (gBin RIx (gVar 0) (gC (.int 0))) (gC (.str "0")))) (gB (gBin (RCmp fun i j => decide (j < i)) (gCB RLen (aCons (gVar 0) aNil)) (gC (.int 1))))) (gC .non) (gCB RInt (aCons (gVar 0) aNil)))))
theorem len_whole_number (ds : List D) (h : GH) (P : GP) (hs : S_whole_number ds h P) : ds.length = 1 := by obtain ⟨x, rfl, _⟩ := hs; rfl
theorem str_nil {x : Str} : x = "" ↔ x.length = 0 := by
  refine ⟨fun e => by rw [e]; rfl, fun e => ?_⟩
  obtain ⟨cs⟩ := x
  have : cs = #[] := Array.eq_empty_of_size_eq_zero e
  rw [this]
  rfl
theorem digs_iff {c : Nat} : c ∈ digs ↔ 48 ≤ c ∧ c ≤ 57 := by
  have e : digs = [48, 49, 50, 51, 52, 53, 54, 55, 56, 57] := by decide +kernel
  rw [e]
  simp only [List.mem_cons, List.not_mem_nil, or_false]
  omega
theorem str1 {c : Nat} : (⟨#[c]⟩ : Str) = "0" ↔ c = 48 := by
  have e : (("0" : Str)) = ⟨#[48]⟩ := by decide +kernel
  rw [e]
  simp
theorem pure_whole_number (ds : List D) (h : GH) (P : GP) (hs : S_whole_number ds h P) : g_whole_number { nx := fun _ h' => P .non h', rt := P } (startG ["text", "sign"] ds) h := by
  obtain ⟨x, rfl, hz, hp⟩ := hs
  unfold wn at hp
  refine ⟨_, rfl, _, rfl, _, rfl, ?_⟩
  refine ite2 (fun c => ?_) (fun c => ?_)
  · rw [if_pos (.inl (str_nil.mp (of_decide_eq_true c)))] at hp
    exact iteT (.inl hp)
  have c1 : x.length ≠ 0 := fun e => c (decide_eq_true (str_nil.mpr e))
  refine ⟨_, rfl, _, str_len hz, _, rfl, _, rfl, ?_⟩
  refine ite2 (fun c => ?_) (fun c => ?_)
  · rw [if_pos (.inr (.inl (by have := of_decide_eq_true c; omega)))] at hp
    exact iteT (.inl hp)
  have c2 : ¬ 30 < x.length := fun e => c (decide_eq_true (by omega))
  refine ⟨_, rfl, fun p hp1 => ?_⟩
  refine lc_map _ (fun c => .bl (!decide (c ∈ digs))) hp1 _ (by rw [Array.length_toList]; exact hz) (fun a _ acc Q hq => ⟨_, rfl, _, ⟨a, rfl, rfl⟩, hq⟩) ?_
  refine ⟨_, any_of _ _, _, rfl, ?_⟩
  refine ite2 (fun c => ?_) (fun c => ?_)
  · rw [if_pos (.inr (.inr c))] at hp
    exact .inl hp
  rw [if_neg (fun z => z.elim c1 fun z => z.elim c2 c)] at hp
  have hd : NumText.AllDigits x.cps.toList := fun d hd => by
    refine digs_iff.mp (Decidable.by_contra fun z => c ?_)
    rw [List.any_eq_true]
    exact ⟨d, hd, by rw [decide_eq_false z]; rfl⟩
  obtain ⟨a, r, ex⟩ : ∃ a r, x.cps.toList = a :: r := by
    cases e : x.cps.toList with
    | nil => exact absurd (by have := congrArg List.length e; rw [Array.length_toList] at this; exact this) c1
    | cons a r => exact ⟨a, r, rfl⟩
  rw [ex] at hp
  have hix : RIx h (.str x) (.int 0) (.str ⟨#[a]⟩) := ⟨hz, a, by rw [ex]; exact atI_nat (j := 0) rfl, rfl⟩
  have hlast : ¬ ((a :: r).head? = some 48 ∧ 1 < x.length) → gCB RInt (aCons (gVar 0) aNil) [some (.str x), none] h (fun d h1 => P d h1 ∨ ∃ p ds, d = .ref p ∧ h1 p = some (.lst ds) ∧ P (.lst ds) (del h1 p)) := fun z => by
    rw [if_neg z] at hp
    refine ⟨_, rfl, _, ⟨_, rfl, by omega, _, intText_digits hd (by rw [ex]; simp) (by omega), rfl⟩, ?_⟩
    rw [ex]
    exact .inl hp
  refine ⟨_, rfl, _, hix, _, rfl, _, rfl, ?_⟩
  refine ite2 (fun c3 => ?_) (fun c3 => ?_)
  · have ea := str1.mp (of_decide_eq_true c3)
    refine ⟨_, rfl, _, str_len hz, _, rfl, _, rfl, ?_⟩
    refine ite2 (fun c4 => ?_) (fun c4 => ?_)
    · rw [if_pos ⟨by rw [ea]; rfl, by have := of_decide_eq_true c4; omega⟩] at hp
      exact .inl hp
    · exact hlast fun z => c4 (decide_eq_true (by have := z.2; omega))
  · exact iteF (hlast fun z => c3 (decide_eq_true (str1.mpr (by have := z.1; simpa using this))))

/-- the whole number that a text tells -/
def whole (x : Str) : Option Nat :=
  if x.length = 0 ∨ 30 < x.length ∨ (x.cps.toList.any fun c => !decide (c ∈ digs)) = true then none
  else if x.cps.toList.head? = some 48 ∧ 1 < x.length then none else some (NumText.digitsVal x.cps.toList)
theorem wn_some {x : Str} {n : Nat} (h : whole x = some n) : wn x = .int (n : Nat) := by
  unfold whole at h
  unfold wn
  split at h
  · cases h
  · rename_i c1
    rw [if_neg c1]
    split at h
    · cases h
    · rename_i c2
      rw [if_neg c2]
      cases h
      rfl
theorem wn_none {x : Str} (h : whole x = none) : wn x = .non := by
  unfold whole at h
  unfold wn
  split at h
  · rename_i c1
    rw [if_pos c1]
  · rename_i c1
    rw [if_neg c1]
    split at h
    · rename_i c2
      rw [if_pos c2]
    · cases h
theorem whole_digits {x : Str} {n : Nat} (h : whole x = some n) : NumText.AllDigits (tl x) ∧ tl x ≠ [] ∧ x.length ≤ 30 ∧ n = NumText.digitsVal (tl x) := by
  unfold whole at h
  split at h
  · cases h
  · rename_i c1
    split at h
    · cases h
    · cases h
      refine ⟨fun d hd => digs_iff.mp (Decidable.by_contra fun z => c1 (.inr (.inr ?_))), fun e => c1 (.inl ?_), Decidable.by_contra fun z => c1 (.inr (.inl (by omega))), rfl⟩
      · rw [List.any_eq_true]
        exact ⟨d, hd, by rw [decide_eq_false z]; rfl⟩
      · have := congrArg List.length e
        rw [Array.length_toList] at this
        exact this
theorem whole_free {x : Str} (h : 47 ∈ tl x) : whole x = none := by
  cases e : whole x with
  | none => rfl
  | some n =>
    have := (whole_digits e).1 47 h
    omega
theorem whole_int {x : Str} {n : Nat} (h : whole x = some n) (hh : GH) : RInt hh [.str x] (.int (n : Nat)) := by
  obtain ⟨h1, h2, h3, rfl⟩ := whole_digits h
  exact ⟨_, rfl, by omega, _, intText_digits h1 h2 (by omega), rfl⟩
/-! _law_digits -/
def S_law_digits : GSpec := fun ds h P => ∃ x : Str, ds = [.str x] ∧ x.length ≤ sizeLine ∧ P (.bl (whole x).isSome) h
def g_law_digits : gTS := (sSeq (sSet 1 (gAndV (gBin (REq true) (gVar 0) (gC (.str ""))) (gAndV (gBin (RCmp fun i j => decide (i < j)) (gCB RLen (aCons (gVar 0) aNil)) (gC (.int 31))) (gCB (RAll false) (aCons (gFr (fLc (iSeq (gVar 0)) (tgName 2) gYes (gBin (RIn false) (gVar 2) (gC (.str "0123456789"))) [2])) aNil)))))
 (sRet (gAndV (gVar 1) (gOrV (gBin (REq true) (gBin RIx (gVar 0) (gC (.int 0))) (gC (.str "0"))) (gBin (REq false) (gVar 0) (gC (.str "0")))))))
theorem len_law_digits (ds : List D) (h : GH) (P : GP) (hs : S_law_digits ds h P) : ds.length = 1 := by obtain ⟨x, rfl, _⟩ := hs; rfl
theorem pure_law_digits (ds : List D) (h : GH) (P : GP) (hs : S_law_digits ds h P) : g_law_digits { nx := fun _ h' => P .non h', rt := P } (startG ["_law_text", "_law_plain", "_law_sign"] ds) h := by
  obtain ⟨x, rfl, hz, hp⟩ := hs
  unfold whole at hp
  refine ⟨_, rfl, _, rfl, _, rfl, ?_⟩
  refine ite2 (fun c => ?_) (fun c => ?_)
  case _ =>
    refine ⟨_, rfl, _, str_len hz, _, rfl, _, rfl, ?_⟩
    have c1 : x.length ≠ 0 := fun e => by
      have := str_nil.mpr e
      rw [this] at c
      revert c
      decide +kernel
    refine ite2 (fun c => ?_) (fun c => ?_)
    case _ =>
      have c2 : ¬ 30 < x.length := by have := of_decide_eq_true c; omega
      refine ⟨_, rfl, fun p hp1 => ?_⟩
      refine lc_map _ (fun c => .bl (decide (c ∈ digs))) hp1 _ (by rw [Array.length_toList]; exact hz) (fun a _ acc Q hq => ⟨_, rfl, _, ⟨a, rfl, rfl⟩, hq⟩) ?_
      refine ⟨_, all_of _ _, ?_⟩
      refine ⟨_, rfl, _, rfl, ?_⟩
      refine ite2 (fun c => ?_) (fun c => ?_)
      · have ca : ¬ (x.cps.toList.any fun c => !decide (c ∈ digs)) = true := fun z => by
          obtain ⟨d, hd, hn⟩ := List.any_eq_true.mp z
          have := List.all_eq_true.mp c d hd
          rw [this] at hn
          cases hn
        rw [if_neg (fun z => z.elim c1 fun z => z.elim c2 ca)] at hp
        obtain ⟨a, r, ex⟩ : ∃ a r, x.cps.toList = a :: r := by
          cases e : x.cps.toList with
          | nil => exact absurd (by have := congrArg List.length e; rw [Array.length_toList] at this; exact this) c1
          | cons a r => exact ⟨a, r, rfl⟩
        have hix : RIx h (.str x) (.int 0) (.str ⟨#[a]⟩) := ⟨hz, a, by rw [ex]; exact atI_nat (j := 0) rfl, rfl⟩
        refine ⟨_, rfl, _, hix, _, rfl, _, rfl, ?_⟩
        refine ite2 (fun c3 => ?_) (fun c3 => ?_)
        · have ne : a ≠ 48 := fun z => by
            have := str1.mpr z
            rw [this] at c3
            revert c3
            decide +kernel
          rw [if_neg (fun z => ne (by have := z.1; rw [ex] at this; simpa using this))] at hp
          exact .inl hp
        · have e48 : a = 48 := by
            refine Decidable.by_contra fun z => c3 ?_
            have : decide ((⟨#[a]⟩ : Str) = "0") = false := decide_eq_false fun y => z (str1.mp y)
            show (!decide ((⟨#[a]⟩ : Str) = "0")) = true
            rw [this]
            rfl
          refine ⟨_, rfl, _, rfl, .inl ?_⟩
          have lx : x.length = r.length + 1 := by
            have := congrArg List.length ex
            rw [Array.length_toList] at this
            exact this
          by_cases h1 : 1 < x.length
          · rw [if_pos ⟨by rw [ex, e48]; rfl, h1⟩] at hp
            have : decide (x = "0") = false := decide_eq_false fun y => by
              rw [y] at h1
              revert h1
              decide +kernel
            show P (.bl (decide (x = "0"))) h
            rw [this]
            exact hp
          · rw [if_neg (fun z => h1 z.2)] at hp
            have r0 : r = [] := List.length_eq_zero_iff.mp (by omega)
            have : decide (x = "0") = true := decide_eq_true (by
              refine TL.ext_tl ?_
              show x.cps.toList = _
              rw [ex, r0, e48]
              decide +kernel)
            show P (.bl (decide (x = "0"))) h
            rw [this]
            exact hp
      · have ca : (x.cps.toList.any fun c => !decide (c ∈ digs)) = true := by
          refine Decidable.by_contra fun z => c ?_
          rw [List.all_eq_true]
          intro d hd
          refine Decidable.by_contra fun y => z ?_
          rw [List.any_eq_true]
          exact ⟨d, hd, by rw [Bool.eq_false_iff.mpr y]; rfl⟩
        rw [if_pos (.inr (.inr ca))] at hp
        exact .inl hp
    case _ =>
      rw [if_pos (.inr (.inl (Decidable.by_contra fun z => c (decide_eq_true (by omega)))))] at hp
      refine ⟨_, rfl, _, rfl, iteF (.inl hp)⟩
  case _ =>
    have e : x = "" := Decidable.by_contra fun z => c (by
      show (!decide (x = "")) = true
      rw [decide_eq_false z]
      rfl)
    rw [if_pos (.inl (str_nil.mp e))] at hp
    exact ⟨_, rfl, _, rfl, iteF (.inl hp)⟩
end Gh

set_option maxHeartbeats 4000000
/-! X10: numbers of up to 4300 digits as texts -/
namespace Gh
open PySem PySem.Spec PyProof.Rows PySem.NumText L2
theorem wp_maxDigits {M : Model} {A : Around} {E : Value → Shared → Prop} {s : Shared} {Q : Nat → Shared → Prop} (hn : s.heap.NoDigits) (h : Q 4300 s) : wpAny M A Builtin.intMaxStrDigits Q E s := by
  obtain ⟨mc, hns, hnone⟩ := hn
  unfold Builtin.intMaxStrDigits
  refine wpAny_bind (wpAny_nsGet hns ?_)
  rw [hnone]
  exact wpAny_pure h
theorem wp_textL {M : Model} {A : Around} {E : Value → Shared → Prop} {s : Shared} {Q : Value → Shared → Prop} {v : Value} {text : List Nat} {n : Int} (hn : s.heap.NoDigits)
    (hs : ¬ (text.takeWhile (· != 0)).length ≤ 640) (hr : (int_private% "readNumeral") 4300 10 (text.takeWhile (· != 0)) = (int_private% "Numeral.value") n)
    (ha : ((text.takeWhile (· != 0)).length == text.length) = true) (h : Q (.int n s.toks) { s with toks := s.toks + 1 }) :
    wpAny M A ((int_private% "intFromText") v text 10) Q E s := by
  obtain ⟨hp, g, d, tk, os⟩ := s
  repeat (any_goals (first
    | assumption
    | (with_reducible refine wpAny_ite_false (decide_eq_false hs) ?_)
    | (with_reducible refine wp_maxDigits hn ?_)
    | (with_reducible refine wpAny_ite_true (decide_eq_true ha) ?_)
    | wp_step))
  all_goals (try rw [hr])
  all_goals (try dsimp only)
  repeat (any_goals (first
    | assumption
    | (with_reducible refine wpAny_ite_true (decide_eq_true ha) ?_)
    | wp_step))
structure Hid (p : Prop) : Prop where
  out : p
theorem meets_textL {x : PySem.Str} {u : Tok} {n : Int} (hx : x.length ≤ sizeLine) (hl : ¬ (numSeenOf x).length ≤ 640) (hi : PySem.intText? x = some n) :
    PySem.Meets (Builtin.«int.__new__» ⟨[.type "int", .str x u], []⟩) (fun A R s => s.heap.NoDigits ∧ R (.ok (.ret (.int n s.toks))) { s with toks := s.toks + 1 }) :=
  PySem.Meets.of_wp fun prog w A R s h => by
    obtain ⟨hn, h⟩ := h
    obtain ⟨hp, g, d, tk, os⟩ := s
    have f1 := F.conv_sub_int
    have f2 := F.madeHere_int
    have f3 := PySem.W.KIN.str_int
    have f4 := PySem.W.KIN.str_idx
    have f5 := PySem.W.KIN.str_trunc
    have f6 : typeOf (.str x u) = pure (.type "str") := rfl
    have hr : (int_private% "readNumeral") 4300 10 (numSeenOf x) = (int_private% "Numeral.value") n ∧ ((numSeenOf x).length == (numTextOf x).length) = true := by
      rcases read4300 x hx with ⟨m, h1, h2, h3⟩ | ⟨h1, _⟩
      · rw [hi] at h1
        injection h1 with h1
        subst h1
        exact ⟨h3, h2⟩
      · rw [hi] at h1
        cases h1
    have hk := Hid.mk (And.intro hl (And.intro hn hr))
    clear hl hr hi hn
    repeat (any_goals (first
      | assumption
      | ((with_reducible show wpAny _ _ ((int_private% "intFromText") _ _ _) _ _ _); refine wp_textL hk.out.2.1 hk.out.1 hk.out.2.2.1 hk.out.2.2.2 ?_)
      | wp_step))
    all_goals first | exact ⟨_, rfl, h⟩ | skip
end Gh
namespace Gh
open PySem PySem.Spec PyProof.Rows PySem.NumText L2
/-- the limit of digits is not set -/
def NoD (K : Fg) : Prop := PySem.W.nsIn K cStatics "sys.int_max_str_digits" = some none
section
variable {X : Cx} {An : AN} {e : Expr} {ga : gTE} {gas : gTA} {pos p : Pos}
theorem noDig {pins : List (Addr × Obj)} {σ : L2.St} {H : Hp} {s : Shared} (I : Inv X pins σ H s) (n : NoD X.K) : s.heap.NoDigits := by
  obtain ⟨mc, h1, h2⟩ := I.ok.mod.nolimit
  have h1' := h1.keeps I.bk
  exact ⟨mc, h1', PySem.W.ns_none_of I.kIn h1' n⟩
theorem call_str_intL (hc : X.calm = true) (n : NoD X.K) : CallR X (.type "str") (fun xs H Q => ∃ i : Int, xs = [.int i] ∧ i.natAbs < 10 ^ 4300 ∧ Q (.str (toString i)) H) := by
  intro pins s σ H xs us Q I r h
  obtain ⟨i, rfl, hz, q⟩ := h
  obtain ⟨u, rfl, t, rfl⟩ := vals1 r
  exact str_of_int_or (I.ok.hd hc) (noDig I n) (fun _ => ⟨.str _, H, I.tok _, ⟨_, rfl⟩, q⟩) fun z => absurd hz (Nat.not_lt.mpr z)
theorem call_int_strL (n : NoD X.K) : CallR X (.type "int") (fun xs H Q => ∃ a i, xs = [.str a] ∧ PySem.intText? a = some i ∧ a.length ≤ 4300 ∧ ¬ (numSeenOf a).length ≤ 640 ∧ Q (.int i) H) := by
  intro pins s σ H xs us Q I rs h
  obtain ⟨a, i, rfl, hi, hl, c, h⟩ := h
  obtain ⟨u, rfl, t, rfl⟩ := vals1 rs
  exact call_int_1 (meets_textL (Nat.le_trans hl (by decide)) c hi) ⟨noDig I n, typeIs_int _ _ _, ⟨.int i, H, I.tok _, ⟨_, rfl⟩, h⟩⟩
def RIntL : RC2 := fun _ ds c => ∃ (x : Str) (i : Int), ds = [.str x] ∧ PySem.intText? x = some i ∧ x.length ≤ 4300 ∧ (x.length ≤ 640 ∨ ¬ (numSeenOf x).length ≤ 640) ∧ c = .int i
theorem e_intcL (n : NoD X.K) (hm : X.mg "int" = none) (ha : PA X [e] (gA X.K An gas)) (hg : Gl X "int" := by rfl) (he : starEach [e] X.env = [(false, eval e X.env)] := by rfl) : PE X (.Call (.Name "int" p) [e] [] pos) (gE X.K An (gCB RIntL gas)) :=
  e_ct (crOr call_int_str (call_int_strL n)) (by
    intro vs H h ds c Q re dvx hr k
    obtain ⟨x, i, rfl, hi, hl, hc, rfl⟩ := hr
    obtain ⟨v, rfl, dv⟩ := dvs1 dvx
    cases dv
    rcases hc with hc | hc
    · exact .inl ⟨x, i, rfl, hi, hc, k _ H (Step.refl h H) re (.int _)⟩
    · exact .inr ⟨x, i, rfl, hi, hl, hc, k _ H (Step.refl h H) re (.int _)⟩) hm (by decide +kernel) ha hg (by decide) (by decide) he (by rfl)
def RStrL : RC2 := fun h ds c => ∃ i : Int, ds = [.int i] ∧ i.natAbs < 10 ^ 4300 ∧ c = .str (toString i)
theorem e_strcL (hc : X.calm = true) (n : NoD X.K) (hm : X.mg "str" = none) (ha : PA X [e] (gA X.K An gas)) (hg : Gl X "str" := by rfl) (he : starEach [e] X.env = [(false, eval e X.env)] := by rfl) : PE X (.Call (.Name "str" p) [e] [] pos) (gE X.K An (gCB RStrL gas)) :=
  e_ct (call_str_intL hc n) (by
    intro vs H h ds c Q re dvx hr k
    obtain ⟨i, rfl, hz, rfl⟩ := hr
    obtain ⟨v, rfl, dv⟩ := dvs1 dvx
    cases dv
    exact ⟨i, rfl, hz, k _ H (Step.refl h H) re (.str _)⟩) hm (by decide +kernel) ha hg (by decide) (by decide) he (by rfl)
def gFmtL (ga : gTE) : gTE := fun s h P => ga s h fun d h1 => ∃ i : Int, d = .int i ∧ i.natAbs < 10 ^ 4300 ∧ P (.str (toString i)) h1
theorem pe_fmtL {te : TE} (hc : X.calm = true) (n : NoD X.K) (he : PE X e te) : PE X (.FormattedValue e (-1) none pos) (fun σ H Q => te σ H fun x H1 => ∃ i : Int, x = .int i ∧ i.natAbs < 10 ^ 4300 ∧ Q (.str (toString i)) H1) := by
  refine ⟨fun pins s σ H Q I h => ?_⟩
  refine wpAny_FormattedValue_plain (thn (he.run pins s σ H _ I h) fun v s1 hv => ?_)
  obtain ⟨x, H1, I1, r1, i, rfl, hz, q⟩ := hv
  obtain ⟨t, rfl⟩ := r1
  exact formatField_int (I1.ok.hd hc) (noDig I1 n) (fun _ => ⟨.str _, H1, I1.tok _, ⟨_, rfl⟩, q⟩) fun z => absurd hz (Nat.not_lt.mpr z)
theorem j_fmtL (hc : X.calm = true) (n : NoD X.K) (he : PE X e (gE X.K An ga)) : PE X (.FormattedValue e (-1) none pos) (gE X.K An (gFmtL ga)) := (pe_fmtL hc n he).imp fun σ H Q ⟨s, h, P, re, l, g, k⟩ => by
  refine ⟨s, h, _, re, l, g, fun v H1 d h1 s1 re1 dv ⟨i, ed, hz, p⟩ => ?_⟩
  subst ed
  cases dv
  exact ⟨i, rfl, hz, k _ H1 _ h1 s1 re1 (.str _) p⟩
end
end Gh

set_option maxHeartbeats 2000000
namespace K04
open PySem L2 Gh
open TL (tl)
abbrev Cs : List Str := ["InvalidFraction"]
def isNeg (x : Str) : Bool := decide ((tl x).head? = some 45)
def bodyOf (x : Str) : Str := if isNeg x = true then cutS x (some 1) none else x
def mkR (neg : Bool) (n d : Nat) (slash : Bool) : Option (Int × Int) :=
  if (isFr (if neg = true then -(n : Int) else n) d && ((!slash || decide (1 < (d : Int))) && (!neg || !decide ((n : Int) = 0)))) = true then some (if neg = true then -(n : Int) else n, d) else none
def ratIn (x : Str) : Option (Int × Int) := match (Txt.split (bodyOf x) "/").map whole with
  | [some n] => mkR (isNeg x) n 1 false
  | [some n, some d] => mkR (isNeg x) n d true
  | _ => none
theorem sl_tl : tl ("/" : Str) = [47] := by decide +kernel
theorem sl_mk : (("/" : Str)) = ⟨#[47]⟩ := by decide +kernel
theorem mi_mk : (("-" : Str)) = ⟨#[45]⟩ := by decide +kernel
/-- a text cut at its slashes -/
theorem cut_cases (B : Str) : (47 ∉ tl B ∧ Txt.split B "/" = [B]) ∨ (∃ a b : Str, B = a ++ "/" ++ b ∧ 47 ∉ tl a ∧ 47 ∉ tl b ∧ Txt.split B "/" = [a, b]) ∨ ∃ a b : Str, B = a ++ "/" ++ b ∧ 47 ∉ tl a ∧ 47 ∈ tl b ∧ 2 < (Txt.split B "/").length := by
  have hj := StrLaws.join_split B "/"
  have hf : ∀ p ∈ Txt.split B "/", 47 ∉ tl p := fun p hp => by
    rw [sl_mk] at hp
    exact StrLaws.split_free B 47 p hp
  match e : Txt.split B "/", hj, hf with
  | [], _, _ =>
    have := PyProof.Rows.split_pos B "/"
    rw [e] at this
    exact absurd this (by decide)
  | [a], hj, hf =>
    have ea : a = B := hj
    have h1 := hf a List.mem_cons_self
    rw [ea] at h1 ⊢
    exact .inl ⟨h1, rfl⟩
  | [a, b], hj, hf =>
    exact .inr (.inl ⟨a, b, hj.symm, hf a List.mem_cons_self, hf b (by simp), rfl⟩)
  | a :: b :: c :: r, hj, hf =>
    refine .inr (.inr ⟨a, Str.join "/" (b :: c :: r), hj.symm, hf a List.mem_cons_self, ?_, by simp⟩)
    show 47 ∈ tl (b ++ "/" ++ Str.join "/" (c :: r))
    rw [TL.tl_append, TL.tl_append, sl_tl]
    simp
theorem part_cases (B : Str) : (47 ∉ tl B ∧ Txt.split B "/" = [B] ∧ Txt.partition B "/" = (B, ("" : Str), ("" : Str))) ∨ (∃ a b : Str, Txt.partition B "/" = (a, ("/" : Str), b) ∧ a.length ≤ B.length ∧ b.length ≤ B.length ∧ Txt.split B "/" = [a, b]) ∨ ∃ a b : Str, Txt.partition B "/" = (a, ("/" : Str), b) ∧ a.length ≤ B.length ∧ b.length ≤ B.length ∧ whole b = none ∧ 2 < (Txt.split B "/").length := by
  have hl : ∀ a b : Str, B = a ++ "/" ++ b → a.length ≤ B.length ∧ b.length ≤ B.length := fun a b e => by
    rw [e, app_len, app_len]; omega
  rcases cut_cases B with ⟨h1, h2⟩ | ⟨a, b, e, h1, h2, h3⟩ | ⟨a, b, e, h1, h2, h3⟩
  · exact .inl ⟨h1, h2, TL.partition_none sl_tl h1⟩
  · refine .inr (.inl ⟨a, b, ?_, (hl a b e).1, (hl a b e).2, h3⟩)
    rw [e]
    exact TL.partition_app sl_tl h1
  · refine .inr (.inr ⟨a, b, ?_, (hl a b e).1, (hl a b e).2, whole_free h2, h3⟩)
    rw [e]
    exact TL.partition_app sl_tl h1
theorem starts_neg (x : Str) : Txt.startswith x "-" = isNeg x := by
  rw [mi_mk]
  have h := StrLaws.subAt_one x 45 0
  unfold Txt.startswith isNeg
  by_cases c : (tl x).head? = some 45
  · rw [decide_eq_true c]
    have c' : x.cps.toList[0]? = some 45 := by rw [← List.head?_eq_getElem?]; exact c
    obtain ⟨h1, h2⟩ := h.mpr c'
    rw [h2, decide_eq_true h1]
    rfl
  · rw [decide_eq_false c, Bool.and_eq_false_iff]
    refine Decidable.by_contra fun z => c ?_
    have z1 : decide (0 + (⟨#[45]⟩ : Str).length ≤ x.length) = true := by
      refine Decidable.by_contra fun y => z (.inl (Bool.eq_false_iff.mpr y))
    have z2 : Builtin.Str.subAt x ⟨#[45]⟩ 0 = true := by
      refine Decidable.by_contra fun y => z (.inr (Bool.eq_false_iff.mpr y))
    have := h.mp ⟨of_decide_eq_true z1, z2⟩
    show x.cps.toList.head? = some 45
    rw [List.head?_eq_getElem?]
    exact this
theorem cut0 (x : Str) : cutS x (some 0) none = x := by
  refine TL.ext_tl ?_
  show ((x.cps.toList.drop (HT.sIx x.length 0 (some 0))).take (HT.sIx x.length x.length none - HT.sIx x.length 0 (some 0))) = x.cps.toList
  have e : HT.sIx x.length 0 (some 0) = 0 := by
    have := HT.sIx_nat x.length 0 0
    rw [Nat.zero_min] at this
    exact this
  rw [e, HT.sIx_none, List.drop_zero, Nat.sub_zero]
  exact List.take_of_length_le (by rw [Array.length_toList]; exact Nat.le_refl _)
theorem cut1_tl (x : Str) : tl (cutS x (some 1) none) = (tl x).drop 1 := by
  show ((x.cps.toList.drop (HT.sIx x.length 0 (some 1))).take (HT.sIx x.length x.length none - HT.sIx x.length 0 (some 1))) = x.cps.toList.drop 1
  have e : HT.sIx x.length 0 (some 1) = min 1 x.length := HT.sIx_nat x.length 0 1
  rw [e, HT.sIx_none]
  have hn : x.length = x.cps.toList.length := by rw [Array.length_toList]; rfl
  rw [hn]
  cases hx : x.cps.toList with
  | nil => rfl
  | cons c r =>
    rw [List.length_cons, Nat.min_eq_left (by omega)]
    exact List.take_of_length_le (by simp)
theorem first_cut (x : Str) : decide (cutS x none (some 1) = "-") = isNeg x := by
  have e : tl (cutS x none (some 1)) = (tl x).take 1 := by
    show ((x.cps.toList.drop (HT.sIx x.length 0 none)).take (HT.sIx x.length x.length (some 1) - HT.sIx x.length 0 none)) = x.cps.toList.take 1
    have e : HT.sIx x.length x.length (some 1) = min 1 x.length := HT.sIx_nat x.length x.length 1
    rw [e, HT.sIx_none, List.drop_zero, Nat.sub_zero]
    have hn : x.length = x.cps.toList.length := by rw [Array.length_toList]; rfl
    rw [hn]
    cases hx : x.cps.toList with
    | nil => rfl
    | cons c r => rw [List.length_cons, Nat.min_eq_left (by omega)]
  unfold isNeg
  by_cases c : (tl x).head? = some 45
  · rw [decide_eq_true c]
    refine decide_eq_true (TL.ext_tl ?_)
    rw [e, mi_mk]
    cases hx : tl x with
    | nil => rw [hx] at c; cases c
    | cons d r => rw [hx] at c; cases c; rfl
  · rw [decide_eq_false c]
    refine decide_eq_false fun z => c ?_
    rw [z, mi_mk] at e
    cases hx : tl x with
    | nil => rw [hx] at e; cases e
    | cons d r => rw [hx] at e; cases e; rfl
theorem body_len (x : Str) : (bodyOf x).length ≤ x.length := by
  unfold bodyOf
  split
  · rw [TL.len_tl, cut1_tl, TL.len_tl x, List.length_drop]; omega
  · exact Nat.le_refl _
theorem body_ne (x : Str) : decide (bodyOf x = x) = !isNeg x := by
  unfold bodyOf
  cases c : isNeg x with
  | false => rw [if_neg Bool.false_ne_true, decide_eq_true rfl]; rfl
  | true =>
    rw [if_pos rfl]
    refine decide_eq_false fun z => ?_
    have h := congrArg tl z
    rw [cut1_tl] at h
    have c' : (tl x).head? = some 45 := of_decide_eq_true c
    cases hx : tl x with
    | nil => rw [hx] at c'; cases c'
    | cons d r =>
      rw [hx] at h
      have := congrArg List.length h
      simp at this
end K04

set_option maxHeartbeats 2000000
namespace K04
open PySem L2 Gh
open TL (tl)
def dn : Option Nat → D
  | some n => .int (n : Nat)
  | none => .non
theorem wn_dn (x : Str) : wn x = dn (whole x) := by
  cases e : whole x with
  | none => exact wn_none e
  | some n => exact wn_some e
def S_parse_ratio : GSpecX := fun ds h P px => ∃ x : Str, ds = [.str x] ∧ x.length ≤ 1000 ∧ (∀ p, ratIn x = some p → P (fr p) h) ∧ (ratIn x = none → px "InvalidFraction" [("word", .str "invalidfraction")] h)
theorem len_parse_ratio (ds : List D) (h : GH) (P : GP) (px : GX) (hs : S_parse_ratio ds h P px) : ds.length = 1 := by obtain ⟨x, rfl, _⟩ := hs; rfl
def t3 (px : GX) : gTS := (sSeq (sIf (gOr (gNot (gB (gCall S_is_fraction (aCons (gVar 7) aNil)))) (gAnd (gB (gBin (REq false) (gVar 3) (gC (.str "/")))) (gB (gBin (REq false) (gVar 6) (gC (.int 1))))))
  (sRaise0 px "InvalidFraction" "invalidfraction")
  sNext)
 (sRet (gVar 7)))
def t2 (px : GX) : gTS := (sSeq (sIf (gOr (gB (gUn (RIsN false) (gVar 5))) (gOr (gB (gUn (RIsN false) (gVar 6))) (gAnd (gB (gVar 1)) (gB (gBin (REq false) (gVar 5) (gC (.int 0)))))))
  (sRaise0 px "InvalidFraction" "invalidfraction")
  sNext)
 (sSeq (sSet 7 (gTup (aCons (gIf (gB (gVar 1)) (gUn RNeg (gVar 5)) (gVar 5)) (aCons (gVar 6) aNil))))
 (t3 px)))
def g_parse_ratio (px : GX) : gTS := (sSeq (sSet 1 (gM1 RStarts (gVar 0) (gC (.str "-"))))
 (sSeq (sAsg (gM1 RPart (gSl (gVar 0) (gPart (gCB RInt (aCons (gVar 1) aNil))) gNoPart) (gC (.str "/"))) (tgTup 3 (tgCons (tgName 2) (tgCons (tgName 3) (tgCons (tgName 4) tgNil)))))
 (sSeq (sSet 5 (gCall S_whole_number (aCons (gVar 2) aNil)))
 (sSeq (sSet 6 (gIf (gB (gBin (REq false) (gVar 3) (gC (.str "/")))) (gCall S_whole_number (aCons (gVar 4) aNil)) (gC (.int 1))))
 (t2 px)))))
theorem t3_ok {px : GX} {h : GH} {N : GEnds} {o0 o1 o2 o4 o5 : Option D} {s : Str} {sl : Bool} {q : Int} {d : Nat} (hs : decide (s = "/") = sl)
    (hp : (isFr q d && !(sl && decide ((d : Int) = 1))) = true → N.rt (fr (q, (d : Int))) h) (hx : (isFr q d && !(sl && decide ((d : Int) = 1))) = false → px "InvalidFraction" [("word", .str "invalidfraction")] h) :
    t3 px N [o0, o1, o2, some (.str s), o4, o5, some (.int (d : Nat)), some (.tup [.int q, .int (d : Nat)])] h := by
  refine ⟨_, rfl, [.int q, .int (d : Nat)], rfl, two_le, .inr ⟨q, d, rfl, ?_⟩⟩
  refine ⟨_, rfl, ?_⟩
  cases c : isFr q d with
  | false =>
    refine iteT ?_
    exact hx (by rw [c]; rfl)
  | true =>
    refine iteF ?_
    rw [c] at hp hx
    refine ⟨_, rfl, _, rfl, _, rfl, ?_⟩
    have ret : (sl && decide ((d : Int) = 1)) = false → sRet (gVar 7) N [o0, o1, o2, some (.str s), o4, o5, some (.int (d : Nat)), some (.tup [.int q, .int (d : Nat)])] h := fun e => by
      exact ⟨_, rfl, .inl (hp (by rw [e]; rfl))⟩
    refine ite2 (fun c1 => ?_) (fun c1 => ?_)
    · have e1 : sl = true := hs.symm.trans c1
      refine ⟨_, rfl, _, rfl, _, rfl, ?_⟩
      refine ite2 (fun c2 => ?_) (fun c2 => ?_)
      · exact hx (by rw [e1, show decide ((d : Int) = 1) = true from c2]; rfl)
      · exact ret (by rw [show decide ((d : Int) = 1) = false from Bool.eq_false_iff.mpr c2, Bool.and_false])
    · have e1 : sl = false := hs.symm.trans (Bool.eq_false_iff.mpr c1)
      exact iteF (ret (by rw [e1]; rfl))
def resOf (neg sl : Bool) : Option Nat → Option Nat → Option (Int × Int)
  | some n, some d => mkR neg n d sl
  | _, _ => none
theorem gt1 {d : Nat} {q : Int} (h : isFr q d = true) : (!(decide ((d : Int) = 1))) = decide (1 < (d : Int)) := by
  have h0 : 0 < (d : Int) := by
    have := (Bool.and_eq_true_iff.mp h).1
    exact of_decide_eq_true this
  by_cases e : (d : Int) = 1
  · rw [decide_eq_true e, decide_eq_false (by omega)]; rfl
  · rw [decide_eq_false e, decide_eq_true (by omega)]; rfl
theorem mk_eq {neg sl : Bool} {n d : Nat} (hn : (neg && decide ((n : Int) = 0)) = false) : mkR neg n d sl = if (isFr (if neg = true then -(n : Int) else n) d && !(sl && decide ((d : Int) = 1))) = true then some (if neg = true then -(n : Int) else n, (d : Int)) else none := by
  unfold mkR
  have e2 : (!neg || !decide ((n : Int) = 0)) = true := by
    cases neg with
    | false => rfl
    | true => rw [Bool.true_and] at hn; rw [hn]; rfl
  rw [e2, Bool.and_true]
  cases c : isFr (if neg = true then -(n : Int) else n) d with
  | false => rw [Bool.false_and, Bool.false_and]
  | true =>
    rw [Bool.true_and, Bool.true_and]
    have e3 : (!(sl && decide ((d : Int) = 1))) = (!sl || decide (1 < (d : Int))) := by
      cases sl with
      | false => rfl
      | true => rw [Bool.true_and, gt1 c]; rfl
    rw [e3]
theorem t2_ok {px : GX} {h : GH} {N : GEnds} {o0 o2 o4 : Option D} {s : Str} {neg sl : Bool} {na db : Option Nat} {o7 : Option D} (hs : decide (s = "/") = sl)
    (hp : ∀ p, resOf neg sl na db = some p → N.rt (fr p) h) (hx : resOf neg sl na db = none → px "InvalidFraction" [("word", .str "invalidfraction")] h) :
    t2 px N [o0, some (.bl neg), o2, some (.str s), o4, some (dn na), some (dn db), o7] h := by
  refine ⟨_, rfl, _, un_isN rfl, _, rfl, ?_⟩
  cases na with
  | none => exact iteT (hx rfl)
  | some n =>
    refine iteF ?_
    refine ⟨_, rfl, _, un_isN rfl, _, rfl, ?_⟩
    cases db with
    | none => exact iteT (hx rfl)
    | some d =>
      refine iteF ?_
      refine ⟨_, rfl, _, rfl, ?_⟩
      have tail : (neg && decide ((n : Int) = 0)) = false → (sSeq (sSet 7 (gTup (aCons (gIf (gB (gVar 1)) (gUn RNeg (gVar 5)) (gVar 5)) (aCons (gVar 6) aNil)))) (t3 px)) N [o0, some (.bl neg), o2, some (.str s), o4, some (.int (n : Nat)), some (.int (d : Nat)), o7] h := fun hn => by
        have e : resOf neg sl (some n) (some d) = mkR neg n d sl := rfl
        rw [e, mk_eq hn] at hp hx
        refine ⟨_, rfl, _, rfl, ?_⟩
        cases neg with
        | true =>
          refine iteT ⟨_, rfl, _, rfl, _, rfl, two_le, ?_⟩
          exact t3_ok (q := -(n : Int)) hs (fun c => hp _ (if_pos c)) (fun c => hx (if_neg (by rw [show (if true = true then -(n : Int) else n) = -(n : Int) from rfl, c]; exact Bool.false_ne_true)))
        | false =>
          refine iteF ⟨_, rfl, _, rfl, two_le, ?_⟩
          exact t3_ok (q := (n : Int)) hs (fun c => hp _ (if_pos c)) (fun c => hx (if_neg (by rw [show (if false = true then -(n : Int) else (n : Int)) = (n : Int) from rfl, c]; exact Bool.false_ne_true)))
      cases neg with
      | false => exact iteF (iteF (tail rfl))
      | true =>
        refine iteT ⟨_, rfl, _, rfl, _, rfl, ?_⟩
        refine ite2 (fun c => ?_) (fun c => ?_)
        · refine hx ?_
          show mkR true n d sl = none
          unfold mkR
          rw [show decide ((n : Int) = 0) = true from c]
          have : (!true || !true) = false := rfl
          rw [this, Bool.and_false, Bool.and_false]
          rfl
        · exact tail (by rw [Bool.true_and]; exact Bool.eq_false_iff.mpr c)
theorem body_cut (x : Str) : bodyOf x = cutS x (some (if isNeg x = true then 1 else 0)) none := by
  unfold bodyOf
  cases isNeg x with
  | true => rfl
  | false => exact (cut0 x).symm
theorem sz1 {n : Nat} (h : n ≤ 1000) : n ≤ sizeLine := Nat.le_of_lt (small1000 h)
theorem res_rat {x : Str} : (∀ a, Txt.split (bodyOf x) "/" = [a] → ratIn x = resOf (isNeg x) false (whole a) (some 1)) ∧ (∀ a b, Txt.split (bodyOf x) "/" = [a, b] → ratIn x = resOf (isNeg x) true (whole a) (whole b)) ∧ (2 < (Txt.split (bodyOf x) "/").length → ratIn x = none) := by
  refine ⟨fun a e => ?_, fun a b e => ?_, fun e => ?_⟩
  · unfold ratIn
    rw [e]
    show (match [whole a] with | [some n] => mkR (isNeg x) n 1 false | [some n, some d] => mkR (isNeg x) n d true | _ => none) = _
    cases whole a <;> rfl
  · unfold ratIn
    rw [e]
    show (match [whole a, whole b] with | [some n] => mkR (isNeg x) n 1 false | [some n, some d] => mkR (isNeg x) n d true | _ => none) = _
    cases whole a <;> cases whole b <;> rfl
  · unfold ratIn
    match q : Txt.split (bodyOf x) "/", e with
    | a :: b :: c :: r, _ =>
      show (match whole a :: whole b :: whole c :: r.map whole with | [some n] => mkR (isNeg x) n 1 false | [some n, some d] => mkR (isNeg x) n d true | _ => none) = none
      cases whole a <;> cases whole b <;> rfl
theorem pure_parse_ratio (ds : List D) (h : GH) (P : GP) (px : GX) (hs : S_parse_ratio ds h P px) : g_parse_ratio px { nx := fun _ h' => P .non h', rt := P } (startG ["text", "minus", "above", "slash", "below", "numerator", "denominator", "part"] ds) h := by
  obtain ⟨x, rfl, hz, hp, hx⟩ := hs
  obtain ⟨r1, r2, r3⟩ := res_rat (x := x)
  have bl := body_len x
  refine ⟨_, rfl, x, rfl, .bl (isNeg x), ⟨_, rfl, by rw [starts_neg]⟩, ?_⟩
  refine ⟨_, rfl, _, rfl, _, ⟨_, rfl, rfl⟩, _, rfl, .str (bodyOf x), ⟨sz1 hz, congrArg D.str (body_cut x)⟩, bodyOf x, rfl, ?_⟩
  have go : ∀ a s b : Str, Txt.partition (bodyOf x) "/" = (a, s, b) → a.length ≤ 1000 → b.length ≤ 1000 → (∀ p, resOf (isNeg x) (decide (s = "/")) (whole a) (if decide (s = "/") = true then whole b else some 1) = some p → P (fr p) h) → (resOf (isNeg x) (decide (s = "/")) (whole a) (if decide (s = "/") = true then whole b else some 1) = none → px "InvalidFraction" [("word", .str "invalidfraction")] h) →
      ∃ c, RPart h (bodyOf x) (.str "/") c ∧ tgTup 3 (tgCons (tgName 2) (tgCons (tgName 3) (tgCons (tgName 4) tgNil))) c [some (.str x), some (.bl (isNeg x)), none, none, none, none, none, none] h (fun s h => (sSeq (sSet 5 (gCall S_whole_number (aCons (gVar 2) aNil)))
 (sSeq (sSet 6 (gIf (gB (gBin (REq false) (gVar 3) (gC (.str "/")))) (gCall S_whole_number (aCons (gVar 4) aNil)) (gC (.int 1))))
 (t2 px))) { nx := fun _ h' => P .non h', rt := P } s h) := fun a s b hpt ha hb hp hx => by
    refine ⟨.tup [.str a, .str s, .str b], ⟨_, rfl, rfl, sz1 (by omega), by rw [hpt]⟩, _, rfl, rfl, _, _, rfl, _, _, rfl, _, _, rfl, rfl, ?_⟩
    refine ⟨_, rfl, a, rfl, sz1 ha, ?_⟩
    rw [wn_dn]
    refine ⟨_, rfl, _, rfl, _, rfl, ?_⟩
    refine ite2 (fun c => ?_) (fun c => ?_)
    · refine ⟨_, rfl, b, rfl, sz1 hb, ?_⟩
      rw [wn_dn]
      have c' : decide (s = ("/" : Str)) = true := c
      rw [c', if_pos rfl] at hp hx
      exact t2_ok (N := { nx := fun _ h' => P .non h', rt := P }) c' hp hx
    · have c' : decide (s = ("/" : Str)) = false := Bool.eq_false_iff.mpr c
      rw [c', if_neg Bool.false_ne_true] at hp hx
      exact t2_ok (N := { nx := fun _ h' => P .non h', rt := P }) (db := some 1) c' hp hx
  rcases part_cases (bodyOf x) with ⟨h1, h2, h3⟩ | ⟨a, b, h1, l1, l2, h3⟩ | ⟨a, b, h1, l1, l2, h3, h4⟩
  · have q := r1 _ h2
    rw [q] at hp hx
    exact go _ _ _ h3 (by omega) (by decide) hp hx
  · have q := r2 _ _ h3
    rw [q] at hp hx
    exact go _ _ _ h1 (by omega) (by omega) hp hx
  · have q := r3 h4
    have e : resOf (isNeg x) (decide ((("/" : Str)) = "/")) (whole a) (if decide ((("/" : Str)) = "/") = true then whole b else some 1) = none := by
      rw [decide_eq_true rfl, if_pos rfl, h3]
      cases whole a <;> rfl
    refine go _ _ _ h1 (by omega) (by omega) (fun p z => ?_) (fun _ => hx q)
    rw [e] at z
    cases z
end K04

set_option maxHeartbeats 2000000
namespace K04
open PySem L2 Gh
open TL (tl)
theorem iteT' {c : Prop} [Decidable c] {a b : Prop} (hc : c) (h : a) : if c then a else b := by rw [if_pos hc]; exact h
theorem iteF' {c : Prop} [Decidable c] {a b : Prop} (hc : ¬ c) (h : b) : if c then a else b := by rw [if_neg hc]; exact h
def S_law_is_ratio : GSpec := fun ds h P => ∃ a b : Int, ds = [.tup [.int a, .int b]] ∧ P (.bl (isFr a b)) h
def g_law_is_ratio : gTS := (sRet (gAndV (gCB RIsi (aCons (gVar 0) (aCons (gC (.ty "tuple")) aNil))) (gAndV (gBin (REq false) (gCB RLen (aCons (gVar 0) aNil)) (gC (.int 2))) (gAndV (gBin (RCmp fun i j => decide (j < i)) (gBin RIx (gVar 0) (gC (.int 1))) (gC (.int 0))) (gBin (REq false) (gCall S_law_gcd (aCons (gBin RIx (gVar 0) (gC (.int 0))) (aCons (gBin RIx (gVar 0) (gC (.int 1))) aNil))) (gC (.int 1)))))))
theorem len_law_is_ratio (ds : List D) (h : GH) (P : GP) (hs : S_law_is_ratio ds h P) : ds.length = 1 := by obtain ⟨a, b, rfl, _⟩ := hs; rfl
theorem pure_law_is_ratio (ds : List D) (h : GH) (P : GP) (hs : S_law_is_ratio ds h P) : g_law_is_ratio { nx := fun _ h' => P .non h', rt := P } (startG ["_law_p"] ds) h := by
  obtain ⟨a, b, rfl, hp⟩ := hs
  refine ⟨_, rfl, _, isi_of rfl rfl kt4, _, rfl, iteT ?_⟩
  refine ⟨_, rfl, _, ⟨_, rfl, rfl⟩, _, rfl, _, rfl, iteT ?_⟩
  refine ⟨_, rfl, _, ix1 (p := (a, b)), _, rfl, _, rfl, ite2 (fun c => ?_) (fun c => ?_)⟩
  · refine ⟨_, rfl, _, ix0 (p := (a, b)), _, rfl, _, ix1 (p := (a, b)), a, b, rfl, _, rfl, .inl ?_⟩
    have e : isFr a b = decide (((Int.gcd a b : Nat) : Int) = 1) := by unfold isFr; rw [show decide (0 < b) = true from c]; rfl
    rw [e] at hp
    exact hp
  · have e : isFr a b = false := by
      unfold isFr
      rw [Bool.and_eq_false_iff]
      exact .inl (Bool.eq_false_iff.mpr c)
    rw [e] at hp
    exact .inl hp
def drat : Option (Int × Int) → D
  | some p => fr p
  | none => .non
def S_law_ratio_in : GSpec := fun ds h P => ∃ x : Str, ds = [.str x] ∧ x.length ≤ 1000 ∧ P (drat (ratIn x)) h
theorem len_law_ratio_in (ds : List D) (h : GH) (P : GP) (hs : S_law_ratio_in ds h P) : ds.length = 1 := by obtain ⟨x, rfl, _⟩ := hs; rfl
def u4 : gTS := (sSeq (sSet 4 (gAndV (gCall S_law_is_ratio (aCons (gVar 3) aNil)) (gAndV (gOrV (gBin (REq false) (gCB RLen (aCons (gVar 2) aNil)) (gC (.int 1))) (gBin (RCmp fun i j => decide (j < i)) (gBin RIx (gVar 3) (gC (.int 1))) (gC (.int 1)))) (gOrV (gBin (REq false) (gVar 1) (gVar 0)) (gBin (REq true) (gBin RIx (gVar 3) (gC (.int 0))) (gC (.int 0)))))))
 (sRet (gIf (gB (gVar 4)) (gVar 3) (gC .non))))
def u3 : gTS := (sSeq (sIf (gB (gBin (REq true) (gVar 1) (gVar 0)))
  (sSet 3 (gCall S_negative (aCons (gVar 3) aNil)))
  sNext)
 u4)
def g_law_ratio_in : gTS := (sSeq (sSet 1 (gIf (gB (gBin (REq false) (gSl (gVar 0) gNoPart (gPart (gC (.int 1)))) (gC (.str "-")))) (gSl (gVar 0) (gPart (gC (.int 1))) gNoPart) (gVar 0)))
 (sSeq (sSet 2 (gFr (fSplit (gVar 1) (gC (.str "/")))))
 (sSeq (sIf (gOr (gB (gBin (RCmp fun i j => decide (j < i)) (gCB RLen (aCons (gVar 2) aNil)) (gC (.int 2)))) (gNot (gB (gCB (RAll false) (aCons (gFr (fLc (iSeq (gVar 2)) (tgName 5) gYes (gCall S_law_digits (aCons (gVar 5) aNil)) [5])) aNil)))))
  (sRet (gC .non))
  sNext)
 (sSeq (sSet 3 (gTup (aCons (gCB RInt (aCons (gBin RIx (gVar 2) (gC (.int 0))) aNil)) (aCons (gIf (gB (gBin (REq false) (gCB RLen (aCons (gVar 2) aNil)) (gC (.int 2)))) (gCB RInt (aCons (gBin RIx (gVar 2) (gC (.int 1))) aNil)) (gC (.int 1))) aNil))))
 u3))))
theorem u4_ok {h : GH} {N : GEnds} {x B : Str} {ps : List Str} {sl neg : Bool} {q : Int} {d : Nat} {o4 o5 : Option D} (hl : decide (((ps.map D.str).length : Int) = 1) = !sl) (hB : decide (B = x) = !neg)
    (hp : N.rt (drat (if (isFr q d && ((!sl || decide (1 < (d : Int))) && (!neg || !decide (q = 0)))) = true then some (q, (d : Int)) else none)) h) :
    u4 N [some (.str x), some (.str B), some (.lst (ps.map .str)), some (.tup [.int q, .int (d : Nat)]), o4, o5] h := by
  have fin : ∀ (g : Bool) (o4 : Option D), g = (isFr q d && ((!sl || decide (1 < (d : Int))) && (!neg || !decide (q = 0)))) → sRet (gIf (gB (gVar 4)) (gVar 3) (gC .non)) N [some (.str x), some (.str B), some (.lst (ps.map .str)), some (.tup [.int q, .int (d : Nat)]), some (.bl g), o5] h := fun g o4 e => by
    rw [← e] at hp
    refine ⟨_, rfl, _, rfl, ?_⟩
    refine ite2 (fun c => ?_) (fun c => ?_)
    · rw [if_pos c] at hp
      exact ⟨_, rfl, .inl hp⟩
    · rw [if_neg c] at hp
      exact .inl hp
  refine ⟨_, rfl, q, d, rfl, _, rfl, ?_⟩
  refine ite2 (fun c1 => ?_) (fun c1 => ?_)
  case _ =>
    have third : ∀ sl', sl' = (!sl || decide (1 < (d : Int))) → ∃ c, D.bl sl' = .bl c ∧ if c = true then (gOrV (gBin (REq false) (gVar 1) (gVar 0)) (gBin (REq true) (gBin RIx (gVar 3) (gC (.int 0))) (gC (.int 0)))) [some (.str x), some (.str B), some (.lst (ps.map .str)), some (.tup [.int q, .int (d : Nat)]), o4, o5] h (fun a h1 => sRet (gIf (gB (gVar 4)) (gVar 3) (gC .non)) N [some (.str x), some (.str B), some (.lst (ps.map .str)), some (.tup [.int q, .int (d : Nat)]), some a, o5] h1) else sRet (gIf (gB (gVar 4)) (gVar 3) (gC .non)) N [some (.str x), some (.str B), some (.lst (ps.map .str)), some (.tup [.int q, .int (d : Nat)]), some (.bl false), o5] h := fun sl' e => by
      refine ⟨_, rfl, ?_⟩
      refine ite2 (fun c2 => ?_) (fun c2 => ?_)
      · refine ⟨_, rfl, _, rfl, _, rfl, _, rfl, ?_⟩
        refine ite2 (fun c3 => ?_) (fun c3 => ?_)
        · have : neg = false := by
            have z : decide (B = x) = true := c3
            rw [hB] at z
            cases neg
            · rfl
            · cases z
          exact fin true none (by rw [c1, ← e, c2, this]; rfl)
        · have : neg = true := by
            have z : decide (B = x) = false := Bool.eq_false_iff.mpr c3
            rw [hB] at z
            cases neg
            · cases z
            · rfl
          refine ⟨_, rfl, _, ix0 (p := (q, (d : Int))), _, rfl, ?_⟩
          exact fin _ none (by rw [c1, ← e, c2, this]; rfl)
      · exact fin false none (by rw [c1, ← e, Bool.eq_false_iff.mpr c2]; rfl)
    refine ⟨_, rfl, _, ⟨_, rfl, rfl⟩, _, rfl, _, rfl, ?_⟩
    refine ite2 (fun c2 => ?_) (fun c2 => ?_)
    · exact third true (by rw [← hl]; rw [show decide (((ps.map D.str).length : Int) = 1) = true from c2]; rfl)
    · refine ⟨_, rfl, _, ix1 (p := (q, (d : Int))), _, rfl, ?_⟩
      exact third _ (by rw [← hl]; rw [show decide (((ps.map D.str).length : Int) = 1) = false from Bool.eq_false_iff.mpr c2]; rfl)
  case _ =>
    exact fin false none (by rw [Bool.eq_false_iff.mpr c1]; rfl)
theorem u3_ok {h : GH} {N : GEnds} {x B : Str} {ps : List Str} {sl neg : Bool} {n d : Nat} {o4 o5 : Option D} (hl : decide (((ps.map D.str).length : Int) = 1) = !sl) (hB : decide (B = x) = !neg)
    (hp : N.rt (drat (mkR neg n d sl)) h) :
    u3 N [some (.str x), some (.str B), some (.lst (ps.map .str)), some (.tup [.int (n : Nat), .int (d : Nat)]), o4, o5] h := by
  refine ⟨_, rfl, _, rfl, _, rfl, _, rfl, ?_⟩
  unfold mkR at hp
  refine ite2 (fun c => ?_) (fun c => ?_)
  · have e : neg = true := by
      have z : (!decide (B = x)) = true := c
      rw [hB] at z
      cases neg
      · cases z
      · rfl
    subst e
    refine ⟨_, rfl, ((n : Int), (d : Int)), rfl, ?_⟩
    refine u4_ok (q := -(n : Int)) hl hB ?_
    have e2 : decide (-(n : Int) = 0) = decide ((n : Int) = 0) := by congr 1; exact propext ⟨fun z => by omega, fun z => by omega⟩
    rw [e2]
    exact hp
  · have e : neg = false := by
      have z : (!decide (B = x)) = false := Bool.eq_false_iff.mpr c
      rw [hB] at z
      cases neg
      · rfl
      · cases z
    subst e
    exact u4_ok (q := (n : Int)) hl hB hp
theorem pure_law_ratio_in (ds : List D) (h : GH) (P : GP) (hs : S_law_ratio_in ds h P) : g_law_ratio_in { nx := fun _ h' => P .non h', rt := P } (startG ["_law_text", "_law_body", "_law_parts", "_law_found", "_law_good", "_law_part"] ds) h := by
  obtain ⟨x, rfl, hz, hp⟩ := hs
  obtain ⟨r1, r2, r3⟩ := res_rat (x := x)
  have bl := body_len x
  have rest : ∀ o5 : Option D, (sSeq (sSet 2 (gFr (fSplit (gVar 1) (gC (.str "/")))))
 (sSeq (sIf (gOr (gB (gBin (RCmp fun i j => decide (j < i)) (gCB RLen (aCons (gVar 2) aNil)) (gC (.int 2)))) (gNot (gB (gCB (RAll false) (aCons (gFr (fLc (iSeq (gVar 2)) (tgName 5) gYes (gCall S_law_digits (aCons (gVar 5) aNil)) [5])) aNil)))))
  (sRet (gC .non))
  sNext)
 (sSeq (sSet 3 (gTup (aCons (gCB RInt (aCons (gBin RIx (gVar 2) (gC (.int 0))) aNil)) (aCons (gIf (gB (gBin (REq false) (gCB RLen (aCons (gVar 2) aNil)) (gC (.int 2)))) (gCB RInt (aCons (gBin RIx (gVar 2) (gC (.int 1))) aNil)) (gC (.int 1))) aNil))))
 u3))) { nx := fun _ h' => P .non h', rt := P } [some (.str x), some (.str (bodyOf x)), none, none, none, o5] h := fun o5 => by
    refine ⟨_, rfl, _, rfl, _, rfl, rfl, Nat.le_trans (show (bodyOf x).length + 2 ≤ 1002 by omega) (by decide), ?_⟩
    obtain ⟨hne, hsh⟩ := split_parts (bodyOf x) "/"
    have hlen := PyProof.Rows.split_le (bodyOf x) "/"
    generalize hps : Txt.split (bodyOf x) "/" = ps at r1 r2 r3 hne hsh hlen
    refine ⟨_, rfl, _, ⟨_, rfl, rfl⟩, _, rfl, _, rfl, ?_⟩
    refine ite2 (fun c => ?_) (fun c => ?_)
    · refine iteT ?_
      have c' : (2 : Int) < ((ps.map D.str).length : Nat) := of_decide_eq_true c
      rw [List.length_map] at c'
      rw [r3 (by omega)] at hp
      exact .inl hp
    have c' : ps.length ≤ 2 := by
      have : ¬ (2 : Int) < ((ps.map D.str).length : Nat) := fun z => c (decide_eq_true z)
      rw [List.length_map] at this
      omega
    refine ⟨_, rfl, fun p hp1 => ?_⟩
    refine lc_map D.str (fun a => .bl (whole a).isSome) hp1 ps (sz1 (by omega)) (fun a ha acc Q hq => ⟨_, rfl, a, rfl, sz1 (by have := hsh a ha; omega), hq⟩) ?_
    refine ⟨_, all_of _ _, _, rfl, ?_⟩
    match ps, c', hne, r1, r2, hsh with
    | [a], _, _, r1, _, hsh =>
      have q := r1 a rfl
      rw [q] at hp
      cases hw : whole a with
      | none =>
        rw [hw] at hp
        refine iteT' ?_ (.inl hp)
        show (!([a].all fun a => (whole a).isSome)) = true
        show (!((whole a).isSome && true)) = true
        rw [hw]; rfl
      | some n =>
        rw [hw] at hp
        refine iteF' ?_ ?_
        · show ¬ (!((whole a).isSome && true)) = true
          rw [hw]; intro z; cases z
        refine ⟨_, rfl, _, ix_of (.inl rfl) (atI_nat (j := 0) rfl), _, whole_int hw _, ?_⟩
        refine ⟨_, rfl, _, ⟨_, rfl, rfl⟩, _, rfl, _, rfl, iteF (?_)⟩
        refine ⟨two_le, ?_⟩
        exact u3_ok (N := { nx := fun _ h' => P .non h', rt := P }) (ps := [a]) (sl := false) (d := 1) rfl (body_ne x) hp
    | [a, b], _, _, _, r2, hsh =>
      have q := r2 a b rfl
      rw [q] at hp
      cases hw : whole a with
      | none =>
        rw [hw] at hp
        refine iteT' ?_ (.inl hp)
        show (!((whole a).isSome && ((whole b).isSome && true))) = true
        rw [hw]; rfl
      | some n =>
        cases hv : whole b with
        | none =>
          rw [hw, hv] at hp
          refine iteT' ?_ (.inl hp)
          show (!((whole a).isSome && ((whole b).isSome && true))) = true
          rw [hw, hv]; rfl
        | some d =>
          rw [hw, hv] at hp
          refine iteF' ?_ ?_
          · show ¬ (!((whole a).isSome && ((whole b).isSome && true))) = true
            rw [hw, hv]; intro z; cases z
          refine ⟨_, rfl, _, ix_of (.inl rfl) (atI_nat (j := 0) rfl), _, whole_int hw _, ?_⟩
          refine ⟨_, rfl, _, ⟨_, rfl, rfl⟩, _, rfl, _, rfl, iteT ?_⟩
          refine ⟨_, rfl, _, ix_of (.inl rfl) (atI_nat (j := 1) rfl), _, whole_int hv _, two_le, ?_⟩
          exact u3_ok (N := { nx := fun _ h' => P .non h', rt := P }) (ps := [a, b]) (sl := true) rfl (body_ne x) hp
  refine ⟨_, rfl, _, rfl, _, ⟨sz1 hz, rfl⟩, _, rfl, _, rfl, ?_⟩
  have fc := first_cut x
  refine ite2 (fun c => ?_) (fun c => ?_)
  · have e : isNeg x = true := fc.symm.trans c
    refine ⟨_, rfl, _, rfl, .str (bodyOf x), ⟨sz1 hz, congrArg D.str (by unfold bodyOf; rw [if_pos e])⟩, ?_⟩
    exact rest _
  · have e : isNeg x = false := fc.symm.trans (Bool.eq_false_iff.mpr c)
    have eb : bodyOf x = x := by unfold bodyOf; rw [if_neg (by rw [e]; exact Bool.false_ne_true)]
    have r := rest none
    rw [eb] at r
    exact ⟨_, rfl, r⟩
end K04

set_option maxHeartbeats 2000000
namespace K04
open PySem L2 Gh
open TL (tl numL)
abbrev st (i : Int) : Str := Str.ofString (toString i)
theorem numL_head : ∀ {n : Nat}, 1 ≤ n → (numL n).head? ≠ some 48 := by
  intro n
  induction n using Nat.strongRecOn with
  | _ n ih =>
    intro h1
    by_cases h : n < 10
    · rw [TL.numL_lt h]
      intro z
      have : 48 + n = 48 := by simpa using z
      omega
    · rw [TL.numL_step (by omega)]
      have := ih (n / 10) (by omega) (by omega)
      cases e : numL (n / 10) with
      | nil => exact absurd e (TL.numL_ne _)
      | cons c r => rw [e] at this; exact this
theorem whole_num {x : Str} {n : Nat} (h : tl x = numL n) (hn : n < 10 ^ 30) : whole x = some n := by
  have hl : x.length = (numL n).length := by rw [TL.len_tl, h]
  have l30 := TL.numL_len (k := 30) (by decide) hn
  have hx : x.cps.toList = numL n := h
  unfold whole
  rw [if_neg, if_neg]
  · rw [hx, TL.numL_val]
  · intro ⟨z1, z2⟩
    rw [hx] at z1
    by_cases h1 : 1 ≤ n
    · exact numL_head h1 z1
    · have : n = 0 := by omega
      rw [hl, this, TL.numL_lt (by decide)] at z2
      exact absurd z2 (by decide)
  · intro z
    rcases z with z | z | z
    · have : (numL n).length = 0 := hl.symm.trans z
      exact TL.numL_ne n (List.length_eq_zero_iff.mp this)
    · omega
    · rw [hx] at z
      obtain ⟨c, hc, hn⟩ := List.any_eq_true.mp z
      rw [decide_eq_true (digs_iff.mpr (TL.numL_digits n c hc))] at hn
      cases hn
theorem st_tl (i : Int) : tl (st i) = if i < 0 then 45 :: numL i.natAbs else numL i.natAbs := by
  by_cases h : i < 0
  · rw [if_pos h]
    show tl (Str.ofString (toString i)) = _
    rw [PyProof.Rows.toString_neg h, TL.tl_ofString, String.toList_append, List.map_append, ← TL.tl_ofString, ← TL.tl_ofString]
    have e : (0 - i) = ((i.natAbs : Nat) : Int) := by omega
    rw [e, TL.tl_num]
    rfl
  · rw [if_neg h]
    have e : i = ((i.natAbs : Nat) : Int) := by omega
    have := TL.tl_num i.natAbs
    rw [← e] at this
    exact this
def ratText (p : Int × Int) : Str := st p.1 ++ (if p.2 = 1 then ("" : Str) else "/" ++ st p.2)
theorem free47 (n : Nat) : 47 ∉ numL n := TL.numL_free (.inl (by decide))
theorem mk_low {p : Int × Int} (h : isLow p) {sl : Bool} (hs : sl = true → p.2 ≠ 1) : mkR (decide (p.1 < 0)) p.1.natAbs p.2.natAbs sl = some p := by
  obtain ⟨h1, h2⟩ := h
  have e1 : (if decide (p.1 < 0) = true then -((p.1.natAbs : Nat) : Int) else ((p.1.natAbs : Nat) : Int)) = p.1 := by
    by_cases c : p.1 < 0
    · rw [if_pos (decide_eq_true c)]; omega
    · rw [if_neg (fun z => c (of_decide_eq_true z))]; omega
  have e2 : ((p.2.natAbs : Nat) : Int) = p.2 := by omega
  unfold mkR
  rw [e1, e2]
  rw [if_pos]
  have f1 : isFr p.1 p.2 = true := isFr_low ⟨h1, h2⟩
  rw [f1, Bool.true_and, Bool.and_eq_true_iff]
  refine ⟨?_, ?_⟩
  · cases sl with
    | false => rfl
    | true =>
      have := hs rfl
      rw [decide_eq_true (by omega)]
      rfl
  · by_cases c : p.1 < 0
    · rw [decide_eq_true c, decide_eq_false (by omega)]; rfl
    · rw [decide_eq_false c]; rfl
theorem round_trip {p : Int × Int} (h : isLow p) (h1 : p.1.natAbs < 10 ^ 30) (h2 : p.2.natAbs < 10 ^ 30) : ratIn (ratText p) = some p := by
  obtain ⟨r1, r2, _⟩ := res_rat (x := ratText p)
  have hx : tl (ratText p) = (if p.1 < 0 then 45 :: numL p.1.natAbs else numL p.1.natAbs) ++ (if p.2 = 1 then [] else 47 :: numL p.2.natAbs) := by
    unfold ratText
    rw [TL.tl_append, st_tl]
    congr 1
    by_cases c : p.2 = 1
    · rw [if_pos c, if_pos c]; rfl
    · rw [if_neg c, if_neg c, TL.tl_append, sl_tl, st_tl, if_neg (by have := h.1; omega)]; rfl
  have hneg : isNeg (ratText p) = decide (p.1 < 0) := by
    unfold isNeg
    rw [hx]
    by_cases c : p.1 < 0
    · rw [if_pos c, decide_eq_true c]; exact decide_eq_true rfl
    · rw [if_neg c, decide_eq_false c]
      refine decide_eq_false fun z => ?_
      cases e : numL p.1.natAbs with
      | nil => exact TL.numL_ne _ e
      | cons d r =>
        rw [e] at z
        have : d = 45 := by simpa using z
        have := TL.numL_digits p.1.natAbs d (by rw [e]; exact List.mem_cons_self)
        omega
  have hb : tl (bodyOf (ratText p)) = numL p.1.natAbs ++ (if p.2 = 1 then [] else 47 :: numL p.2.natAbs) := by
    unfold bodyOf
    rw [hneg]
    by_cases c : p.1 < 0
    · rw [if_pos (decide_eq_true c), cut1_tl, hx, if_pos c]; rfl
    · rw [if_neg (fun z => c (of_decide_eq_true z)), hx, if_neg c]
  by_cases c : p.2 = 1
  · rw [if_pos c, List.append_nil] at hb
    have hs : Txt.split (bodyOf (ratText p)) "/" = [bodyOf (ratText p)] := by
      rcases cut_cases (bodyOf (ratText p)) with ⟨_, z⟩ | ⟨a, b, e, _⟩ | ⟨a, b, e, _⟩
      · exact z
      · exfalso
        have := congrArg tl e
        rw [hb, TL.tl_append, TL.tl_append, sl_tl] at this
        exact free47 p.1.natAbs (by rw [this]; simp)
      · exfalso
        have := congrArg tl e
        rw [hb, TL.tl_append, TL.tl_append, sl_tl] at this
        exact free47 p.1.natAbs (by rw [this]; simp)
    rw [r1 _ hs, whole_num hb h1, hneg]
    have := mk_low h (sl := false) (fun z => by cases z)
    rw [c] at this
    exact this
  · rw [if_neg c] at hb
    have e : bodyOf (ratText p) = Txt.join "/" [⟨(numL p.1.natAbs).toArray⟩, ⟨(numL p.2.natAbs).toArray⟩] := by
      refine TL.ext_tl ?_
      rw [hb, TL.join_eq]
      show _ = tl (⟨(numL p.1.natAbs).toArray⟩ ++ "/" ++ ⟨(numL p.2.natAbs).toArray⟩)
      rw [TL.tl_append, TL.tl_append, sl_tl]
      simp [tl]
    have hs : Txt.split (bodyOf (ratText p)) "/" = [⟨(numL p.1.natAbs).toArray⟩, ⟨(numL p.2.natAbs).toArray⟩] := by
      rw [e]
      refine TL.split_join sl_tl (by decide +kernel) (by simp) (mem2 (free47 _) (free47 _))
    rw [r2 _ _ hs, whole_num (TL.tl_mk _) h1, whole_num (TL.tl_mk _) h2, hneg]
    exact mk_low h (fun _ => c)
theorem st_len {i : Int} (h : i.natAbs < 10 ^ 18) : (st i).length ≤ 19 := by
  rw [TL.len_tl, st_tl]
  have := TL.numL_len (k := 18) (by decide) h
  split
  · rw [List.length_cons]; omega
  · omega
theorem rat_len {p : Int × Int} (h1 : p.1.natAbs < 10 ^ 18) (h2 : p.2.natAbs < 10 ^ 18) : (ratText p).length ≤ 39 := by
  unfold ratText
  have a1 := st_len h1
  have a2 := st_len h2
  rw [app_len]
  split
  · have : (("" : Str)).length = 0 := by decide
    omega
  · rw [app_len]
    have : (("/" : Str)).length = 1 := by decide +kernel
    omega
theorem cut_len (x : Str) (lo hi : Option Int) : (cutS x lo hi).length ≤ x.length := by
  rw [TL.len_tl, TL.len_tl x]
  show (((x.cps.toList.drop _).take _).length) ≤ x.cps.toList.length
  rw [List.length_take, List.length_drop]
  omega
end K04

set_option maxHeartbeats 2000000
namespace K04
open PySem L2 Gh
open TL (tl numL)
def Rb (p : Int × Int) : Prop := p.1.natAbs < 10 ^ 18 ∧ p.2.natAbs < 10 ^ 18
theorem Rb.l1 {p : Int × Int} (h : Rb p) : p.1.natAbs.log2 < 1920 := log2_of (Nat.lt_trans h.1 (by decide)) (by decide)
theorem Rb.l2 {p : Int × Int} (h : Rb p) : p.2.natAbs.log2 < 1920 := log2_of (Nat.lt_trans h.2 (by decide)) (by decide)
def S_ratio_text : GSpec := fun ds h P => ∃ p, ds = [fr p] ∧ Rb p ∧ P (.str (ratText p)) h
theorem len_ratio_text (ds : List D) (h : GH) (P : GP) (hs : S_ratio_text ds h P) : ds.length = 1 := by obtain ⟨p, rfl, _⟩ := hs; rfl
def g_ratio_text : gTS := (sSeq (sIf (gB (gBin (REq false) (gBin RIx (gVar 0) (gC (.int 1))) (gC (.int 1))))
  (sRet (gCB RStr (aCons (gBin RIx (gVar 0) (gC (.int 0))) aNil)))
  sNext)
 (sRet (gJoined ((gFmt (gBin RIx (gVar 0) (gC (.int 0)))) :: ((gC (.str "/")) :: ((gFmt (gBin RIx (gVar 0) (gC (.int 1)))) :: []))))))
theorem emp (x : Str) : x ++ ("" : Str) = x := by
  refine TL.ext_tl ?_
  rw [TL.tl_append]
  show tl x ++ [] = tl x
  rw [List.append_nil]
theorem emp' (x : Str) : Str.empty ++ x = x := by
  refine TL.ext_tl ?_
  rw [TL.tl_append]
  rfl
theorem assoc (x y z : Str) : x ++ y ++ z = x ++ (y ++ z) := by
  refine TL.ext_tl ?_
  rw [TL.tl_append, TL.tl_append, TL.tl_append, TL.tl_append, List.append_assoc]
theorem one_len : (("/" : Str)).length = 1 := by decide +kernel
theorem pure_ratio_text (ds : List D) (h : GH) (P : GP) (hs : S_ratio_text ds h P) : g_ratio_text { nx := fun _ h' => P .non h', rt := P } (startG ["part"] ds) h := by
  obtain ⟨p, rfl, hb, hp⟩ := hs
  have a1 := st_len hb.1
  have a2 := st_len hb.2
  unfold ratText at hp
  refine ⟨_, rfl, _, ix1, _, rfl, _, rfl, ite2 (fun c => ?_) (fun c => ?_)⟩
  · rw [if_pos (of_decide_eq_true c), emp] at hp
    exact ⟨_, rfl, _, ix0, _, ⟨_, rfl, hb.l1, rfl⟩, .inl hp⟩
  · rw [if_neg (fun z => c (decide_eq_true z))] at hp
    refine ⟨_, rfl, _, ix0, .inr ⟨_, rfl, hb.l1, _, rfl, ?_, ?_⟩⟩
    · rw [emp']; exact sz1 (by show (st p.1).length ≤ 1000; omega)
    rw [emp']
    refine ⟨_, rfl, ?_, ?_⟩
    · rw [app_len, one_len]; exact sz1 (by show (st p.1).length + 1 ≤ 1000; omega)
    refine ⟨_, rfl, _, ix1, .inr ⟨_, rfl, hb.l2, _, rfl, ?_, ?_⟩⟩
    · rw [app_len, app_len, one_len]; exact sz1 (by show (st p.1).length + 1 + (st p.2).length ≤ 1000; omega)
    rw [assoc]
    exact .inl hp
def b1 : gTS := (sSeq (sSet 4 (gCall S_law_ratio (aCons (gVar 1) (aCons (gCall S_law_of (aCons (gVar 1) (aCons (gFr (fLst (aCons (gC (.int 9)) (aCons (gBin RPow (gC (.int 10)) (gC (.int 6))) (aCons (gBin RPow (gC (.int 10)) (gC (.int 14))) aNil))))) aNil))) aNil))))
 (sSeq (sSet 5 (gBin RAdd (gCB RStr (aCons (gBin RIx (gVar 4) (gC (.int 0))) aNil)) (gIf (gB (gBin (REq false) (gBin RIx (gVar 4) (gC (.int 1))) (gC (.int 1)))) (gC (.str "")) (gBin RAdd (gC (.str "/")) (gCB RStr (aCons (gBin RIx (gVar 4) (gC (.int 1))) aNil))))))
 (sSeq (sIf (gNot (gB (gCall (S_law_same 3) (aCons (gFr (fLst (aCons (gCall S_ratio_text (aCons (gVar 4) aNil)) (aCons (gCall (calmS S_parse_ratio) (aCons (gVar 5) aNil)) aNil)))) (aCons (gFr (fLst (aCons (gVar 5) (aCons (gVar 4) aNil)))) aNil)))))
  (sRetX (gC (.bl false)))
  sNext)
 (sSeq (sSet 6 (gCall S_law_pull (aCons (gVar 1) (aCons (gBin RAdd (gCB RLen (aCons (gVar 5) aNil)) (gC (.int 1))) aNil))))
 (sSeq (sSet 7 (gCall S_law_of (aCons (gVar 1) (aCons (gFr (fLst (aCons (gC (.str "")) (aCons (gC (.str "0")) (aCons (gC (.str "1")) (aCons (gC (.str "/")) (aCons (gC (.str "-")) (aCons (gC (.str " ")) (aCons (gC (.str "a")) (aCons (gC (.str "9")) aNil)))))))))) aNil))))
 (sDrop (gMl RApp (gVar 2) (aCons (gBin RAdd (gBin RAdd (gSl (gVar 5) gNoPart (gPart (gVar 6))) (gVar 7)) (gSl (gVar 5) (gPart (gBin RAdd (gVar 6) (gCall S_law_pull (aCons (gVar 1) (aCons (gC (.int 2)) aNil))))) gNoPart)) aNil))))))))
def b2 (Pt : Addr) : gTS := (sSeq (sSet 8 (gCall S_law_ratio_in (aCons (gVar 5) aNil)))
 (sSeq (sSet 8 (gIf (gB (gUn (RIsN true) (gVar 8))) (gTup (aCons (gC (.str "")) (aCons (gVar 8) aNil))) (gTup (aCons (gC (.str "invalidfraction")) (aCons (gC .non) aNil)))))
 (sIf (gNot (gB (gCall (S_law_same 3) (aCons (gTry [(Pt, lamQ)] Cs fun px => (gCallX S_parse_ratio px (aCons (gVar 5) aNil))) (aCons (gVar 8) aNil)))))
  (sRetX (gC (.bl false)))
  sNext)))
def g_law (Pt : Addr) : gTS := (sSeq (sSet 1 (gCall S_law_bag (aCons (gVar 0) aNil)))
 (sSeq (sOwn 2 (fLst (aCons (gC (.str "")) (aCons (gC (.str "-")) (aCons (gC (.str "/")) (aCons (gC (.str "1/")) (aCons (gC (.str "/2")) (aCons (gC (.str "0")) (aCons (gC (.str "-0")) (aCons (gC (.str "0/1")) (aCons (gC (.str "0/2")) (aCons (gC (.str "2/4")) (aCons (gC (.str "3/1")) (aCons (gC (.str "01")) (aCons (gC (.str "1/02")) (aCons (gC (.str "1/2/3")) (aCons (gC (.str "--1")) (aCons (gC (.str "+1")) aNil))))))))))))))))))
 (sSeq (sOwn 2 (fAdd (gVar 2) (gFr (fLst (aCons (gC (.str "1 /2")) (aCons (gC (.str "7/7")) (aCons (gC (.str "1/2\n")) (aCons (gC (.str "7\n")) (aCons (gC (.str "\n7")) (aCons (gC (.str "-3/7\n")) aNil))))))))))
 (sSeq (sOwn 2 (fAdd (gVar 2) (gFr (fLst (aCons (gC (.str "1/-2")) (aCons (gC (.str "a")) (aCons (gC (.str "-3/7")) (aCons (gBin RMul (gC (.str "9")) (gC (.int 30))) (aCons (gBin RMul (gC (.str "9")) (gC (.int 31))) (aCons (gBin RAdd (gC (.str "1/")) (gBin RMul (gC (.str "7")) (gC (.int 30)))) (aCons (gBin RAdd (gC (.str "1/")) (gBin RMul (gC (.str "7")) (gC (.int 31)))) (aCons (gC (.str "1.5")) (aCons (gC (.str " 1")) (aCons (gC (.str "1/0")) aNil))))))))))))))
 (sSeq (sFor (iRg1 (aCons (gC (.int 8)) aNil)) (tgName 3)
  b1)
 (sSeq (sFor (iSeq (gLet (gVar 2))) (tgName 5)
  (b2 Pt))
 (sRetX (gC (.bl true)))))))))

def Txs (xs : List Str) : Prop := ∀ x ∈ xs, x.length ≤ 200
theorem turn1 {Pt b p : Addr} {h : GH} {xs : List Str} (hb : h b = some .bag) (hp : h p = some (.lst (xs.map .str))) (ht : tabs1 h Pt lamQ) (hx : Txs xs) (hl : xs.length ≤ 500) {N : GEnds} (o0 o3 o4 o5 o6 o7 o8 : Option D)
    (k : ∀ (x : Str) (o3 o4 o5 o6 o7 o8 : Option D), x.length ≤ 200 → N.nx [o0, some (.ref b), some (.ref p), o3, o4, o5, o6, o7, o8] (put h p (.lst ((xs ++ [x]).map .str)))) :
    b1 N [o0, some (.ref b), some (.ref p), o3, o4, o5, o6, o7, o8] h := by
  refine ⟨_, rfl, _, rfl, _, ⟨⟨by decide, by decide, by decide⟩, rfl⟩, _, ⟨⟨by decide, by decide, by decide⟩, rfl⟩, by show 3 ≤ sizeLine; decide, b, _, _, rfl, hb, rfl, (fun q => nomatch q), by show 3 ≤ sizeLine; decide, fun x hx' => ?_⟩
  obtain ⟨m, rfl, m0, m1⟩ : ∃ m : Int, x = .int m ∧ 0 < m ∧ m ≤ 10 ^ 14 := by
    rcases List.mem_cons.mp hx' with rfl | hx'
    · exact ⟨9, rfl, by decide, by decide⟩
    · rcases List.mem_cons.mp hx' with rfl | hx'
      · exact ⟨_, rfl, by decide, by decide⟩
      · rcases List.mem_cons.mp hx' with rfl | hx'
        · exact ⟨_, rfl, by decide, by decide⟩
        · cases hx'
  refine ⟨b, m, rfl, hb, m0, by omega, fun q lo q1 q2 => ?_⟩
  have rb : Rb q := ⟨by omega, by omega⟩
  have a1 := st_len rb.1
  have a2 := st_len rb.2
  have al := rat_len rb.1 rb.2
  have rt := round_trip lo (Nat.lt_trans rb.1 (by decide)) (Nat.lt_trans rb.2 (by decide))
  have tail : ∀ o5 : Option D, (sSeq (sIf (gNot (gB (gCall (S_law_same 3) (aCons (gFr (fLst (aCons (gCall S_ratio_text (aCons (gVar 4) aNil)) (aCons (gCall (calmS S_parse_ratio) (aCons (gVar 5) aNil)) aNil)))) (aCons (gFr (fLst (aCons (gVar 5) (aCons (gVar 4) aNil)))) aNil)))))
  (sRetX (gC (.bl false)))
  sNext)
 (sSeq (sSet 6 (gCall S_law_pull (aCons (gVar 1) (aCons (gBin RAdd (gCB RLen (aCons (gVar 5) aNil)) (gC (.int 1))) aNil))))
 (sSeq (sSet 7 (gCall S_law_of (aCons (gVar 1) (aCons (gFr (fLst (aCons (gC (.str "")) (aCons (gC (.str "0")) (aCons (gC (.str "1")) (aCons (gC (.str "/")) (aCons (gC (.str "-")) (aCons (gC (.str " ")) (aCons (gC (.str "a")) (aCons (gC (.str "9")) aNil)))))))))) aNil))))
 (sDrop (gMl RApp (gVar 2) (aCons (gBin RAdd (gBin RAdd (gSl (gVar 5) gNoPart (gPart (gVar 6))) (gVar 7)) (gSl (gVar 5) (gPart (gBin RAdd (gVar 6) (gCall S_law_pull (aCons (gVar 1) (aCons (gC (.int 2)) aNil))))) gNoPart)) aNil)))))) N [o0, some (.ref b), some (.ref p), o3, some (fr q), some (.str (ratText q)), o6, o7, o8] h := fun _ => by
    generalize hT : ratText q = T at al rt
    have t2 : (2 : Nat) ≤ sizeLine := two_le
    refine ⟨_, rfl, q, rfl, rb, ?_⟩
    rw [hT]
    refine ⟨_, rfl, T, rfl, by omega, fun q' e => ?_, fun e => by rw [rt] at e; cases e⟩
    have eq : q' = q := by rw [rt] at e; cases e; rfl
    subst eq
    refine ⟨t2, _, rfl, _, rfl, t2, ?_⟩
    refine ⟨_, _, .lst [.str T, fr q'], rfl, rfl, rfl, okD_lst t2 (mem2 (okS _ _) (okD_fr _ _)), _, rfl, iteF ?_⟩
    have e0 : ∀ n : Int, 0 ≤ n → n ≤ 2 ^ 62 → n.natAbs.log2 < 9000 := fun n a1 a2 => small_log (by omega)
    refine ⟨_, rfl, _, rfl, _, str_len (sz1 (by omega)), _, rfl, b, _, rfl, hb, by omega, e0 _ (by omega) (by omega), fun j j0 j1 => ?_⟩
    refine ⟨_, rfl, by show 8 ≤ sizeLine; decide, b, _, _, rfl, hb, rfl, (fun q => nomatch q), by show 8 ≤ sizeLine; decide, fun y hy => ?_⟩
    obtain ⟨z, rfl, z1⟩ : ∃ z : Str, y = .str z ∧ z.length ≤ 1 := by
      have : y ∈ (["", "0", "1", "/", "-", " ", "a", "9"] : List Str).map D.str := hy
      obtain ⟨z, hz, rfl⟩ := List.mem_map.mp this
      refine ⟨z, rfl, ?_⟩
      have hall : (["", "0", "1", "/", "-", " ", "a", "9"] : List Str).all (fun z => decide (z.length ≤ 1)) = true := by decide +kernel
      exact of_decide_eq_true (List.all_eq_true.mp hall z hz)
    have c1 := cut_len T none (some j)
    refine ⟨_, rfl, p, _, rfl, hp, ?_⟩
    refine ⟨_, rfl, _, rfl, _, rfl, _, ⟨sz1 (by omega), rfl⟩, _, rfl, _, ⟨sz1 (by omega), rfl⟩, ?_⟩
    refine ⟨_, rfl, _, rfl, _, rfl, b, _, rfl, hb, by decide, by decide +kernel, fun i i0 i1 => ?_⟩
    have c2 := cut_len T (some (j + i)) none
    have c3 : (cutS T none (some j) ++ z).length ≤ 100 := by rw [app_len]; omega
    refine ⟨_, rfl, _, rfl, _, ⟨sz1 (by omega), rfl⟩, _, ⟨sz1 (by omega), rfl⟩, ?_⟩
    have c4 : (cutS T none (some j) ++ z ++ cutS T (some (j + i)) none).length ≤ 200 := by rw [app_len]; omega
    refine ⟨_, _, _, hp, ⟨_, rfl, ?_, rfl, rfl⟩, ?_⟩
    · rw [List.length_map]; exact small1000 (by omega)
    · have := k (cutS T none (some j) ++ z ++ cutS T (some (j + i)) none) o3 (some (fr q')) (some (.str T)) (some (.int j)) (some (.str z)) o8 c4
      rw [List.map_append] at this
      exact this
  have fin := tail
  unfold ratText at fin
  refine ⟨_, rfl, _, ix0, _, ⟨_, rfl, rb.l1, rfl⟩, ?_⟩
  refine ⟨_, rfl, _, ix1, _, rfl, _, rfl, ite2 (fun c => ?_) (fun c => ?_)⟩
  · rw [if_pos (of_decide_eq_true c)] at fin
    refine ⟨_, ⟨sz1 (by show (st q.1).length + 0 ≤ 1000; omega), rfl⟩, fin none⟩
  · rw [if_neg (fun z => c (decide_eq_true z))] at fin
    have lq : (("/" : Str) ++ st q.2).length ≤ 20 := by rw [app_len, one_len]; omega
    refine ⟨_, rfl, _, ix1, _, ⟨_, rfl, rb.l2, rfl⟩, _, ⟨by rw [one_len]; exact sz1 (by show 1 + (st q.2).length ≤ 1000; omega), rfl⟩, _, ⟨sz1 (by show (st q.1).length + (("/" : Str) ++ st q.2).length ≤ 1000; omega), rfl⟩, fin none⟩
end K04

set_option maxHeartbeats 2000000
namespace K87
open PySem L2 Gh
open TL (tl numL)
open K04 (st ratText st_tl st_len ratIn round_trip S_parse_ratio g_parse_ratio pure_parse_ratio sz1)
/-! long numbers -/
def S_law_long_number : GSpec := fun ds h P => ∃ b : Addr, ds = [.ref b] ∧ h b = some .bag ∧ ∀ n : Int, 0 ≤ n → n < 10 ^ 30 → P (.int n) h
theorem len_law_long_number (ds : List D) (h : GH) (P : GP) (hs : S_law_long_number ds h P) : ds.length = 1 := by obtain ⟨x, rfl, _⟩ := hs; rfl
def b_long : gTS := (sSet 1 (gBin RAdd (gBin RMul (gVar 1) (gBin RPow (gC (.int 10)) (gC (.int 6)))) (gCall S_law_pull (aCons (gVar 0) (aCons (gBin RPow (gC (.int 10)) (gC (.int 6))) aNil)))))
def g_law_long_number : gTS := (sSeq (sSet 1 (gC (.int 0)))
 (sSeq (sFor (iRg1 (aCons (gBin RAdd (gC (.int 1)) (gCall S_law_pull (aCons (gVar 0) (aCons (gC (.int 5)) aNil)))) aNil)) (tgName 2)
  b_long)
 (sRet (gCall S_law_of (aCons (gVar 0) (aCons (gFr (fLst (aCons (gVar 1) (aCons (gVar 1) (aCons (gBin RSub (gBin RSub (gBin RPow (gC (.int 10)) (gC (.int 30))) (gC (.int 1))) (gCall S_law_pull (aCons (gVar 0) (aCons (gC (.int 9)) aNil)))) aNil))))) aNil))))))
theorem pow6 : ((10 : Int) ^ (6 : Int).toNat) = 1000000 := by decide
theorem long_loop {b : Addr} {h : GH} (hb : h b = some .bag) {N : GEnds} : ∀ (ds : List D) (k : Nat) (n : Int) (o2 : Option D), 0 ≤ n → n < 10 ^ (6 * k) → k + ds.length ≤ 5 →
    (∀ (n : Int) (o2 : Option D), 0 ≤ n → n < 10 ^ 30 → N.nx [some (.ref b), some (.int n), o2] h) → gLoop (tgName 2) b_long N ds [some (.ref b), some (.int n), o2] h
  | [], k, n, o2, h0, h1, hk, kk => by
    refine kk n o2 h0 (Int.lt_of_lt_of_le h1 ?_)
    rw [List.length_nil] at hk
    exact_mod_cast Nat.pow_le_pow_right (by decide) (show 6 * k ≤ 30 by omega)
  | d :: r, k, n, o2, h0, h1, hk, kk => by
    rw [List.length_cons] at hk
    refine ⟨_, rfl, _, ⟨⟨by decide, by decide, by decide⟩, rfl⟩, _, ⟨mulR (by decide) (by decide), rfl⟩, _, rfl, _, ⟨⟨by decide, by decide, by decide⟩, rfl⟩, b, _, rfl, hb, by decide, by decide +kernel, fun m m0 m1 => ?_⟩
    refine ⟨_, rfl, ?_⟩
    rw [pow6] at m1 ⊢
    have e : (10 : Int) ^ (6 * (k + 1)) = 10 ^ (6 * k) * 1000000 := by
      rw [Nat.mul_add, Int.pow_add]
      rfl
    refine long_loop hb r (k + 1) (n * 1000000 + m) _ (by omega) ?_ (by omega) kk
    rw [e]
    have : (n + 1) * 1000000 ≤ 10 ^ (6 * k) * 1000000 := Int.mul_le_mul_of_nonneg_right (by omega) (by decide)
    omega
theorem pure_law_long_number (ds : List D) (h : GH) (P : GP) (hs : S_law_long_number ds h P) : g_law_long_number { nx := fun _ h' => P .non h', rt := P } (startG ["_law_bag_here", "_law_found", "_law_step"] ds) h := by
  obtain ⟨b, rfl, hb, k⟩ := hs
  refine ⟨_, rfl, b, 5, rfl, hb, by decide, by decide +kernel, fun u u0 u1 => ?_⟩
  refine ⟨_, rfl, _, rfl, ⟨by omega, by omega⟩, ?_⟩
  refine long_loop hb _ 0 0 _ (by decide) (by decide) (by rw [rangeD_length]; omega) fun n o2 n0 n1 => ?_
  refine ⟨_, rfl, _, rfl, _, rfl, _, ⟨⟨by decide, by decide, by decide⟩, rfl⟩, _, rfl, ?_⟩
  refine ⟨_, rfl, b, 9, rfl, hb, by decide, by decide +kernel, fun v v0 v1 => ?_⟩
  refine ⟨_, rfl, by show 3 ≤ sizeLine; decide, b, _, _, rfl, hb, rfl, (fun q => nomatch q), by show 3 ≤ sizeLine; decide, fun x hx => .inl ?_⟩
  rcases List.mem_cons.mp hx with rfl | hx
  · exact k n n0 n1
  · rcases List.mem_cons.mp hx with rfl | hx
    · exact k n n0 n1
    · rcases List.mem_cons.mp hx with rfl | hx
      · have e : ((10 : Int) ^ (30 : Int).toNat) = 10 ^ 30 := rfl
        exact k _ (by rw [e]; omega) (by rw [e]; omega)
      · cases hx
end K87

set_option maxHeartbeats 2000000
namespace K87
open PySem L2 Gh
open TL (tl numL)
open K04 (st ratText st_tl st_len ratIn round_trip S_parse_ratio g_parse_ratio pure_parse_ratio sz1 emp emp' assoc one_len)
def S_ratio_text : GSpec := fun ds h P => ∃ p : Int × Int, ds = [fr p] ∧ p.1.natAbs < 10 ^ 4300 ∧ p.2.natAbs < 10 ^ 4300 ∧ P (.str (ratText p)) h
def S_law_ratio_text : GSpec := fun ds h P => ∃ p : Int × Int, ds = [fr p] ∧ p.1.natAbs < 10 ^ 30 ∧ p.2.natAbs < 10 ^ 30 ∧ P (.str (ratText p)) h
def g_ratio_text : gTS := (sSeq (sIf (gB (gBin (REq false) (gBin RIx (gVar 0) (gC (.int 1))) (gC (.int 1))))
  (sRet (gCB RStrL (aCons (gBin RIx (gVar 0) (gC (.int 0))) aNil)))
  sNext)
 (sRet (gJoined ((gFmtL (gBin RIx (gVar 0) (gC (.int 0)))) :: ((gC (.str "/")) :: ((gFmtL (gBin RIx (gVar 0) (gC (.int 1)))) :: []))))))
def g_law_ratio_text : gTS := (sRet (gBin RAdd (gCB RStr (aCons (gBin RIx (gVar 0) (gC (.int 0))) aNil)) (gIf (gB (gBin (REq false) (gBin RIx (gVar 0) (gC (.int 1))) (gC (.int 1)))) (gC (.str "")) (gBin RAdd (gC (.str "/")) (gCB RStr (aCons (gBin RIx (gVar 0) (gC (.int 1))) aNil))))))
def b3 : gTS := (sSeq (sSet 15 (gCall S_law_ratio_text (aCons (gVar 10) aNil)))
 (sIf (gNot (gB (gCall ((S_law_same 3)) (aCons (gFr (fLst (aCons (gCall S_ratio_text (aCons (gVar 10) aNil)) (aCons (gCall ((calmS S_parse_ratio)) (aCons (gVar 15) aNil)) aNil)))) (aCons (gFr (fLst (aCons (gVar 15) (aCons (gVar 10) aNil)))) aNil)))))
  (sRet (gC (.bl false)))
  sNext))
def b2 : gTS := (sSeq (sAsg (gVar 8) (tgUnl 3 (tgCons (tgName 10) (tgCons (tgName 11) (tgCons (tgName 12) tgNil)))))
 (sSeq (sSet 9 (gFr (fLst (aCons (gCall S_plus (aCons (gVar 10) (aCons (gVar 11) aNil))) (aCons (gCall S_plus (aCons (gVar 10) (aCons (gVar 11) (aCons (gVar 12) aNil)))) (aCons (gCall S_times (aCons (gVar 10) (aCons (gVar 11) aNil))) (aCons (gCall S_total (aCons (gVar 8) aNil)) (aCons (gCall S_negative (aCons (gVar 11) aNil)) (aCons (gCall S_order (aCons (gVar 10) (aCons (gVar 12) aNil))) aNil)))))))))
 (sSeq (sSet 13 (gBin RSub (gCB RInt (aCons (gCall S_law_less (aCons (gVar 12) (aCons (gVar 10) aNil))) aNil)) (gCB RInt (aCons (gCall S_law_less (aCons (gVar 10) (aCons (gVar 12) aNil))) aNil))))
 (sSeq (sSet 14 (gFr (fLst (aCons (gCall S_law_add (aCons (gVar 10) (aCons (gVar 11) aNil))) (aCons (gCall S_total (aCons (gVar 8) aNil)) (aCons (gCall S_law_mul (aCons (gVar 10) (aCons (gVar 11) aNil))) (aCons (gCall S_total (aCons (gVar 8) aNil)) (aCons (gCall S_negative (aCons (gVar 11) aNil)) (aCons (gVar 13) aNil)))))))))
 (sSeq (sIf (gNot (gB (gCall ((S_law_same 3)) (aCons (gBin RAdd (gVar 9) (gFr (fLst (aCons (gCall S_order (aCons (gVar 12) (aCons (gVar 10) aNil))) (aCons (gCall S_order (aCons (gVar 11) (aCons (gVar 11) aNil))) aNil))))) (aCons (gBin RAdd (gVar 14) (gFr (fLst (aCons (gBin RSub (gC (.int 0)) (gVar 13)) (aCons (gC (.int 0)) aNil))))) aNil)))))
  (sRet (gC (.bl false)))
  sNext)
 b3)))))
def b_law : gTS := (sSeq (sAsg (gFr (fLc (iRg1 (aCons (gC (.int 3)) aNil)) (tgName 16) gYes (gCall S_law_long_number (aCons (gVar 1) aNil)) [16])) (tgUnl 3 (tgCons (tgName 3) (tgCons (tgName 4) (tgCons (tgName 5) tgNil)))))
 (sSeq (sSet 6 (gFr (fLc (iRg1 (aCons (gC (.int 3)) aNil)) (tgName 16) gYes (gCB RMax (aCons (gC (.int 1)) (aCons (gCall S_law_long_number (aCons (gVar 1) aNil)) aNil))) [16])))
 (sSeq (sSet 7 (gFr (fLst (aCons (gTup (aCons (gVar 3) (aCons (gBin RIx (gVar 6) (gC (.int 0))) aNil))) (aCons (gTup (aCons (gBin RSub (gC (.int 0)) (gVar 4)) (aCons (gBin RIx (gVar 6) (gC (.int 1))) aNil))) (aCons (gTup (aCons (gCB RMin (aCons (gBin RAdd (gVar 3) (gCall S_law_pull (aCons (gVar 1) (aCons (gC (.int 3)) aNil)))) (aCons (gBin RSub (gBin RPow (gC (.int 10)) (gC (.int 30))) (gC (.int 1))) aNil))) (aCons (gBin RIx (gVar 6) (gC (.int 0))) aNil))) aNil))))))
 (sSeq (sSet 8 (gFr (fLc (iSeq (gVar 7)) (tgName 17) gYes (gCall S_law_low (aCons (gBin RIx (gVar 17) (gC (.int 0))) (aCons (gBin RIx (gVar 17) (gC (.int 1))) aNil))) [17])))
 (sSeq (sSet 9 (gBin RAdd (gFr (fLc (iSeq (gVar 7)) (tgName 17) gYes (gCall S_reduced (aCons (gBin RIx (gVar 17) (gC (.int 0))) (aCons (gBin RIx (gVar 17) (gC (.int 1))) aNil))) [17])) (gFr (fLst (aCons (gCall S_reduced (aCons (gBin RSub (gC (.int 0)) (gVar 5)) (aCons (gBin RSub (gC (.int 0)) (gBin RIx (gVar 6) (gC (.int 2)))) aNil))) aNil)))))
 (sSeq (sIf (gNot (gB (gCall ((S_law_same 3)) (aCons (gVar 9) (aCons (gBin RAdd (gVar 8) (gFr (fLst (aCons (gCall S_law_low (aCons (gVar 5) (aCons (gBin RIx (gVar 6) (gC (.int 2))) aNil))) aNil)))) aNil)))))
  (sRet (gC (.bl false)))
  sNext)
 (sSeq (sSet 9 (gFr (fLc (iSeq (gVar 7)) (tgName 17) gYes (gCall S_is_fraction (aCons (gVar 17) aNil)) [17])))
 (sSeq (sIf (gNot (gB (gCall ((S_law_same 3)) (aCons (gVar 9) (aCons (gFr (fLc (iSeq (gVar 7)) (tgName 17) gYes (gBin (REq false) (gCall S_law_gcd (aCons (gBin RIx (gVar 17) (gC (.int 0))) (aCons (gBin RIx (gVar 17) (gC (.int 1))) aNil))) (gC (.int 1))) [17])) aNil)))))
  (sRet (gC (.bl false)))
  sNext)
 b2))))))))
def g_law : gTS := (sSeq (sSet 1 (gCall S_law_bag (aCons (gVar 0) aNil)))
 (sSeq (sFor (iRg1 (aCons (gC (.int 5)) aNil)) (tgName 2)
  b_law)
 (sSeq (sSet 15 (gBin RAdd (gC (.str "1")) (gBin RMul (gC (.str "0")) (gBin RAdd (gC (.int 60)) (gCall S_law_pull (aCons (gVar 1) (aCons (gC (.int 3940)) aNil)))))))
 (sSeq (sSet 9 (gFr (fLst (aCons (gCall S_ratio_text (aCons (gTup (aCons (gCB RIntL (aCons (gVar 15) aNil)) (aCons (gC (.int 1)) aNil))) aNil)) (aCons (gCall S_ratio_text (aCons (gTup (aCons (gUn RNeg (gC (.int 1))) (aCons (gCB RIntL (aCons (gVar 15) aNil)) aNil))) aNil)) aNil)))))
 (sSeq (sIf (gNot (gB (gCall ((S_law_same 3)) (aCons (gVar 9) (aCons (gFr (fLst (aCons (gVar 15) (aCons (gBin RAdd (gC (.str "-1/")) (gVar 15)) aNil)))) aNil)))))
  (sRet (gC (.bl false)))
  sNext)
 (sRet (gCall ((S_law_same 3)) (aCons (gCall S_plus (aCons (gTup (aCons (gBin RSub (gBin RPow (gC (.int 10)) (gC (.int 30))) (gC (.int 1))) (aCons (gC (.int 1)) aNil))) (aCons (gTup (aCons (gC (.int 1)) (aCons (gBin RSub (gBin RPow (gC (.int 10)) (gC (.int 30))) (gC (.int 1))) aNil))) aNil))) (aCons (gCall S_law_add (aCons (gTup (aCons (gBin RSub (gBin RPow (gC (.int 10)) (gC (.int 30))) (gC (.int 1))) (aCons (gC (.int 1)) aNil))) (aCons (gTup (aCons (gC (.int 1)) (aCons (gBin RSub (gBin RPow (gC (.int 10)) (gC (.int 30))) (gC (.int 1))) aNil))) aNil))) aNil)))))))))
theorem ok4 {n : Nat} (h : Nat.ble n 4000 = true) : n ≤ 4000 := Nat.le_of_ble_eq_true h
theorem len_ratio_text (ds : List D) (h : GH) (P : GP) (hs : S_ratio_text ds h P) : ds.length = 1 := by obtain ⟨p, rfl, _⟩ := hs; rfl
theorem len_law_ratio_text (ds : List D) (h : GH) (P : GP) (hs : S_law_ratio_text ds h P) : ds.length = 1 := by obtain ⟨p, rfl, _⟩ := hs; rfl
theorem szL {n : Nat} (h : n ≤ 20000) : n ≤ sizeLine := Nat.le_trans h (by decide)
theorem st_lenL {i : Int} {k : Nat} (hk : 0 < k) (h : i.natAbs < 10 ^ k) : (st i).length ≤ k + 1 := by
  rw [TL.len_tl, st_tl]
  have := TL.numL_len hk h
  split
  · rw [List.length_cons]; omega
  · omega
theorem pure_ratio_text (ds : List D) (h : GH) (P : GP) (hs : S_ratio_text ds h P) : g_ratio_text { nx := fun _ h' => P .non h', rt := P } (startG ["part"] ds) h := by
  obtain ⟨p, rfl, hb1, hb2, hp⟩ := hs
  have a1 := st_lenL (by decide) hb1
  have a2 := st_lenL (by decide) hb2
  unfold ratText at hp
  refine ⟨_, rfl, _, ix1, _, rfl, _, rfl, ite2 (fun c => ?_) (fun c => ?_)⟩
  · rw [if_pos (of_decide_eq_true c), emp] at hp
    exact ⟨_, rfl, _, ix0, _, ⟨_, rfl, hb1, rfl⟩, .inl hp⟩
  · rw [if_neg (fun z => c (decide_eq_true z))] at hp
    refine ⟨_, rfl, _, ix0, _, rfl, hb1, _, rfl, ?_, ?_⟩
    · rw [emp']; exact szL (by show (st p.1).length ≤ 20000; omega)
    rw [emp']
    refine ⟨_, rfl, ?_, ?_⟩
    · rw [app_len, one_len]; exact szL (by show (st p.1).length + 1 ≤ 20000; omega)
    refine ⟨_, rfl, _, ix1, _, rfl, hb2, _, rfl, ?_, ?_⟩
    · rw [app_len, app_len, one_len]; exact szL (by show (st p.1).length + 1 + (st p.2).length ≤ 20000; omega)
    rw [assoc]
    exact .inl hp
theorem p30 : (10 : Nat) ^ 30 < 2 ^ 100 := by decide
theorem l30 {n : Nat} (h : n < 10 ^ 30) : n.log2 < 1920 := log2_of (Nat.lt_trans h (Nat.lt_trans p30 (Nat.pow_lt_pow_right (by decide) (by decide)))) (by decide)
theorem b30 {n : Nat} (h : n < 10 ^ 30) : n < 2 ^ 9000 := Nat.lt_trans h (Nat.lt_trans p30 (Nat.pow_lt_pow_right (by decide) (by decide)))
theorem pure_law_ratio_text (ds : List D) (h : GH) (P : GP) (hs : S_law_ratio_text ds h P) : g_law_ratio_text { nx := fun _ h' => P .non h', rt := P } (startG ["_law_part"] ds) h := by
  obtain ⟨p, rfl, hb1, hb2, hp⟩ := hs
  have a1 := st_lenL (by decide) hb1
  have a2 := st_lenL (by decide) hb2
  unfold ratText at hp
  refine ⟨_, rfl, _, ix0, _, ⟨_, rfl, l30 hb1, rfl⟩, ?_⟩
  refine ⟨_, rfl, _, ix1, _, rfl, _, rfl, ite2 (fun c => ?_) (fun c => ?_)⟩
  · rw [if_pos (of_decide_eq_true c)] at hp
    exact ⟨_, ⟨sz1 (by show (st p.1).length + 0 ≤ 1000; omega), rfl⟩, .inl hp⟩
  · rw [if_neg (fun z => c (decide_eq_true z))] at hp
    have lq : (("/" : Str) ++ st p.2).length ≤ 32 := by rw [app_len, one_len]; omega
    exact ⟨_, rfl, _, ix1, _, ⟨_, rfl, l30 hb2, rfl⟩, _, ⟨by rw [one_len]; exact sz1 (by show 1 + (st p.2).length ≤ 1000; omega), rfl⟩, _, ⟨sz1 (by show (st p.1).length + (("/" : Str) ++ st p.2).length ≤ 1000; omega), rfl⟩, .inl hp⟩
/-! the numbers of a turn -/
def Gp (q : Int × Int) : Prop := 0 < q.2 ∧ q.1.natAbs < 10 ^ 30 ∧ q.2.natAbs < 10 ^ 30
def lowP (q : Int × Int) : Int × Int := low q.1 q.2
theorem Gp.low {q : Int × Int} (g : Gp q) : isLow (lowP q) ∧ Bf 100 (lowP q) ∧ (lowP q).1.natAbs < 10 ^ 30 ∧ (lowP q).2.natAbs < 10 ^ 30 :=
  ⟨low_low g.1, low_bits g.1 (Nat.lt_trans g.2.1 p30) (Nat.lt_trans g.2.2 p30), Nat.lt_of_le_of_lt (ediv_natAbs_le _ _) g.2.1, Nat.lt_of_le_of_lt (ediv_natAbs_le _ _) g.2.2⟩
theorem F2.ints {α : Type} {Q : Int → Prop} : ∀ {as : List α} {ys : List D}, F2 (fun _ y => ∃ n, y = .int n ∧ Q n) as ys → ∃ ns : List Int, ys = ns.map .int ∧ ns.length = as.length ∧ ∀ n ∈ ns, Q n
  | _, _, .nil => ⟨[], rfl, rfl, fun _ h => nomatch h⟩
  | _, _, .cons ⟨q, e, g⟩ r => by
    obtain ⟨qs, e2, hl, hg⟩ := F2.ints r
    refine ⟨q :: qs, by rw [e, e2]; rfl, by rw [List.length_cons, List.length_cons, hl], fun x hx => ?_⟩
    rcases List.mem_cons.mp hx with rfl | hx
    · exact g
    · exact hg x hx
theorem three {ns : List Int} {Q : Int → Prop} (hl : ns.length = 3) (h : ∀ n ∈ ns, Q n) : ∃ a b c, ns = [a, b, c] ∧ Q a ∧ Q b ∧ Q c := by
  match ns, hl with
  | [x, y, z], _ => exact ⟨x, y, z, rfl, h x (by simp), h y (by simp), h z (by simp)⟩
theorem t3 : (3 : Nat) ≤ sizeLine := by decide
theorem turn3 {h : GH} {x : Int × Int} (lx : isLow x) (x1 : x.1.natAbs < 10 ^ 30) (x2 : x.2.natAbs < 10 ^ 30) {N : GEnds} (o0 o1 o2 o3 o4 o5 o6 o7 o8 o9 o11 o12 o13 o14 o15 o16 o17 : Option D)
    (k : ∀ o15 : Option D, N.nx [o0, o1, o2, o3, o4, o5, o6, o7, o8, o9, some (fr x), o11, o12, o13, o14, o15, o16, o17] h) :
    b3 N [o0, o1, o2, o3, o4, o5, o6, o7, o8, o9, some (fr x), o11, o12, o13, o14, o15, o16, o17] h := by
  have rt := round_trip lx x1 x2
  have big : ∀ n : Nat, n < 10 ^ 30 → n < 10 ^ 4300 := fun n hn => Nat.lt_trans hn (Nat.pow_lt_pow_right (by decide) (by decide))
  refine ⟨_, rfl, x, rfl, x1, x2, ?_⟩
  have al : (ratText x).length ≤ 1000 := by
    have a1 := st_lenL (by decide) x1
    have a2 := st_lenL (by decide) x2
    unfold ratText
    rw [app_len]
    split
    · have : (("" : Str)).length = 0 := by decide
      omega
    · rw [app_len, one_len]; omega
  have hS : S_ratio_text [fr x] h = fun P => S_ratio_text [fr x] h P := rfl
  refine ⟨_, rfl, x, rfl, big _ x1, big _ x2, ?_⟩
  generalize hT : ratText x = T at al rt
  refine ⟨_, rfl, T, rfl, al, fun q' e => ?_, fun e => by rw [rt] at e; cases e⟩
  have eq : q' = x := by rw [rt] at e; cases e; rfl
  subst eq
  refine ⟨two_le, _, rfl, _, rfl, two_le, ?_⟩
  exact ⟨_, _, .lst [.str T, fr q'], rfl, rfl, rfl, okD_lst two_le (mem2 (okS _ _) (okD_fr _ _)), _, rfl, iteF (k _)⟩
theorem turn2 {h : GH} {x y z : Int × Int} (lx : isLow x) (ly : isLow y) (lz : isLow z) (bx : Bf 100 x) (by_ : Bf 100 y) (bz : Bf 100 z) (x1 : x.1.natAbs < 10 ^ 30) (x2 : x.2.natAbs < 10 ^ 30) {N : GEnds} (o0 o1 o2 o3 o4 o5 o6 o7 o9 o10 o11 o12 o13 o14 o15 o16 o17 : Option D)
    (k : ∀ o8 o9 o10 o11 o12 o13 o14 o15 : Option D, N.nx [o0, o1, o2, o3, o4, o5, o6, o7, o8, o9, o10, o11, o12, o13, o14, o15, o16, o17] h) :
    b2 N [o0, o1, o2, o3, o4, o5, o6, o7, some (.lst [fr x, fr y, fr z]), o9, o10, o11, o12, o13, o14, o15, o16, o17] h := by
  have ea2 : ∀ u v : Int × Int, isLow u → sumF [u, v] = addF u v := fun u v hl => by show addF (addF (0, 1) u) v = _; rw [addF_zero hl]
  have em2 : ∀ u v : Int × Int, isLow u → prodF [u, v] = mulF u v := fun u v hl => by show mulF (mulF (1, 1) u) v = _; rw [mulF_one hl]
  refine ⟨_, rfl, _, rfl, rfl, _, _, rfl, _, _, rfl, _, _, rfl, rfl, ?_⟩
  refine ⟨_, rfl, _, rfl, [x, y], 100, rfl, by decide, mem2 bx by_, ok4 rfl, ?_⟩
  refine ⟨_, rfl, _, rfl, _, rfl, [x, y, z], 100, rfl, by decide, mem3 bx by_ bz, ok4 rfl, ?_⟩
  refine ⟨_, rfl, _, rfl, [x, y], 100, rfl, by decide, mem2 bx by_, ok4 rfl, ?_⟩
  refine ⟨_, rfl, [x, y, z], 100, .inl rfl, by decide, mem3 bx by_ bz, ok4 rfl, ?_⟩
  refine ⟨_, rfl, y, rfl, ?_⟩
  refine ⟨_, rfl, _, rfl, x, z, 100, rfl, by decide, by decide, bx, bz, by show 6 ≤ sizeLine; decide, ?_⟩
  refine ⟨_, rfl, _, rfl, z, x, 100, rfl, by decide, by decide, bz, bx, _, ⟨_, rfl, rfl⟩, _, rfl, _, rfl, x, z, 100, rfl, by decide, by decide, bx, bz, _, ⟨_, rfl, rfl⟩, _, rfl, ?_⟩
  refine ⟨_, rfl, _, rfl, x, y, 100, rfl, by decide, by decide, bx, by_, ?_⟩
  refine ⟨_, rfl, [x, y, z], 100, .inl rfl, by decide, mem3 bx by_ bz, ok4 rfl, ?_⟩
  refine ⟨_, rfl, _, rfl, x, y, 100, rfl, by decide, by decide, bx, by_, ?_⟩
  refine ⟨_, rfl, [x, y, z], 100, .inl rfl, by decide, mem3 bx by_ bz, ok4 rfl, ?_⟩
  refine ⟨_, rfl, y, rfl, ?_⟩
  refine ⟨_, rfl, by show 6 ≤ sizeLine; decide, ?_⟩
  have es : ((if decide (z.1 * x.2 < x.1 * z.2) = true then (1 : Int) else 0) - (if decide (x.1 * z.2 < z.1 * x.2) = true then 1 else 0)) = ordF x z := rfl
  refine ⟨_, rfl, _, rfl, _, rfl, z, x, 100, rfl, by decide, by decide, bz, bx, ?_⟩
  refine ⟨_, rfl, _, rfl, y, y, 100, rfl, by decide, by decide, by_, by_, two_le, ?_⟩
  refine ⟨_, ⟨by show 8 ≤ sizeLine; decide, rfl⟩, ?_⟩
  refine ⟨_, rfl, _, rfl, _, rfl, two_le, _, ⟨by show 8 ≤ sizeLine; decide, rfl⟩, ?_⟩
  refine ⟨_, _, .lst [fr (addF x y), fr (sumF [x, y, z]), fr (mulF x y), fr (sumF [x, y, z]), fr (negF y), .int (ordF x z), .int (0 - ordF x z), .int 0], rfl, congrArg D.lst ?_, congrArg D.lst ?_, okD_lst (by show 8 ≤ sizeLine; decide) (memC (okD_fr _ _) (memC (okD_fr _ _) (memC (okD_fr _ _) (memC (okD_fr _ _) (memC (okD_fr _ _) (mem3 (okI _ _) (okI _ _) (okI _ _))))))), _, rfl, iteF ?_⟩
  · show [fr (sumF [x, y]), fr (sumF [x, y, z]), fr (prodF [x, y]), fr (sumF [x, y, z]), fr (negF y), .int (ordF x z), .int (ordF z x), .int (ordF y y)] = _
    rw [ea2 x y lx, em2 x y lx, ord_swap x z, ord_self]
  · rw [es]
    rfl
  exact turn3 lx x1 x2 _ _ _ _ _ _ _ _ _ _ _ _ _ _ _ _ _ fun o15 => k _ _ _ _ _ _ _ _
theorem max1 (n : Int) : 1 ≤ (if n > 1 then n else 1) := by split <;> omega
theorem e1030 : ((10 : Int) ^ (30 : Int).toNat) = 10 ^ 30 := rfl
theorem natAbs_lt {n : Int} (h0 : 0 ≤ n) (h1 : n < 10 ^ 30) : n.natAbs < 10 ^ 30 := by
  have : ((10 : Int) ^ 30) = ((10 ^ 30 : Nat) : Int) := by decide
  rw [this] at h1
  omega
theorem turn {b : Addr} {h : GH} (hb : h b = some .bag) {N : GEnds} (o0 o2 o3 o4 o5 o6 o7 o8 o9 o10 o11 o12 o13 o14 o15 o16 o17 : Option D)
    (k : ∀ o2 o3 o4 o5 o6 o7 o8 o9 o10 o11 o12 o13 o14 o15 o16 o17 : Option D, N.nx [o0, some (.ref b), o2, o3, o4, o5, o6, o7, o8, o9, o10, o11, o12, o13, o14, o15, o16, o17] h) :
    b_law N [o0, some (.ref b), o2, o3, o4, o5, o6, o7, o8, o9, o10, o11, o12, o13, o14, o15, o16, o17] h := by
  refine ⟨3, rfl, ⟨by decide, by decide⟩, fun p hp => ?_⟩
  refine comp_rel (R := fun _ y => ∃ n : Int, y = .int n ∧ (0 ≤ n ∧ n < 10 ^ 30)) hp _ [] (fun d hd acc Q hq => ?_) (by rw [rangeD_length, List.length_nil]; decide) fun ys hys => ?_
  · exact ⟨_, rfl, b, rfl, put_old hp hb, fun n n0 n1 => hq _ ⟨n, rfl, n0, n1⟩⟩
  obtain ⟨ns, rfl, hlen, hg⟩ := F2.ints hys
  rw [rangeD_length] at hlen
  obtain ⟨a, b', c, rfl, ⟨a0, a1⟩, ⟨b0, b1⟩, ⟨c0, c1⟩⟩ := three hlen hg
  refine ⟨_, rfl, rfl, _, _, rfl, _, _, rfl, _, _, rfl, rfl, ?_⟩
  refine ⟨3, rfl, ⟨by decide, by decide⟩, fun p hp => ?_⟩
  refine comp_rel (R := fun _ y => ∃ n : Int, y = .int n ∧ (1 ≤ n ∧ n < 10 ^ 30)) hp _ [] (fun d hd acc Q hq => ?_) (by rw [rangeD_length, List.length_nil]; decide) fun ys hys => ?_
  · refine ⟨_, rfl, b, rfl, put_old hp hb, fun n n0 n1 => ⟨_, ⟨_, _, rfl, rfl⟩, hq _ ⟨_, rfl, max1 n, ?_⟩⟩⟩
    split
    · exact n1
    · decide
  obtain ⟨ns, rfl, hlen, hg⟩ := F2.ints hys
  rw [rangeD_length] at hlen
  obtain ⟨d0, d1, d2, rfl, ⟨d00, d01⟩, ⟨d10, d11⟩, ⟨d20, d21⟩⟩ := three hlen hg
  refine ⟨_, rfl, _, rfl, _, rfl, two_le, ?_⟩
  refine ⟨_, rfl, _, rfl, _, rfl, _, rfl, two_le, ?_⟩
  refine ⟨_, rfl, _, rfl, b, 3, rfl, hb, by decide, by decide +kernel, fun u u0 u1 => ⟨_, rfl, _, ⟨⟨by decide, by decide, by decide⟩, rfl⟩, _, rfl, _, ⟨_, _, rfl, rfl⟩, _, rfl, _, rfl, two_le, t3, ?_⟩⟩
  rw [e1030]
  generalize hm : (if (10 : Int) ^ 30 - 1 < a + u then (10 : Int) ^ 30 - 1 else a + u) = m
  have m0 : 0 ≤ m ∧ m < 10 ^ 30 := by
    rw [← hm]
    split <;> omega
  have g1 : Gp (a, d0) := ⟨by show (0 : Int) < d0; omega, natAbs_lt a0 a1, natAbs_lt (by omega) d01⟩
  have g2 : Gp (0 - b', d1) := ⟨by show (0 : Int) < d1; omega, by show (0 - b').natAbs < _; have := natAbs_lt b0 b1; omega, natAbs_lt (by omega) d11⟩
  have g3 : Gp (m, d0) := ⟨by show (0 : Int) < d0; omega, natAbs_lt m0.1 m0.2, natAbs_lt (by omega) d01⟩
  have gc : Gp (c, d2) := ⟨by show (0 : Int) < d2; omega, natAbs_lt c0 c1, natAbs_lt (by omega) d21⟩
  generalize hq1 : (a, d0) = q1 at g1
  generalize hq2 : (0 - b', d1) = q2 at g2
  generalize hq3 : (m, d0) = q3 at g3
  have hqs : ([.tup [.int a, .int d0], .tup [.int (0 - b'), .int d1], .tup [.int m, .int d0]] : List D) = [q1, q2, q3].map fr := by rw [← hq1, ← hq2, ← hq3]; rfl
  have gall : ∀ q ∈ [q1, q2, q3], Gp q := mem3 g1 g2 g3
  show (sSeq _ _) N [o0, some (.ref b), o2, some (.int a), some (.int b'), some (.int c), some (.lst [.int d0, .int d1, .int d2]), some (.lst [.tup [.int a, .int d0], .tup [.int (0 - b'), .int d1], .tup [.int m, .int d0]]), o8, o9, o10, o11, o12, o13, o14, o15, o16, o17] h
  rw [hqs]
  have hneg : (0 - c, 0 - d2) = (0 - c, 0 - d2) := rfl
  refine ⟨_, rfl, fun p hp => ?_⟩
  refine lc_map fr (fun q => fr (lowP q)) hp [q1, q2, q3] t3 (fun q hq acc Q hQ => ⟨_, rfl, _, ix0, _, rfl, _, ix1, q.1, q.2, rfl, by have := (gall q hq).1; omega, b30 (gall q hq).2.2, hQ⟩) ?_
  refine ⟨_, rfl, fun p hp => ?_⟩
  refine lc_map fr (fun q => fr (lowP q)) hp [q1, q2, q3] t3 (fun q hq acc Q hQ => ⟨_, rfl, _, ix0, _, rfl, _, ix1, q.1, q.2, rfl, by have := (gall q hq).1; omega, b30 (gall q hq).2.2, by rw [red_pos (gall q hq).1]; exact hQ⟩) ?_
  have ed : (0 - d2).natAbs < 2 ^ 9000 := by
    have e : (0 - d2).natAbs = d2.natAbs := by omega
    rw [e]; exact b30 gc.2.2
  refine ⟨_, rfl, _, rfl, _, rfl, _, rfl, _, rfl, 0 - c, 0 - d2, rfl, by omega, ed, by show 1 ≤ sizeLine; decide, ?_⟩
  rw [red_neg (show d2 ≠ 0 by omega), red_pos (show 0 < d2 by omega)]
  refine ⟨_, ⟨by show 4 ≤ sizeLine; decide, rfl⟩, ?_⟩
  refine ⟨_, rfl, _, rfl, _, rfl, _, rfl, _, rfl, c, d2, rfl, by omega, b30 gc.2.2, by show 1 ≤ sizeLine; decide, _, ⟨by show 4 ≤ sizeLine; decide, rfl⟩, ?_⟩
  refine ⟨_, _, .lst [fr (lowP q1), fr (lowP q2), fr (lowP q3), fr (low c d2)], rfl, rfl, rfl, okD_lst (by show 4 ≤ sizeLine; decide) (memC (okD_fr _ _) (mem3 (okD_fr _ _) (okD_fr _ _) (okD_fr _ _))), _, rfl, iteF ?_⟩
  refine ⟨_, rfl, fun p hp => ?_⟩
  refine lc_map fr (fun q => .bl (decide (((Int.gcd q.1 q.2 : Nat) : Int) = 1))) hp [q1, q2, q3] t3 (fun q hq acc Q hQ => ⟨_, rfl, _, rfl, two_le, .inr ⟨q.1, q.2, rfl, ?_⟩⟩) ?_
  · have e : isFr q.1 q.2 = decide (((Int.gcd q.1 q.2 : Nat) : Int) = 1) := by unfold isFr; rw [decide_eq_true (gall q hq).1, Bool.true_and]
    rw [e]
    exact hQ
  refine ⟨_, rfl, _, rfl, fun p hp => ?_⟩
  refine lc_map fr (fun q => .bl (decide (((Int.gcd q.1 q.2 : Nat) : Int) = 1))) hp [q1, q2, q3] t3 (fun q hq acc Q hQ => ⟨_, rfl, _, ix0, _, rfl, _, ix1, q.1, q.2, rfl, _, rfl, hQ⟩) ?_
  refine ⟨_, _, _, rfl, rfl, rfl, okD_lst t3 (mem3 (okB _ _) (okB _ _) (okB _ _)), _, rfl, iteF ?_⟩
  obtain ⟨l1, f1, x1, x2⟩ := g1.low
  obtain ⟨l2, f2, _, _⟩ := g2.low
  obtain ⟨l3, f3, _, _⟩ := g3.low
  exact turn2 l1 l2 l3 f1 f2 f3 x1 x2 _ _ _ _ _ _ _ _ _ _ _ _ _ _ _ _ _ fun _ _ _ _ _ _ _ _ => k _ _ _ _ _ _ _ _ _ _ _ _ _ _ _ _
theorem loop {b : Addr} {h : GH} (hb : h b = some .bag) {N : GEnds} {o0 : Option D} (k : ∀ o2 o3 o4 o5 o6 o7 o8 o9 o10 o11 o12 o13 o14 o15 o16 o17 : Option D, N.nx [o0, some (.ref b), o2, o3, o4, o5, o6, o7, o8, o9, o10, o11, o12, o13, o14, o15, o16, o17] h) :
    ∀ (ds : List D) (o2 o3 o4 o5 o6 o7 o8 o9 o10 o11 o12 o13 o14 o15 o16 o17 : Option D), gLoop (tgName 2) b_law N ds [o0, some (.ref b), o2, o3, o4, o5, o6, o7, o8, o9, o10, o11, o12, o13, o14, o15, o16, o17] h
  | [], o2, o3, o4, o5, o6, o7, o8, o9, o10, o11, o12, o13, o14, o15, o16, o17 => k _ _ _ _ _ _ _ _ _ _ _ _ _ _ _ _
  | d :: r, o2, o3, o4, o5, o6, o7, o8, o9, o10, o11, o12, o13, o14, o15, o16, o17 => turn (N := { nx := gLoop (tgName 2) b_law N r, ct := gLoop (tgName 2) b_law N r, bk := N.nx, rt := N.rt }) hb _ _ _ _ _ _ _ _ _ _ _ _ _ _ _ _ _ fun o2 o3 o4 o5 o6 o7 o8 o9 o10 o11 o12 o13 o14 o15 o16 o17 => loop hb k r _ _ _ _ _ _ _ _ _ _ _ _ _ _ _ _
/-! ten to the n -/
theorem num10 : ∀ n : Nat, numL (10 ^ n) = 49 :: List.replicate n 48
  | 0 => TL.numL_lt (by decide)
  | n + 1 => by
    rw [TL.numL_step (by rw [Nat.pow_succ]; have := Nat.pow_pos (n := n) (show 0 < 10 by decide); omega)]
    have e1 : 10 ^ (n + 1) / 10 = 10 ^ n := by rw [Nat.pow_succ]; omega
    have e2 : 10 ^ (n + 1) % 10 = 0 := by rw [Nat.pow_succ]; omega
    rw [e1, e2, num10 n, List.replicate_succ', List.cons_append]
def T10 (n : Nat) : Str := ("1" : Str) ++ repS ("0" : Str) n
theorem tl10 (n : Nat) : tl (T10 n) = numL (10 ^ n) := by
  unfold T10
  rw [TL.tl_append, num10]
  have e0 : tl ("1" : Str) = [49] := by decide +kernel
  have e1 : ("0" : Str).cps.toList = [48] := by decide +kernel
  have e2 : tl (repS ("0" : Str) n) = List.replicate n 48 := by
    show ((List.replicate n ("0" : Str).cps.toList).flatten.toArray).toList = _
    rw [e1]
    induction n with
    | zero => rfl
    | succ n ih => rw [List.replicate_succ, List.replicate_succ, List.flatten_cons]; simpa using ih
  rw [e0, e2]
  rfl
theorem st10 (n : Nat) : st ((10 ^ n : Nat) : Int) = T10 n := TL.ext_tl (by rw [tl10]; exact TL.tl_num _)
theorem len10 (n : Nat) : (T10 n).length = n + 1 := by rw [TL.len_tl, tl10, num10, List.length_cons, List.length_replicate]
theorem int10 {n : Nat} (hn : n ≤ 4200) (h : GH) : RIntL h [.str (T10 n)] (.int ((10 ^ n : Nat) : Int)) := by
  have hx : (T10 n).cps.toList = numL (10 ^ n) := tl10 n
  have hd : NumText.AllDigits (T10 n).cps.toList := by rw [hx]; exact TL.numL_digits _
  have hl := len10 n
  have hi := intText_digits (x := T10 n) hd (by rw [hx]; exact TL.numL_ne _) (by omega)
  rw [hx, TL.numL_val] at hi
  refine ⟨T10 n, _, rfl, hi, by omega, ?_, rfl⟩
  by_cases c : (T10 n).length ≤ 640
  · exact .inl c
  · right
    have e := (numText_signs (x := T10 n) fun d hd' => .inr (hd d hd')).2
    rw [e]
    have : (T10 n).cps.toList.length = (T10 n).length := by rw [Array.length_toList]; rfl
    omega
theorem big10 {n : Nat} (hn : n ≤ 4200) : (((10 ^ n : Nat) : Int)).natAbs < 10 ^ 4300 := by
  show 10 ^ n < 10 ^ 4300
  exact Nat.pow_lt_pow_right (by decide) (by omega)
theorem one4300 : 1 < 10 ^ 4300 := Nat.lt_of_lt_of_le (show 1 < 10 ^ 1 by decide) (Nat.pow_le_pow_right (by decide) (show 1 ≤ 4300 by decide))
theorem rat10a (n : Nat) : ratText (((10 ^ n : Nat) : Int), 1) = T10 n := by
  unfold ratText
  rw [if_pos rfl, emp, st10]
theorem rat10b {n : Nat} (hn : 1 ≤ n) : ratText (-1, ((10 ^ n : Nat) : Int)) = ("-1/" : Str) ++ T10 n := by
  unfold ratText
  have h2 : 2 ≤ 10 ^ n := Nat.le_trans (show 2 ≤ 10 ^ 1 by decide) (Nat.pow_le_pow_right (by decide) hn)
  rw [if_neg, st10, ← assoc]
  · congr 1
  · show ¬ ((10 ^ n : Nat) : Int) = 1
    omega
theorem pure_law (ns : List Int) (hl : ns.length ≤ 63) : g_law { nx := fun _ _ => False, rt := fun d _ => d = .bl true } (startG ["_law_script", "_law_bag_here", "_law_turn", "_law_a", "_law_b", "_law_c", "_law_down", "_law_pairs", "_law_parts", "_law_told", "_law_one", "_law_two", "_law_three", "_law_sign", "_law_due", "_law_text", "_law_k", "_law_pair"] [.fro (ns.map .int)]) (fun _ => none) := by
  refine ⟨_, rfl, ns, rfl, hl, fun b hb => ?_⟩
  refine ⟨5, rfl, ⟨by decide, by decide⟩, ?_⟩
  refine loop (b := b) put_same (fun o2 o3 o4 o5 o6 o7 o8 o9 o10 o11 o12 o13 o14 o15 o16 o17 => ?_) _ none none none none none none none none none none none none none none none none
  refine ⟨_, rfl, b, 3940, rfl, put_same, by decide, by decide +kernel, fun u u0 u1 => ?_⟩
  obtain ⟨n, hn⟩ : ∃ n : Nat, (60 + u).toNat = n := ⟨_, rfl⟩
  have n1 : n ≤ 3999 := by omega
  have n0 : 60 ≤ n := by omega
  have one : (("0" : Str)).length = 1 := by decide +kernel
  have one' : (("1" : Str)).length = 1 := by decide +kernel
  have m3 : (("-1/" : Str)).length = 3 := by decide +kernel
  have lr : (repS ("0" : Str) n).length = n := by
    have e := len10 n
    unfold T10 at e
    rw [app_len, one'] at e
    omega
  refine ⟨_, rfl, _, ⟨⟨by omega, by omega, by rw [hn, one]; omega⟩, rfl⟩, ?_⟩
  rw [hn]
  refine ⟨_, ⟨by rw [one', lr]; exact szL (by omega), rfl⟩, ?_⟩
  show (sSeq _ _) _ [some (.fro (ns.map .int)), some (.ref b), o2, o3, o4, o5, o6, o7, o8, o9, o10, o11, o12, o13, o14, some (.str (T10 n)), o16, o17] _
  refine ⟨_, rfl, _, int10 (by omega) _, two_le, (((10 ^ n : Nat) : Int), 1), rfl, big10 (by omega), one4300, ?_⟩
  refine ⟨_, rfl, _, rfl, _, int10 (by omega) _, two_le, (-1, ((10 ^ n : Nat) : Int)), rfl, one4300, big10 (by omega), two_le, ?_⟩
  rw [rat10a, rat10b (by omega)]
  refine ⟨_, rfl, _, rfl, _, rfl, _, ⟨by rw [m3, len10]; exact szL (by omega), rfl⟩, two_le, ?_⟩
  refine ⟨_, _, .lst [.str (T10 n), .str (("-1/" : Str) ++ T10 n)], rfl, rfl, rfl, okD_lst two_le (mem2 (okS _ _) (okS _ _)), _, rfl, iteF ?_⟩
  have pw : ∀ h : GH, RPow h (.int 10) (.int 30) (.int (10 ^ 30)) := fun h => ⟨⟨by decide, by decide, by decide⟩, rfl⟩
  have lx : isLow ((10 ^ 30 - 1 : Int), 1) := ⟨by decide, by decide⟩
  have bx : Bf 100 ((10 ^ 30 - 1 : Int), 1) := ⟨by decide, by decide, by decide⟩
  have bz : Bf 100 (1, (10 ^ 30 - 1 : Int)) := ⟨by decide, by decide, by decide⟩
  refine ⟨_, pw _, _, rfl, two_le, _, pw _, _, rfl, two_le, [((10 ^ 30 - 1 : Int), 1), (1, (10 ^ 30 - 1 : Int))], 100, rfl, by decide, mem2 bx bz, ok4 rfl, ?_⟩
  refine ⟨_, pw _, _, rfl, two_le, _, pw _, _, rfl, two_le, ((10 ^ 30 - 1 : Int), 1), (1, (10 ^ 30 - 1 : Int)), 100, rfl, by decide, by decide, bx, bz, ?_⟩
  refine ⟨_, _, fr (addF ((10 ^ 30 - 1 : Int), 1) (1, (10 ^ 30 - 1 : Int))), rfl, congrArg fr ?_, rfl, okD_fr _ _, .inl rfl⟩
  show addF (addF (0, 1) ((10 ^ 30 - 1 : Int), 1)) (1, (10 ^ 30 - 1 : Int)) = _
  rw [addF_zero lx]
end K87

set_option maxHeartbeats 2000000
namespace K87
open PySem PySem.Spec PyProof.Rows L2 Gh
theorem len_parse87 (ds : List D) (h : GH) (P : GP) (hs : calmS K04.S_parse_ratio ds h P) : ds.length = 1 := K04.len_parse_ratio ds h P _ hs
theorem pure_parse87 (ds : List D) (h : GH) (P : GP) (hs : calmS K04.S_parse_ratio ds h P) : K04.g_parse_ratio (fun _ _ _ => False) { nx := fun _ h' => P .non h', rt := P } (startG ["text", "minus", "above", "slash", "below", "numerator", "denominator", "part"] ds) h := K04.pure_parse_ratio ds h P _ hs
def topS (i : Nat) : Stmt := PySem.Challenge.pw_graincourse_k87_numbers_of_thirty_digits.main.body.getD i (.Pass ⟨0, 0, 0, 0⟩)
def memS (i j : Nat) : Stmt := (clsBody (topS i)).getD j (.Pass ⟨0, 0, 0, 0⟩)
structure Bi (mg : Str → Option Value) : Prop where
  abs : mg "abs" = none
  len : mg "len" = none
  int : mg "int" = none
  str : mg "str" = none
  any : mg "any" = none
  list : mg "list" = none
  isinstance : mg "isinstance" = none
  tuple : mg "tuple" = none
  all : mg "all" = none
  range : mg "range" = none
  bool : mg "bool" = none
  max : mg "max" = none
  min : mg "min" = none
structure Cons (mg : Str → Option Value) : Prop where
  MAX_DIGITS : ∃ t, mg "MAX_DIGITS" = some (.int 30 t)
  DECIMALS : ∃ t, mg "DECIMALS" = some (.str "0123456789" t)
abbrev st_common_divisor : Stmt := topS 6
theorem sc_common_divisor : FnScope ["one", "other"] ["one", "other"] (defScope st_common_divisor) := ⟨rfl, rfl, rfl, by decide +kernel, rfl, by decide +kernel, by decide +kernel⟩
abbrev st_reduced : Stmt := topS 7
theorem sc_reduced : FnScope ["numerator", "denominator", "by"] ["numerator", "denominator"] (defScope st_reduced) := ⟨rfl, rfl, rfl, by decide +kernel, rfl, by decide +kernel, by decide +kernel⟩
abbrev st_is_fraction : Stmt := topS 8
theorem sc_is_fraction : FnScope ["value"] ["value"] (defScope st_is_fraction) := ⟨rfl, rfl, rfl, by decide +kernel, rfl, by decide +kernel, by decide +kernel⟩
abbrev st_total : Stmt := topS 9
theorem sc_total : FnScope ["parts", "numerator", "denominator", "part"] ["parts"] (defScope st_total) := ⟨rfl, rfl, rfl, by decide +kernel, rfl, by decide +kernel, by decide +kernel⟩
abbrev st_plus : Stmt := topS 10
theorem sc_plus : FnScope ["parts"] ["parts"] (defScope st_plus) := ⟨rfl, rfl, rfl, by decide +kernel, rfl, by decide +kernel, by decide +kernel⟩
abbrev st_negative : Stmt := topS 11
theorem sc_negative : FnScope ["part"] ["part"] (defScope st_negative) := ⟨rfl, rfl, rfl, by decide +kernel, rfl, by decide +kernel, by decide +kernel⟩
abbrev st_times : Stmt := topS 12
theorem sc_times : FnScope ["parts", "numerator", "denominator", "part"] ["parts"] (defScope st_times) := ⟨rfl, rfl, rfl, by decide +kernel, rfl, by decide +kernel, by decide +kernel⟩
abbrev st_order : Stmt := topS 13
theorem sc_order : FnScope ["one", "other", "left", "right"] ["one", "other"] (defScope st_order) := ⟨rfl, rfl, rfl, by decide +kernel, rfl, by decide +kernel, by decide +kernel⟩
abbrev st_ratio_text : Stmt := topS 14
theorem sc_ratio_text : FnScope ["part"] ["part"] (defScope st_ratio_text) := ⟨rfl, rfl, rfl, by decide +kernel, rfl, by decide +kernel, by decide +kernel⟩
abbrev st_whole_number : Stmt := topS 15
theorem sc_whole_number : FnScope ["text", "sign"] ["text"] (defScope st_whole_number) := ⟨rfl, rfl, rfl, by decide +kernel, rfl, by decide +kernel, by decide +kernel⟩
abbrev st_parse_ratio : Stmt := topS 16
theorem sc_parse_ratio : FnScope ["text", "minus", "above", "slash", "below", "numerator", "denominator", "part"] ["text"] (defScope st_parse_ratio) := ⟨rfl, rfl, rfl, by decide +kernel, rfl, by decide +kernel, by decide +kernel⟩
abbrev st_law_bag : Stmt := topS 18
theorem sc_law_bag : FnScope ["_law_script", "_law_salt", "_law_cell"] ["_law_script"] (defScope st_law_bag) := ⟨rfl, rfl, rfl, by decide +kernel, rfl, by decide +kernel, by decide +kernel⟩
abbrev st_law_pull : Stmt := topS 19
theorem sc_law_pull : FnScope ["_law_bag_here", "_law_many", "_law_cell", "_law_digit", "_law_seed"] ["_law_bag_here", "_law_many"] (defScope st_law_pull) := ⟨rfl, rfl, rfl, by decide +kernel, rfl, by decide +kernel, by decide +kernel⟩
abbrev st_law_of : Stmt := topS 20
theorem sc_law_of : FnScope ["_law_bag_here", "_law_some"] ["_law_bag_here", "_law_some"] (defScope st_law_of) := ⟨rfl, rfl, rfl, by decide +kernel, rfl, by decide +kernel, by decide +kernel⟩
abbrev st_law_same : Stmt := topS 21
theorem sc_law_same : FnScope ["_law_found", "_law_due", "_law_k"] ["_law_found", "_law_due"] (defScope st_law_same) := ⟨rfl, rfl, rfl, by decide +kernel, rfl, by decide +kernel, by decide +kernel⟩
abbrev st_law_gcd : Stmt := topS 22
theorem sc_law_gcd : FnScope ["_law_a", "_law_b"] ["_law_a", "_law_b"] (defScope st_law_gcd) := ⟨rfl, rfl, rfl, by decide +kernel, rfl, by decide +kernel, by decide +kernel⟩
abbrev st_law_low : Stmt := topS 23
theorem sc_law_low : FnScope ["_law_a", "_law_b", "_law_by"] ["_law_a", "_law_b"] (defScope st_law_low) := ⟨rfl, rfl, rfl, by decide +kernel, rfl, by decide +kernel, by decide +kernel⟩
abbrev st_law_add : Stmt := topS 24
theorem sc_law_add : FnScope ["_law_p", "_law_q"] ["_law_p", "_law_q"] (defScope st_law_add) := ⟨rfl, rfl, rfl, by decide +kernel, rfl, by decide +kernel, by decide +kernel⟩
abbrev st_law_sum : Stmt := topS 25
theorem sc_law_sum : FnScope ["_law_parts", "_law_found", "_law_part"] ["_law_parts"] (defScope st_law_sum) := ⟨rfl, rfl, rfl, by decide +kernel, rfl, by decide +kernel, by decide +kernel⟩
abbrev st_law_mul : Stmt := topS 26
theorem sc_law_mul : FnScope ["_law_p", "_law_q"] ["_law_p", "_law_q"] (defScope st_law_mul) := ⟨rfl, rfl, rfl, by decide +kernel, rfl, by decide +kernel, by decide +kernel⟩
abbrev st_law_neg : Stmt := topS 27
theorem sc_law_neg : FnScope ["_law_p"] ["_law_p"] (defScope st_law_neg) := ⟨rfl, rfl, rfl, by decide +kernel, rfl, by decide +kernel, by decide +kernel⟩
abbrev st_law_less : Stmt := topS 28
theorem sc_law_less : FnScope ["_law_p", "_law_q"] ["_law_p", "_law_q"] (defScope st_law_less) := ⟨rfl, rfl, rfl, by decide +kernel, rfl, by decide +kernel, by decide +kernel⟩
abbrev st_law_ratio_text : Stmt := topS 29
theorem sc_law_ratio_text : FnScope ["_law_part"] ["_law_part"] (defScope st_law_ratio_text) := ⟨rfl, rfl, rfl, by decide +kernel, rfl, by decide +kernel, by decide +kernel⟩
abbrev st_law_long_number : Stmt := topS 30
theorem sc_law_long_number : FnScope ["_law_bag_here", "_law_found", "_law_step"] ["_law_bag_here"] (defScope st_law_long_number) := ⟨rfl, rfl, rfl, by decide +kernel, rfl, by decide +kernel, by decide +kernel⟩
abbrev st_law : Stmt := topS 31
theorem sc_law : FnScope ["_law_script", "_law_bag_here", "_law_turn", "_law_a", "_law_b", "_law_c", "_law_down", "_law_pairs", "_law_parts", "_law_told", "_law_one", "_law_two", "_law_three", "_law_sign", "_law_due", "_law_text", "_law_k", "_law_pair"] ["_law_script"] (defScope st_law) := ⟨rfl, rfl, rfl, by decide +kernel, rfl, by decide +kernel, by decide +kernel⟩
section
variable {P : Program} {w : World} {K : PySem.W.Frag} {mg : Str → Option Value} {base : Heap}
theorem d_common_divisor {f : Addr} (B : Bi mg) (cdv : Value) (A : Around) (outer : List Env) (s : Shared) (H : Hp) (E : XK) (hr : Room 0 (A.deeper (PyProof.Rows.envOfC "common_divisor" (defScope st_common_divisor) s.heap.objs.size f cdv))) :
    PSs (cxOf CX0 P w K mg base ["one", "other"] "common_divisor" (defScope st_common_divisor) f cdv A outer s H E).nox (defBody st_common_divisor) (gS K AN.top g_law_gcd) :=
  (b_cons (s_while PassesOwn.never (t_ne hr (e_var 1) e_int)
  (b_one (s_par (i := 0) (j := 1) rfl sc_common_divisor.nd rfl rfl (by decide) rfl rfl (a_cons (e_var 1) (a_cons (e_mod (e_var 0) (e_var 1)) a_nil)) (by rfl))))
 (b_one (s_ret (e_abs B.abs (a_cons (e_var 0) a_nil)))))
theorem d_reduced {f : Addr} (c_common_divisor : Fc P w K mg base 1 "common_divisor" S_law_gcd) (cdv : Value) (A : Around) (outer : List Env) (s : Shared) (H : Hp) (E : XK) (hr : Room 1 (A.deeper (PyProof.Rows.envOfC "reduced" (defScope st_reduced) s.heap.objs.size f cdv))) :
    PSs (cxOf CX0 P w K mg base ["numerator", "denominator", "by"] "reduced" (defScope st_reduced) f cdv A outer s H E).nox (defBody st_reduced) (gS K AN.top g_reduced) :=
  (b_cons (s_if (t_eq hr (e_var 1) e_int)
  (b_one s_never)
  b_nil)
 (b_cons (s_set (i := 2) sc_reduced.nd (e_call c_common_divisor hr (by omega) (a_cons (e_var 0) (a_cons (e_var 1) a_nil))))
 (b_cons (s_if (t_lt (e_var 1) e_int)
  (b_one (s_set (i := 2) sc_reduced.nd (e_neg (e_var 2))))
  b_nil)
 (b_one (s_ret (e_tup (a_cons (e_fdiv (e_var 0) (e_var 2)) (a_cons (e_fdiv (e_var 1) (e_var 2)) a_nil))))))))
theorem d_is_fraction {f : Addr} (c_common_divisor : Fc P w K mg base 1 "common_divisor" S_law_gcd) (B : Bi mg) (cdv : Value) (A : Around) (outer : List Env) (s : Shared) (H : Hp) (E : XK) (hr : Room 1 (A.deeper (PyProof.Rows.envOfC "is_fraction" (defScope st_is_fraction) s.heap.objs.size f cdv))) :
    PSs (cxOf CX0 P w K mg base ["value"] "is_fraction" (defScope st_is_fraction) f cdv A outer s H E).nox (defBody st_is_fraction) (gS K AN.top g_is_fraction) :=
  (b_one (s_ret (e_and (e_eq hr (e_len B.len (a_cons (e_var 0) a_nil)) e_int) (e_and (e_gt (e_ix (e_var 0) e_int) e_int) (e_one (e_eq hr (e_call c_common_divisor hr (by omega) (a_cons (e_ix (e_var 0) e_int) (a_cons (e_ix (e_var 0) e_int) a_nil))) e_int))))))
theorem d_total {f : Addr} (c_reduced : Fc P w K mg base 2 "reduced" S_reduced) (cdv : Value) (A : Around) (outer : List Env) (s : Shared) (H : Hp) (E : XK) (hr : Room 2 (A.deeper (PyProof.Rows.envOfC "total" (defScope st_total) s.heap.objs.size f cdv))) :
    PSs (cxOf CX0 P w K mg base ["parts", "numerator", "denominator", "part"] "total" (defScope st_total) f cdv A outer s H E).nox (defBody st_total) (gS K AN.top g_total) :=
  (b_cons (s_asg (e_tup (a_cons e_int (a_cons e_int a_nil))) (g_tup rfl (gs_cons (g_name 1 sc_total.nd) (gs_cons (g_name 2 sc_total.nd) gs_nil))))
 (b_cons (s_for PassesOwn.never rfl (i_seq (e_var 0)) (g_name 3 sc_total.nd)
  (b_cons (s_set (i := 1) sc_total.nd (e_add (e_mul (e_var 1) (e_ix (e_var 3) e_int)) (e_mul (e_ix (e_var 3) e_int) (e_var 2))))
 (b_cons (s_set (i := 2) sc_total.nd (e_mul (e_var 2) (e_ix (e_var 3) e_int)))
 (b_one (s_asg (e_call c_reduced hr (by omega) (a_cons (e_var 1) (a_cons (e_var 2) a_nil))) (g_tup rfl (gs_cons (g_name 1 sc_total.nd) (gs_cons (g_name 2 sc_total.nd) gs_nil))))))))
 (b_one (s_ret (e_tup (a_cons (e_var 1) (a_cons (e_var 2) a_nil)))))))
theorem d_plus {f : Addr} (c_total : Fc P w K mg base 3 "total" S_total) (cdv : Value) (A : Around) (outer : List Env) (s : Shared) (H : Hp) (E : XK) (hr : Room 3 (A.deeper (PyProof.Rows.envOfC "plus" (defScope st_plus) s.heap.objs.size f cdv))) :
    PSs (cxOf CX0 P w K mg base ["parts"] "plus" (defScope st_plus) f cdv A outer s H E).nox (defBody st_plus) (gS K AN.top g_plus) :=
  (b_one (s_ret (e_call c_total hr (by omega) (a_cons (e_var 0) a_nil))))
theorem d_negative {f : Addr} (cdv : Value) (A : Around) (outer : List Env) (s : Shared) (H : Hp) (E : XK) (hr : Room 0 (A.deeper (PyProof.Rows.envOfC "negative" (defScope st_negative) s.heap.objs.size f cdv))) :
    PSs (cxOf CX0 P w K mg base ["part"] "negative" (defScope st_negative) f cdv A outer s H E).nox (defBody st_negative) (gS K AN.top g_negative) :=
  (b_one (s_ret (e_tup (a_cons (e_neg (e_ix (e_var 0) e_int)) (a_cons (e_ix (e_var 0) e_int) a_nil)))))
theorem d_times {f : Addr} (c_reduced : Fc P w K mg base 2 "reduced" S_reduced) (cdv : Value) (A : Around) (outer : List Env) (s : Shared) (H : Hp) (E : XK) (hr : Room 2 (A.deeper (PyProof.Rows.envOfC "times" (defScope st_times) s.heap.objs.size f cdv))) :
    PSs (cxOf CX0 P w K mg base ["parts", "numerator", "denominator", "part"] "times" (defScope st_times) f cdv A outer s H E).nox (defBody st_times) (gS K AN.top g_times) :=
  (b_cons (s_asg (e_tup (a_cons e_int (a_cons e_int a_nil))) (g_tup rfl (gs_cons (g_name 1 sc_times.nd) (gs_cons (g_name 2 sc_times.nd) gs_nil))))
 (b_cons (s_for PassesOwn.never rfl (i_seq (e_var 0)) (g_name 3 sc_times.nd)
  (b_one (s_asg (e_call c_reduced hr (by omega) (a_cons (e_mul (e_var 1) (e_ix (e_var 3) e_int)) (a_cons (e_mul (e_var 2) (e_ix (e_var 3) e_int)) a_nil))) (g_tup rfl (gs_cons (g_name 1 sc_times.nd) (gs_cons (g_name 2 sc_times.nd) gs_nil))))))
 (b_one (s_ret (e_tup (a_cons (e_var 1) (a_cons (e_var 2) a_nil)))))))
theorem d_order {f : Addr} (B : Bi mg) (cdv : Value) (A : Around) (outer : List Env) (s : Shared) (H : Hp) (E : XK) (hr : Room 0 (A.deeper (PyProof.Rows.envOfC "order" (defScope st_order) s.heap.objs.size f cdv))) :
    PSs (cxOf CX0 P w K mg base ["one", "other", "left", "right"] "order" (defScope st_order) f cdv A outer s H E).nox (defBody st_order) (gS K AN.top g_order) :=
  (b_cons (s_par (i := 2) (j := 3) rfl sc_order.nd rfl rfl (by decide) rfl rfl (a_cons (e_mul (e_ix (e_var 0) e_int) (e_ix (e_var 1) e_int)) (a_cons (e_mul (e_ix (e_var 1) e_int) (e_ix (e_var 0) e_int)) a_nil)) (by rfl))
 (b_one (s_ret (e_sub (e_intc B.int (a_cons (e_gt (e_var 2) (e_var 3)) a_nil)) (e_intc B.int (a_cons (e_lt (e_var 2) (e_var 3)) a_nil))))))
theorem d_ratio_text {f : Addr} (B : Bi mg) (ND : NoD K) (cdv : Value) (A : Around) (outer : List Env) (s : Shared) (H : Hp) (E : XK) (hr : Room 0 (A.deeper (PyProof.Rows.envOfC "ratio_text" (defScope st_ratio_text) s.heap.objs.size f cdv))) :
    PSs (cxOf CX0 P w K mg base ["part"] "ratio_text" (defScope st_ratio_text) f cdv A outer s H E).nox (defBody st_ratio_text) (gS K AN.top g_ratio_text) :=
  (b_cons (s_if (t_eq hr (e_ix (e_var 0) e_int) e_int)
  (b_one (s_ret (e_strcL rfl ND B.str (a_cons (e_ix (e_var 0) e_int) a_nil))))
  b_nil)
 (b_one (s_ret (e_joined (j_cons (j_fmtL rfl ND (e_ix (e_var 0) e_int)) (j_cons e_str (j_cons (j_fmtL rfl ND (e_ix (e_var 0) e_int)) j_nil)))))))
theorem d_whole_number {f : Addr} (B : Bi mg) (Co : Cons mg) (cdv : Value) (A : Around) (outer : List Env) (s : Shared) (H : Hp) (E : XK) (hr : Room 0 (A.deeper (PyProof.Rows.envOfC "whole_number" (defScope st_whole_number) s.heap.objs.size f cdv))) :
    PSs (cxOf CX0 P w K mg base ["text", "sign"] "whole_number" (defScope st_whole_number) f cdv A outer s H E).nox (defBody st_whole_number) (gS K AN.top g_whole_number) :=
  (b_cons (s_if (PW.pt (w_or (t_eq hr (e_var 0) e_str) (w_or (t_gt (e_len B.len (a_cons (e_var 0) a_nil)) (e_globI Co.MAX_DIGITS)) (w_or1 (t_val (e_any rfl B.any (a_cons (e_fr (f_lc rfl sc_whole_number.nd (i_seq (e_var 0)) (blkOk_by (N := ["text", "sign"]) (sc := defScope st_whole_number) (by decide +kernel)) (fun _ _ _ _ _ => pg_name (i := 1) sc_whole_number.nd rfl (Or.inl rfl)) (fun _ _ _ _ _ => (e_notIn (e_var 1) (e_globS Co.DECIMALS))))) a_nil)))))))
  (b_one (s_ret e_non))
  b_nil)
 (b_one (s_ret (e_if (PW.pt (w_and (t_eq hr (e_ix (e_var 0) e_int) e_str) (w_and1 (t_gt (e_len B.len (a_cons (e_var 0) a_nil)) e_int)))) e_non (e_intc B.int (a_cons (e_var 0) a_nil))))))
theorem d_parse_ratio {f : Addr} (c_whole_number : Fc P w K mg base 1 "whole_number" S_whole_number) (c_is_fraction : Fc P w K mg base 2 "is_fraction" S_is_fraction) (B : Bi mg) (cdv : Value) (A : Around) (outer : List Env) (s : Shared) (H : Hp) (E : XK) (hr : Room 2 (A.deeper (PyProof.Rows.envOfC "parse_ratio" (defScope st_parse_ratio) s.heap.objs.size f cdv))) :
    PSs (cxOf CX0 P w K mg base ["text", "minus", "above", "slash", "below", "numerator", "denominator", "part"] "parse_ratio" (defScope st_parse_ratio) f cdv A outer s H E).nox (defBody st_parse_ratio) (gS K AN.top (K04.g_parse_ratio (fun _ _ _ => False))) :=
  (b_cons (s_set (i := 1) sc_parse_ratio.nd (e_startswith (e_var 0) e_str))
 (b_cons (s_asg (e_partition (e_sl (e_var 0) (o_some (e_intc B.int (a_cons (e_var 1) a_nil))) o_none) e_str) (g_tup rfl (gs_cons (g_name 2 sc_parse_ratio.nd) (gs_cons (g_name 3 sc_parse_ratio.nd) (gs_cons (g_name 4 sc_parse_ratio.nd) gs_nil)))))
 (b_cons (s_set (i := 5) sc_parse_ratio.nd (e_call c_whole_number hr (by omega) (a_cons (e_var 2) a_nil)))
 (b_cons (s_set (i := 6) sc_parse_ratio.nd (e_if (t_eq hr (e_var 3) e_str) (e_call c_whole_number hr (by omega) (a_cons (e_var 4) a_nil)) e_int))
 (b_cons (s_if (PW.pt (w_or (t_isN (e_var 5)) (w_or (t_isN (e_var 6)) (w_or1 (PW.pt (w_and (t_val (e_var 1)) (w_and1 (t_eq hr (e_var 5) e_int))))))))
  (b_one s_never)
  b_nil)
 (b_cons (s_set (i := 7) sc_parse_ratio.nd (e_tup (a_cons (e_if (t_val (e_var 1)) (e_neg (e_var 5)) (e_var 5)) (a_cons (e_var 6) a_nil))))
 (b_cons (s_if (PW.pt (w_or (t_not (t_val (e_call c_is_fraction hr (by omega) (a_cons (e_var 7) a_nil)))) (w_or1 (PW.pt (w_and (t_eq hr (e_var 3) e_str) (w_and1 (t_eq hr (e_var 6) e_int)))))))
  (b_one s_never)
  b_nil)
 (b_one (s_ret (e_var 7))))))))))
theorem d_law_bag {f : Addr} (B : Bi mg) (cdv : Value) (A : Around) (outer : List Env) (s : Shared) (H : Hp) (E : XK) (hr : Room 0 (A.deeper (PyProof.Rows.envOfC "_law_bag" (defScope st_law_bag) s.heap.objs.size f cdv))) :
    PSs (cxOf CX0 P w K mg base ["_law_script", "_law_salt", "_law_cell"] "_law_bag" (defScope st_law_bag) f cdv A outer s H E).nox (defBody st_law_bag) (gS K AN.top g_law_bag) :=
  (b_cons (s_set (i := 1) sc_law_bag.nd e_int)
 (b_cons (s_for PassesOwn.never rfl (i_seq (e_sl (e_var 0) o_none (o_some e_int))) (g_name 2 sc_law_bag.nd)
  (b_one (s_set (i := 1) sc_law_bag.nd (e_mod (e_add (e_add (e_mul (e_var 1) e_int) (e_mod (e_var 2) e_int)) e_int) e_int))))
 (b_one (s_retO (f_lst (a_cons (e_fr (f_list B.list (a_cons (e_sl (e_var 0) o_none (o_some e_int)) a_nil))) (a_cons e_int (a_cons e_int (a_cons (e_var 1) (a_cons e_int a_nil))))))))))
theorem d_law_pull {f : Addr} (B : Bi mg) (cdv : Value) (A : Around) (outer : List Env) (s : Shared) (H : Hp) (E : XK) (hr : Room 0 (A.deeper (PyProof.Rows.envOfC "_law_pull" (defScope st_law_pull) s.heap.objs.size f cdv))) :
    PSs (cxOf CX0 P w K mg base ["_law_bag_here", "_law_many", "_law_cell", "_law_digit", "_law_seed"] "_law_pull" (defScope st_law_pull) f cdv A outer s H E).nox (defBody st_law_pull) (gS K AN.top g_law_pull) :=
  (b_cons (s_if (PW.pt (w_and (t_eq hr (e_ix (e_var 0) e_int) e_int) (w_and1 (t_lt (e_ix (e_var 0) e_int) (e_len B.len (a_cons (e_ix (e_var 0) e_int) a_nil))))))
  (b_cons (s_set (i := 2) sc_law_pull.nd (e_ix (e_ix (e_var 0) e_int) (e_ix (e_var 0) e_int)))
 (b_cons (s_asg (e_add (e_ix (e_var 0) e_int) e_int) (g_sub (e_var 0) e_int))
 (b_one (s_if (t_ge (e_var 2) (e_pow e_int e_int))
  (b_one (s_asg (e_var 2) (g_sub (e_var 0) e_int)))
  (b_one (s_asg (e_mod (e_add (e_add (e_mul (e_ix (e_var 0) e_int) e_int) (e_mul (e_mod (e_var 2) e_int) e_int)) e_int) e_int) (g_sub (e_var 0) e_int)))))))
  b_nil)
 (b_cons (s_if (t_gt (e_ix (e_var 0) e_int) e_int)
  (b_cons (s_set (i := 3) sc_law_pull.nd (e_mod (e_ix (e_var 0) e_int) (e_var 1)))
 (b_cons (s_asg (e_fdiv (e_ix (e_var 0) e_int) (e_var 1)) (g_sub (e_var 0) e_int))
 (b_one (s_ret (e_var 3)))))
  b_nil)
 (b_cons (s_asg (e_add (e_ix (e_var 0) e_int) e_int) (g_sub (e_var 0) e_int))
 (b_cons (s_set (i := 4) sc_law_pull.nd (e_mod (e_add (e_ix (e_var 0) e_int) (e_mul (e_ix (e_var 0) e_int) e_int)) e_int))
 (b_cons (s_asg (e_mod (e_add (e_add (e_mul (e_mod (e_mul (e_var 4) (e_var 4)) e_int) (e_var 4)) (e_mul e_int (e_var 4))) e_int) e_int) (g_sub (e_var 0) e_int))
 (b_one (s_ret (e_mod (e_add (e_fdiv (e_ix (e_var 0) e_int) e_int) (e_mul (e_mod (e_ix (e_var 0) e_int) e_int) e_int)) (e_var 1)))))))))
theorem d_law_of {f : Addr} (c_law_pull : Fc P w K mg base 1 "_law_pull" S_law_pull) (B : Bi mg) (cdv : Value) (A : Around) (outer : List Env) (s : Shared) (H : Hp) (E : XK) (hr : Room 1 (A.deeper (PyProof.Rows.envOfC "_law_of" (defScope st_law_of) s.heap.objs.size f cdv))) :
    PSs (cxOf CX0 P w K mg base ["_law_bag_here", "_law_some"] "_law_of" (defScope st_law_of) f cdv A outer s H E).nox (defBody st_law_of) (gS K AN.top g_law_of) :=
  (b_one (s_ret (e_ix (e_var 1) (e_call c_law_pull hr (by omega) (a_cons (e_var 0) (a_cons (e_len B.len (a_cons (e_var 1) a_nil)) a_nil))))))
theorem d_law_same (n : Nat) {f : Addr} (c_law_same : Fc P w K mg base n "_law_same" ((S_prev S_law_same n))) (B : Bi mg) (cdv : Value) (A : Around) (outer : List Env) (s : Shared) (H : Hp) (E : XK) (hr : Room n (A.deeper (PyProof.Rows.envOfC "_law_same" (defScope st_law_same) s.heap.objs.size f cdv))) :
    PSs (cxOf CX0 P w K mg base ["_law_found", "_law_due", "_law_k"] "_law_same" (defScope st_law_same) f cdv A outer s H E).nox (defBody st_law_same) (gS K AN.top (g_law_same (S_prev S_law_same n))) :=
  (b_cons (s_if (PW.pt (w_or (t_isN (e_var 1)) (w_or1 (t_isN (e_var 0)))))
  (b_one (s_ret (e_and (e_isN (e_var 0)) (e_one (e_isN (e_var 1))))))
  b_nil)
 (b_cons (s_if (t_val (e_isi2 (n := "list") (m := "tuple") B.isinstance B.list B.tuple (by decide +kernel) (by decide +kernel) (e_var 1)))
  (b_cons (s_if (PW.pt (w_or (t_ne hr (e_isi B.isinstance (a_cons (e_var 0) (a_cons (e_ty (n := "list") B.list (by decide +kernel)) a_nil))) (e_isi B.isinstance (a_cons (e_var 1) (a_cons (e_ty (n := "list") B.list (by decide +kernel)) a_nil)))) (w_or1 (t_ne hr (e_isi B.isinstance (a_cons (e_var 0) (a_cons (e_ty (n := "tuple") B.tuple (by decide +kernel)) a_nil))) (e_isi B.isinstance (a_cons (e_var 1) (a_cons (e_ty (n := "tuple") B.tuple (by decide +kernel)) a_nil)))))))
  (b_one (s_ret e_bl))
  b_nil)
 (b_one (s_ret (e_and (e_eq hr (e_len B.len (a_cons (e_var 0) a_nil)) (e_len B.len (a_cons (e_var 1) a_nil))) (e_one (e_all rfl B.all (a_cons (e_fr (f_lc rfl sc_law_same.nd (i_range1 B.range (a_cons (e_len B.len (a_cons (e_var 1) a_nil)) a_nil)) (blkOk_by (N := ["_law_found", "_law_due", "_law_k"]) (sc := defScope st_law_same) (by decide +kernel)) (fun _ _ _ _ _ => pg_name (i := 2) sc_law_same.nd rfl (Or.inl rfl)) (fun _ _ _ _ _ => (e_call c_law_same hr (by omega) (a_cons (e_ix (e_var 0) (e_var 2)) (a_cons (e_ix (e_var 1) (e_var 2)) a_nil)))))) a_nil)))))))
  b_nil)
 (b_cons (s_if (PW.pt (w_or (t_ne hr (e_isi B.isinstance (a_cons (e_var 1) (a_cons (e_ty (n := "bool") B.bool (by decide +kernel)) a_nil))) (e_isi B.isinstance (a_cons (e_var 0) (a_cons (e_ty (n := "bool") B.bool (by decide +kernel)) a_nil)))) (w_or1 (t_ne hr (e_isi B.isinstance (a_cons (e_var 1) (a_cons (e_ty (n := "int") B.int (by decide +kernel)) a_nil))) (e_isi B.isinstance (a_cons (e_var 0) (a_cons (e_ty (n := "int") B.int (by decide +kernel)) a_nil)))))))
  (b_one (s_ret e_bl))
  b_nil)
 (b_one (s_ret (e_and (e_eq hr (e_isi B.isinstance (a_cons (e_var 1) (a_cons (e_ty (n := "str") B.str (by decide +kernel)) a_nil))) (e_isi B.isinstance (a_cons (e_var 0) (a_cons (e_ty (n := "str") B.str (by decide +kernel)) a_nil)))) (e_one (e_eq hr (e_var 0) (e_var 1)))))))))
theorem d_law_gcd {f : Addr} (B : Bi mg) (cdv : Value) (A : Around) (outer : List Env) (s : Shared) (H : Hp) (E : XK) (hr : Room 0 (A.deeper (PyProof.Rows.envOfC "_law_gcd" (defScope st_law_gcd) s.heap.objs.size f cdv))) :
    PSs (cxOf CX0 P w K mg base ["_law_a", "_law_b"] "_law_gcd" (defScope st_law_gcd) f cdv A outer s H E).nox (defBody st_law_gcd) (gS K AN.top g_law_gcd) :=
  (b_cons (s_while PassesOwn.never (t_ne hr (e_var 1) e_int)
  (b_one (s_par (i := 0) (j := 1) rfl sc_law_gcd.nd rfl rfl (by decide) rfl rfl (a_cons (e_var 1) (a_cons (e_mod (e_var 0) (e_var 1)) a_nil)) (by rfl))))
 (b_one (s_ret (e_abs B.abs (a_cons (e_var 0) a_nil)))))
theorem d_law_low {f : Addr} (c_law_gcd : Fc P w K mg base 1 "_law_gcd" S_law_gcd) (cdv : Value) (A : Around) (outer : List Env) (s : Shared) (H : Hp) (E : XK) (hr : Room 1 (A.deeper (PyProof.Rows.envOfC "_law_low" (defScope st_law_low) s.heap.objs.size f cdv))) :
    PSs (cxOf CX0 P w K mg base ["_law_a", "_law_b", "_law_by"] "_law_low" (defScope st_law_low) f cdv A outer s H E).nox (defBody st_law_low) (gS K AN.top g_law_low) :=
  (b_cons (s_set (i := 2) sc_law_low.nd (e_call c_law_gcd hr (by omega) (a_cons (e_var 0) (a_cons (e_var 1) a_nil))))
 (b_one (s_ret (e_tup (a_cons (e_fdiv (e_var 0) (e_var 2)) (a_cons (e_fdiv (e_var 1) (e_var 2)) a_nil))))))
theorem d_law_add {f : Addr} (c_law_low : Fc P w K mg base 2 "_law_low" S_law_low) (cdv : Value) (A : Around) (outer : List Env) (s : Shared) (H : Hp) (E : XK) (hr : Room 2 (A.deeper (PyProof.Rows.envOfC "_law_add" (defScope st_law_add) s.heap.objs.size f cdv))) :
    PSs (cxOf CX0 P w K mg base ["_law_p", "_law_q"] "_law_add" (defScope st_law_add) f cdv A outer s H E).nox (defBody st_law_add) (gS K AN.top g_law_add) :=
  (b_one (s_ret (e_call c_law_low hr (by omega) (a_cons (e_add (e_mul (e_ix (e_var 0) e_int) (e_ix (e_var 1) e_int)) (e_mul (e_ix (e_var 1) e_int) (e_ix (e_var 0) e_int))) (a_cons (e_mul (e_ix (e_var 0) e_int) (e_ix (e_var 1) e_int)) a_nil)))))
theorem d_law_sum {f : Addr} (c_law_add : Fc P w K mg base 3 "_law_add" S_law_add) (cdv : Value) (A : Around) (outer : List Env) (s : Shared) (H : Hp) (E : XK) (hr : Room 3 (A.deeper (PyProof.Rows.envOfC "_law_sum" (defScope st_law_sum) s.heap.objs.size f cdv))) :
    PSs (cxOf CX0 P w K mg base ["_law_parts", "_law_found", "_law_part"] "_law_sum" (defScope st_law_sum) f cdv A outer s H E).nox (defBody st_law_sum) (gS K AN.top g_law_sum) :=
  (b_cons (s_set (i := 1) sc_law_sum.nd (e_tup (a_cons e_int (a_cons e_int a_nil))))
 (b_cons (s_for PassesOwn.never rfl (i_seq (e_var 0)) (g_name 2 sc_law_sum.nd)
  (b_one (s_set (i := 1) sc_law_sum.nd (e_call c_law_add hr (by omega) (a_cons (e_var 1) (a_cons (e_var 2) a_nil))))))
 (b_one (s_ret (e_var 1)))))
theorem d_law_mul {f : Addr} (c_law_low : Fc P w K mg base 2 "_law_low" S_law_low) (cdv : Value) (A : Around) (outer : List Env) (s : Shared) (H : Hp) (E : XK) (hr : Room 2 (A.deeper (PyProof.Rows.envOfC "_law_mul" (defScope st_law_mul) s.heap.objs.size f cdv))) :
    PSs (cxOf CX0 P w K mg base ["_law_p", "_law_q"] "_law_mul" (defScope st_law_mul) f cdv A outer s H E).nox (defBody st_law_mul) (gS K AN.top g_law_mul) :=
  (b_one (s_ret (e_call c_law_low hr (by omega) (a_cons (e_mul (e_ix (e_var 0) e_int) (e_ix (e_var 1) e_int)) (a_cons (e_mul (e_ix (e_var 0) e_int) (e_ix (e_var 1) e_int)) a_nil)))))
theorem d_law_neg {f : Addr} (cdv : Value) (A : Around) (outer : List Env) (s : Shared) (H : Hp) (E : XK) (hr : Room 0 (A.deeper (PyProof.Rows.envOfC "_law_neg" (defScope st_law_neg) s.heap.objs.size f cdv))) :
    PSs (cxOf CX0 P w K mg base ["_law_p"] "_law_neg" (defScope st_law_neg) f cdv A outer s H E).nox (defBody st_law_neg) (gS K AN.top g_law_neg) :=
  (b_one (s_ret (e_tup (a_cons (e_sub e_int (e_ix (e_var 0) e_int)) (a_cons (e_ix (e_var 0) e_int) a_nil)))))
theorem d_law_less {f : Addr} (cdv : Value) (A : Around) (outer : List Env) (s : Shared) (H : Hp) (E : XK) (hr : Room 0 (A.deeper (PyProof.Rows.envOfC "_law_less" (defScope st_law_less) s.heap.objs.size f cdv))) :
    PSs (cxOf CX0 P w K mg base ["_law_p", "_law_q"] "_law_less" (defScope st_law_less) f cdv A outer s H E).nox (defBody st_law_less) (gS K AN.top g_law_less) :=
  (b_one (s_ret (e_lt (e_mul (e_ix (e_var 0) e_int) (e_ix (e_var 1) e_int)) (e_mul (e_ix (e_var 1) e_int) (e_ix (e_var 0) e_int)))))
theorem d_law_ratio_text {f : Addr} (B : Bi mg) (cdv : Value) (A : Around) (outer : List Env) (s : Shared) (H : Hp) (E : XK) (hr : Room 0 (A.deeper (PyProof.Rows.envOfC "_law_ratio_text" (defScope st_law_ratio_text) s.heap.objs.size f cdv))) :
    PSs (cxOf CX0 P w K mg base ["_law_part"] "_law_ratio_text" (defScope st_law_ratio_text) f cdv A outer s H E).nox (defBody st_law_ratio_text) (gS K AN.top g_law_ratio_text) :=
  (b_one (s_ret (e_add (e_strc B.str (a_cons (e_ix (e_var 0) e_int) a_nil)) (e_if (t_eq hr (e_ix (e_var 0) e_int) e_int) e_str (e_add e_str (e_strc B.str (a_cons (e_ix (e_var 0) e_int) a_nil)))))))
theorem d_law_long_number {f : Addr} (c_law_pull : Fc P w K mg base 1 "_law_pull" S_law_pull) (c_law_of : Fc P w K mg base 2 "_law_of" S_law_of) (B : Bi mg) (cdv : Value) (A : Around) (outer : List Env) (s : Shared) (H : Hp) (E : XK) (hr : Room 2 (A.deeper (PyProof.Rows.envOfC "_law_long_number" (defScope st_law_long_number) s.heap.objs.size f cdv))) :
    PSs (cxOf CX0 P w K mg base ["_law_bag_here", "_law_found", "_law_step"] "_law_long_number" (defScope st_law_long_number) f cdv A outer s H E).nox (defBody st_law_long_number) (gS K AN.top g_law_long_number) :=
  (b_cons (s_set (i := 1) sc_law_long_number.nd e_int)
 (b_cons (s_for PassesOwn.never rfl (i_range1 B.range (a_cons (e_add e_int (e_call c_law_pull hr (by omega) (a_cons (e_var 0) (a_cons e_int a_nil)))) a_nil)) (g_name 2 sc_law_long_number.nd)
  (b_one (s_set (i := 1) sc_law_long_number.nd (e_add (e_mul (e_var 1) (e_pow e_int e_int)) (e_call c_law_pull hr (by omega) (a_cons (e_var 0) (a_cons (e_pow e_int e_int) a_nil)))))))
 (b_one (s_ret (e_call c_law_of hr (by omega) (a_cons (e_var 0) (a_cons (e_fr (f_lst (a_cons (e_var 1) (a_cons (e_var 1) (a_cons (e_sub (e_sub (e_pow e_int e_int) e_int) (e_call c_law_pull hr (by omega) (a_cons (e_var 0) (a_cons e_int a_nil)))) a_nil))))) a_nil)))))))
theorem d_law {f : Addr} (c_law_bag : Fc P w K mg base 1 "_law_bag" S_law_bag) (c_law_long_number : Fc P w K mg base 3 "_law_long_number" S_law_long_number) (c_law_pull : Fc P w K mg base 1 "_law_pull" S_law_pull) (c_law_low : Fc P w K mg base 2 "_law_low" S_law_low) (c_reduced : Fc P w K mg base 2 "reduced" S_reduced) (c_law_same : Fc P w K mg base (3 + 1) "_law_same" (S_law_same 3)) (c_is_fraction : Fc P w K mg base 2 "is_fraction" S_is_fraction) (c_law_gcd : Fc P w K mg base 1 "_law_gcd" S_law_gcd) (c_plus : Fc P w K mg base 4 "plus" S_plus) (c_times : Fc P w K mg base 3 "times" S_times) (c_total : Fc P w K mg base 3 "total" S_total) (c_negative : Fc P w K mg base 1 "negative" S_negative) (c_order : Fc P w K mg base 1 "order" S_order) (c_law_less : Fc P w K mg base 1 "_law_less" S_law_less) (c_law_add : Fc P w K mg base 3 "_law_add" S_law_add) (c_law_sum : Fc P w K mg base 4 "_law_sum" S_total) (c_law_mul : Fc P w K mg base 3 "_law_mul" S_law_mul) (c_law_neg : Fc P w K mg base 1 "_law_neg" S_negative) (c_law_ratio_text : Fc P w K mg base 1 "_law_ratio_text" S_law_ratio_text) (c_ratio_text : Fc P w K mg base 1 "ratio_text" S_ratio_text) (c_parse_ratio : Fc P w K mg base 3 "parse_ratio" (calmS K04.S_parse_ratio)) (B : Bi mg) (ND : NoD K) (cdv : Value) (A : Around) (outer : List Env) (s : Shared) (H : Hp) (E : XK) (hr : Room 4 (A.deeper (PyProof.Rows.envOfC "law" (defScope st_law) s.heap.objs.size f cdv))) :
    PSs (cxOf CX0 P w K mg base ["_law_script", "_law_bag_here", "_law_turn", "_law_a", "_law_b", "_law_c", "_law_down", "_law_pairs", "_law_parts", "_law_told", "_law_one", "_law_two", "_law_three", "_law_sign", "_law_due", "_law_text", "_law_k", "_law_pair"] "law" (defScope st_law) f cdv A outer s H E).nox (defBody st_law) (gS K AN.top g_law) :=
  (b_cons (s_set (i := 1) sc_law.nd (e_call c_law_bag hr (by omega) (a_cons (e_var 0) a_nil)))
 (b_cons (s_for PassesOwn.never rfl (i_range1 B.range (a_cons e_int a_nil)) (g_name 2 sc_law.nd)
  (b_cons (s_asg (e_fr (f_lc rfl sc_law.nd (i_range1 B.range (a_cons e_int a_nil)) (blkOk_by (N := ["_law_script", "_law_bag_here", "_law_turn", "_law_a", "_law_b", "_law_c", "_law_down", "_law_pairs", "_law_parts", "_law_told", "_law_one", "_law_two", "_law_three", "_law_sign", "_law_due", "_law_text", "_law_k", "_law_pair"]) (sc := defScope st_law) (by decide +kernel)) (fun _ _ _ _ _ => pg_name (i := 16) sc_law.nd rfl (Or.inl rfl)) (fun _ _ _ _ _ => (e_call c_law_long_number hr (by omega) (a_cons (e_var 1) a_nil))))) (g_unl rfl (gs_cons (g_name 3 sc_law.nd) (gs_cons (g_name 4 sc_law.nd) (gs_cons (g_name 5 sc_law.nd) gs_nil)))))
 (b_cons (s_lcF (j := 6) rfl sc_law.nd rfl rfl (sw_true rfl rfl rfl (by decide +kernel)) (i_range1 B.range (a_cons e_int a_nil)) (blkOk_by (N := ["_law_script", "_law_bag_here", "_law_turn", "_law_a", "_law_b", "_law_c", "_law_down", "_law_pairs", "_law_parts", "_law_told", "_law_one", "_law_two", "_law_three", "_law_sign", "_law_due", "_law_text", "_law_k", "_law_pair"]) (sc := defScope st_law) (by decide +kernel)) (fun _ _ _ _ _ => pg_name (i := 16) sc_law.nd rfl (Or.inl rfl)) (fun _ _ _ _ _ => (e_max rfl B.max (a_cons e_int (a_cons (e_call c_law_long_number hr (by omega) (a_cons (e_var 1) a_nil)) a_nil)))))
 (b_cons (s_set (i := 7) sc_law.nd (e_fr (f_lst (a_cons (e_tup (a_cons (e_var 3) (a_cons (e_ix (e_var 6) e_int) a_nil))) (a_cons (e_tup (a_cons (e_sub e_int (e_var 4)) (a_cons (e_ix (e_var 6) e_int) a_nil))) (a_cons (e_tup (a_cons (e_min rfl B.min (a_cons (e_add (e_var 3) (e_call c_law_pull hr (by omega) (a_cons (e_var 1) (a_cons e_int a_nil)))) (a_cons (e_sub (e_pow e_int e_int) e_int) a_nil))) (a_cons (e_ix (e_var 6) e_int) a_nil))) a_nil))))))
 (b_cons (s_lcF (j := 8) rfl sc_law.nd rfl rfl (sw_true rfl rfl rfl (by decide +kernel)) (i_seq (e_var 7)) (blkOk_by (N := ["_law_script", "_law_bag_here", "_law_turn", "_law_a", "_law_b", "_law_c", "_law_down", "_law_pairs", "_law_parts", "_law_told", "_law_one", "_law_two", "_law_three", "_law_sign", "_law_due", "_law_text", "_law_k", "_law_pair"]) (sc := defScope st_law) (by decide +kernel)) (fun _ _ _ _ _ => pg_name (i := 17) sc_law.nd rfl (Or.inl rfl)) (fun _ _ _ _ _ => (e_call c_law_low hr (by omega) (a_cons (e_ix (e_var 17) e_int) (a_cons (e_ix (e_var 17) e_int) a_nil)))))
 (b_cons (s_set (i := 9) sc_law.nd (e_add (e_fr (f_lc rfl sc_law.nd (i_seq (e_var 7)) (blkOk_by (N := ["_law_script", "_law_bag_here", "_law_turn", "_law_a", "_law_b", "_law_c", "_law_down", "_law_pairs", "_law_parts", "_law_told", "_law_one", "_law_two", "_law_three", "_law_sign", "_law_due", "_law_text", "_law_k", "_law_pair"]) (sc := defScope st_law) (by decide +kernel)) (fun _ _ _ _ _ => pg_name (i := 17) sc_law.nd rfl (Or.inl rfl)) (fun _ _ _ _ _ => (e_call c_reduced hr (by omega) (a_cons (e_ix (e_var 17) e_int) (a_cons (e_ix (e_var 17) e_int) a_nil)))))) (e_fr (f_lst (a_cons (e_call c_reduced hr (by omega) (a_cons (e_sub e_int (e_var 5)) (a_cons (e_sub e_int (e_ix (e_var 6) e_int)) a_nil))) a_nil)))))
 (b_cons (s_if (t_not (t_val (e_call c_law_same hr (by omega) (a_cons (e_var 9) (a_cons (e_add (e_var 8) (e_fr (f_lst (a_cons (e_call c_law_low hr (by omega) (a_cons (e_var 5) (a_cons (e_ix (e_var 6) e_int) a_nil))) a_nil)))) a_nil)))))
  (b_one (s_ret e_bl))
  b_nil)
 (b_cons (s_lcF (j := 9) rfl sc_law.nd rfl rfl (sw_true rfl rfl rfl (by decide +kernel)) (i_seq (e_var 7)) (blkOk_by (N := ["_law_script", "_law_bag_here", "_law_turn", "_law_a", "_law_b", "_law_c", "_law_down", "_law_pairs", "_law_parts", "_law_told", "_law_one", "_law_two", "_law_three", "_law_sign", "_law_due", "_law_text", "_law_k", "_law_pair"]) (sc := defScope st_law) (by decide +kernel)) (fun _ _ _ _ _ => pg_name (i := 17) sc_law.nd rfl (Or.inl rfl)) (fun _ _ _ _ _ => (e_call c_is_fraction hr (by omega) (a_cons (e_var 17) a_nil))))
 (b_cons (s_if (t_not (t_val (e_call c_law_same hr (by omega) (a_cons (e_var 9) (a_cons (e_fr (f_lc rfl sc_law.nd (i_seq (e_var 7)) (blkOk_by (N := ["_law_script", "_law_bag_here", "_law_turn", "_law_a", "_law_b", "_law_c", "_law_down", "_law_pairs", "_law_parts", "_law_told", "_law_one", "_law_two", "_law_three", "_law_sign", "_law_due", "_law_text", "_law_k", "_law_pair"]) (sc := defScope st_law) (by decide +kernel)) (fun _ _ _ _ _ => pg_name (i := 17) sc_law.nd rfl (Or.inl rfl)) (fun _ _ _ _ _ => (e_eq hr (e_call c_law_gcd hr (by omega) (a_cons (e_ix (e_var 17) e_int) (a_cons (e_ix (e_var 17) e_int) a_nil))) e_int)))) a_nil)))))
  (b_one (s_ret e_bl))
  b_nil)
 (b_cons (s_asg (e_var 8) (g_unl rfl (gs_cons (g_name 10 sc_law.nd) (gs_cons (g_name 11 sc_law.nd) (gs_cons (g_name 12 sc_law.nd) gs_nil)))))
 (b_cons (s_set (i := 9) sc_law.nd (e_fr (f_lst (a_cons (e_call c_plus hr (by omega) (a_cons (e_var 10) (a_cons (e_var 11) a_nil))) (a_cons (e_call c_plus hr (by omega) (a_cons (e_var 10) (a_cons (e_var 11) (a_cons (e_var 12) a_nil)))) (a_cons (e_call c_times hr (by omega) (a_cons (e_var 10) (a_cons (e_var 11) a_nil))) (a_cons (e_call c_total hr (by omega) (a_cons (e_var 8) a_nil)) (a_cons (e_call c_negative hr (by omega) (a_cons (e_var 11) a_nil)) (a_cons (e_call c_order hr (by omega) (a_cons (e_var 10) (a_cons (e_var 12) a_nil))) a_nil)))))))))
 (b_cons (s_set (i := 13) sc_law.nd (e_sub (e_intc B.int (a_cons (e_call c_law_less hr (by omega) (a_cons (e_var 12) (a_cons (e_var 10) a_nil))) a_nil)) (e_intc B.int (a_cons (e_call c_law_less hr (by omega) (a_cons (e_var 10) (a_cons (e_var 12) a_nil))) a_nil))))
 (b_cons (s_set (i := 14) sc_law.nd (e_fr (f_lst (a_cons (e_call c_law_add hr (by omega) (a_cons (e_var 10) (a_cons (e_var 11) a_nil))) (a_cons (e_call c_law_sum hr (by omega) (a_cons (e_var 8) a_nil)) (a_cons (e_call c_law_mul hr (by omega) (a_cons (e_var 10) (a_cons (e_var 11) a_nil))) (a_cons (e_call c_law_sum hr (by omega) (a_cons (e_var 8) a_nil)) (a_cons (e_call c_law_neg hr (by omega) (a_cons (e_var 11) a_nil)) (a_cons (e_var 13) a_nil)))))))))
 (b_cons (s_if (t_not (t_val (e_call c_law_same hr (by omega) (a_cons (e_add (e_var 9) (e_fr (f_lst (a_cons (e_call c_order hr (by omega) (a_cons (e_var 12) (a_cons (e_var 10) a_nil))) (a_cons (e_call c_order hr (by omega) (a_cons (e_var 11) (a_cons (e_var 11) a_nil))) a_nil))))) (a_cons (e_add (e_var 14) (e_fr (f_lst (a_cons (e_sub e_int (e_var 13)) (a_cons e_int a_nil))))) a_nil)))))
  (b_one (s_ret e_bl))
  b_nil)
 (b_cons (s_set (i := 15) sc_law.nd (e_call c_law_ratio_text hr (by omega) (a_cons (e_var 10) a_nil)))
 (b_one (s_if (t_not (t_val (e_call c_law_same hr (by omega) (a_cons (e_fr (f_lst (a_cons (e_call c_ratio_text hr (by omega) (a_cons (e_var 10) a_nil)) (a_cons (e_call c_parse_ratio hr (by omega) (a_cons (e_var 15) a_nil)) a_nil)))) (a_cons (e_fr (f_lst (a_cons (e_var 15) (a_cons (e_var 10) a_nil)))) a_nil)))))
  (b_one (s_ret e_bl))
  b_nil)))))))))))))))))
 (b_cons (s_set (i := 15) sc_law.nd (e_add e_str (e_mul e_str (e_add e_int (e_call c_law_pull hr (by omega) (a_cons (e_var 1) (a_cons e_int a_nil)))))))
 (b_cons (s_set (i := 9) sc_law.nd (e_fr (f_lst (a_cons (e_call c_ratio_text hr (by omega) (a_cons (e_tup (a_cons (e_intcL ND B.int (a_cons (e_var 15) a_nil)) (a_cons e_int a_nil))) a_nil)) (a_cons (e_call c_ratio_text hr (by omega) (a_cons (e_tup (a_cons (e_neg e_int) (a_cons (e_intcL ND B.int (a_cons (e_var 15) a_nil)) a_nil))) a_nil)) a_nil)))))
 (b_cons (s_if (t_not (t_val (e_call c_law_same hr (by omega) (a_cons (e_var 9) (a_cons (e_fr (f_lst (a_cons (e_var 15) (a_cons (e_add e_str (e_var 15)) a_nil)))) a_nil)))))
  (b_one (s_ret e_bl))
  b_nil)
 (b_one (s_ret (e_call c_law_same hr (by omega) (a_cons (e_call c_plus hr (by omega) (a_cons (e_tup (a_cons (e_sub (e_pow e_int e_int) e_int) (a_cons e_int a_nil))) (a_cons (e_tup (a_cons e_int (a_cons (e_sub (e_pow e_int e_int) e_int) a_nil))) a_nil))) (a_cons (e_call c_law_add hr (by omega) (a_cons (e_tup (a_cons (e_sub (e_pow e_int e_int) e_int) (a_cons e_int a_nil))) (a_cons (e_tup (a_cons e_int (a_cons (e_sub (e_pow e_int e_int) e_int) a_nil))) a_nil))) a_nil))))))))))
end
def fas0 : List He.Fa := [.glo "common_divisor",
  .glo "reduced",
  .glo "is_fraction",
  .glo "total",
  .glo "plus",
  .glo "negative",
  .glo "times",
  .glo "order",
  .glo "ratio_text",
  .glo "whole_number",
  .glo "parse_ratio",
  .glo "_law_bag",
  .glo "_law_pull",
  .glo "_law_of",
  .glo "_law_same",
  .glo "_law_gcd",
  .glo "_law_low",
  .glo "_law_add",
  .glo "_law_sum",
  .glo "_law_mul"]
def fas1 : List He.Fa := [.glo "_law_neg",
  .glo "_law_less",
  .glo "_law_ratio_text",
  .glo "_law_long_number",
  .glo "law",
  .free "abs",
  .free "len",
  .free "int",
  .free "str",
  .free "any",
  .free "list",
  .free "isinstance",
  .free "tuple",
  .free "all",
  .free "range",
  .free "bool",
  .free "max",
  .free "min",
  .int "MAX_DIGITS" 30,
  .str "DECIMALS" "0123456789"]
def fas : List He.Fa := fas0 ++ fas1
def fex0 : List ((PySem.W.Frag → Bool)) := [fun K => decide (PySem.W.nsIn K cStatics "sys.int_max_str_digits" = some none)]
def fex : List ((PySem.W.Frag → Bool)) := fex0
def fns0 : List He.FnD := [⟨("common_divisor", none), "common_divisor", "common_divisor", defArgs st_common_divisor, defBody st_common_divisor, defScope st_common_divisor⟩,
  ⟨("reduced", none), "reduced", "reduced", defArgs st_reduced, defBody st_reduced, defScope st_reduced⟩,
  ⟨("is_fraction", none), "is_fraction", "is_fraction", defArgs st_is_fraction, defBody st_is_fraction, defScope st_is_fraction⟩,
  ⟨("total", none), "total", "total", defArgs st_total, defBody st_total, defScope st_total⟩,
  ⟨("plus", none), "plus", "plus", defArgs st_plus, defBody st_plus, defScope st_plus⟩,
  ⟨("negative", none), "negative", "negative", defArgs st_negative, defBody st_negative, defScope st_negative⟩,
  ⟨("times", none), "times", "times", defArgs st_times, defBody st_times, defScope st_times⟩,
  ⟨("order", none), "order", "order", defArgs st_order, defBody st_order, defScope st_order⟩,
  ⟨("ratio_text", none), "ratio_text", "ratio_text", defArgs st_ratio_text, defBody st_ratio_text, defScope st_ratio_text⟩,
  ⟨("whole_number", none), "whole_number", "whole_number", defArgs st_whole_number, defBody st_whole_number, defScope st_whole_number⟩,
  ⟨("parse_ratio", none), "parse_ratio", "parse_ratio", defArgs st_parse_ratio, defBody st_parse_ratio, defScope st_parse_ratio⟩,
  ⟨("_law_bag", none), "_law_bag", "_law_bag", defArgs st_law_bag, defBody st_law_bag, defScope st_law_bag⟩,
  ⟨("_law_pull", none), "_law_pull", "_law_pull", defArgs st_law_pull, defBody st_law_pull, defScope st_law_pull⟩,
  ⟨("_law_of", none), "_law_of", "_law_of", defArgs st_law_of, defBody st_law_of, defScope st_law_of⟩,
  ⟨("_law_same", none), "_law_same", "_law_same", defArgs st_law_same, defBody st_law_same, defScope st_law_same⟩,
  ⟨("_law_gcd", none), "_law_gcd", "_law_gcd", defArgs st_law_gcd, defBody st_law_gcd, defScope st_law_gcd⟩,
  ⟨("_law_low", none), "_law_low", "_law_low", defArgs st_law_low, defBody st_law_low, defScope st_law_low⟩,
  ⟨("_law_add", none), "_law_add", "_law_add", defArgs st_law_add, defBody st_law_add, defScope st_law_add⟩,
  ⟨("_law_sum", none), "_law_sum", "_law_sum", defArgs st_law_sum, defBody st_law_sum, defScope st_law_sum⟩,
  ⟨("_law_mul", none), "_law_mul", "_law_mul", defArgs st_law_mul, defBody st_law_mul, defScope st_law_mul⟩]
def fns1 : List He.FnD := [⟨("_law_neg", none), "_law_neg", "_law_neg", defArgs st_law_neg, defBody st_law_neg, defScope st_law_neg⟩,
  ⟨("_law_less", none), "_law_less", "_law_less", defArgs st_law_less, defBody st_law_less, defScope st_law_less⟩,
  ⟨("_law_ratio_text", none), "_law_ratio_text", "_law_ratio_text", defArgs st_law_ratio_text, defBody st_law_ratio_text, defScope st_law_ratio_text⟩,
  ⟨("_law_long_number", none), "_law_long_number", "_law_long_number", defArgs st_law_long_number, defBody st_law_long_number, defScope st_law_long_number⟩,
  ⟨("law", none), "law", "law", defArgs st_law, defBody st_law, defScope st_law⟩]
def fns : List He.FnD := fns0 ++ fns1
def plan : Plan := ⟨(fas.map fun f K => f.ok K) ++ fex, fns, [], []⟩
def loose0 : List Str := ["GrainError",
  "InvalidFraction",
  "MAX_DIGITS",
  "DECIMALS",
  "common_divisor",
  "reduced",
  "is_fraction",
  "total",
  "plus",
  "negative",
  "times",
  "order",
  "ratio_text",
  "whole_number",
  "parse_ratio",
  "_law_bag",
  "_law_pull",
  "_law_of",
  "_law_same",
  "_law_gcd"]
def loose1 : List Str := ["_law_low",
  "_law_add",
  "_law_sum",
  "_law_mul",
  "_law_neg",
  "_law_less",
  "_law_ratio_text",
  "_law_long_number"]
def loose : List Str := loose0 ++ loose1
abbrev R : PySem.W.OpenRow := PySem.W.OpenLaw.row PySem.Challenge.rw_graincourse_k87_numbers_of_thirty_digits
def ob (s : PySem.W.SharedT) : AlQ := plan.obsG (HandSHeadRun.getT s)
theorem ob_eq (s : PySem.W.SharedT) : ob s = plan.hook.obs s.abs := Plan.obsG_eq (HandSHeadRun.getT_eq s)
set_option maxHeartbeats 0 in
theorem runF (w : World) : HandSHeadRun.RunEq R (PySem.W.view R.prog [31]) plan.hook ob 20000 loose (w.withFollow "special-get-raises" false) := by
  intro os
  kernel_rfl
set_option maxHeartbeats 0 in
theorem runT (w : World) : HandSHeadRun.RunEq R (PySem.W.view R.prog [31]) plan.hook ob 20000 loose (w.withFollow "special-get-raises" true) := by
  intro os
  kernel_rfl
theorem run (w : World) : HandSHeadRun.RunEq R (PySem.W.view R.prog [31]) plan.hook ob 20000 loose w := PySem.W.byRow2 "special-get-raises" (P := fun w => HandSHeadRun.RunEq R (PySem.W.view R.prog [31]) plan.hook ob 20000 loose w) runF runT w
theorem rec_law_same {P : Program} {w : World} {K : PySem.W.Frag} {mg : Str → Option Value} {base : Heap} {f : Addr} {fd : FuncData} (F : Fun K "_law_same" "_law_same" st_law_same f fd) (hm : mg "_law_same" = some (.ref f)) (b : Binds K fd ["_law_found", "_law_due"] []) (B : Bi mg) : ∀ n : Nat, Fc P w K mg base (n + 1) "_law_same" (S_law_same n)
  | 0 => gfun F hm b sc_law_same (len_law_same 0) (fun cdv A outer s H E hr => d_law_same 0 (fc_none F hm) B cdv A outer s H E hr) (pure_law_same 0)
  | n + 1 => gfun F hm b sc_law_same (len_law_same (n + 1)) (fun cdv A outer s H E hr => d_law_same (n + 1) (rec_law_same F hm b B n) B cdv A outer s H E hr) (pure_law_same (n + 1))
theorem all_mk {l : PySem.W.OpenLaw} {w : World} {K : PySem.W.Frag} {h : Heap} {mg : Str → Option Value} {fa : Addr} (X : K.In h) (G : h.Ns mainGlobals mg) (hfa : mg "law" = some (.ref fa)) (c : plan.Says h K) : ∃ fd : FuncData, (∀ (s : Shared) (v : Value), BindsTo s fd ⟨[v], []⟩ [("_law_script", v)]) ∧ ∀ base : Heap, K.In base → base.Ns mainGlobals mg → FnOk l.prog w K mg base CX0 5 fa fd ["_law_script"] (spLaw K) := by
  have e := hfa.symm.trans (He.glo_ok X G (c.factAt 24 (f := fun K => (He.Fa.glo "law").ok K) rfl))
  cases e
  have B : Bi mg := { abs := He.free_ok X G (c.factAt 25 (f := fun K => (He.Fa.free "abs").ok K) rfl), len := He.free_ok X G (c.factAt 26 (f := fun K => (He.Fa.free "len").ok K) rfl), int := He.free_ok X G (c.factAt 27 (f := fun K => (He.Fa.free "int").ok K) rfl), str := He.free_ok X G (c.factAt 28 (f := fun K => (He.Fa.free "str").ok K) rfl), any := He.free_ok X G (c.factAt 29 (f := fun K => (He.Fa.free "any").ok K) rfl), list := He.free_ok X G (c.factAt 30 (f := fun K => (He.Fa.free "list").ok K) rfl), isinstance := He.free_ok X G (c.factAt 31 (f := fun K => (He.Fa.free "isinstance").ok K) rfl), tuple := He.free_ok X G (c.factAt 32 (f := fun K => (He.Fa.free "tuple").ok K) rfl), all := He.free_ok X G (c.factAt 33 (f := fun K => (He.Fa.free "all").ok K) rfl), range := He.free_ok X G (c.factAt 34 (f := fun K => (He.Fa.free "range").ok K) rfl), bool := He.free_ok X G (c.factAt 35 (f := fun K => (He.Fa.free "bool").ok K) rfl), max := He.free_ok X G (c.factAt 36 (f := fun K => (He.Fa.free "max").ok K) rfl), min := He.free_ok X G (c.factAt 37 (f := fun K => (He.Fa.free "min").ok K) rfl) }
  have Co : Cons mg := { MAX_DIGITS := He.int_ok X G (c.factAt 38 (f := fun K => (He.Fa.int "MAX_DIGITS" 30).ok K) rfl), DECIMALS := He.str_ok X G (c.factAt 39 (f := fun K => (He.Fa.str "DECIMALS" "0123456789").ok K) rfl) }
  obtain ⟨fd_common_divisor, F_common_divisor⟩ := c.fun_ 0 (x := "common_divisor") (q := "common_divisor") (at_ := ("common_divisor", none)) (st := st_common_divisor) rfl
  have m_common_divisor := He.glo_ok X G (c.factAt 0 (f := fun K => (He.Fa.glo "common_divisor").ok K) rfl)
  have b_common_divisor := F_common_divisor.binds (ps := ["one", "other"]) fun _ _ _ _ _ _ us hl => match us, hl with | [_, _], _ => rfl
  obtain ⟨fd_reduced, F_reduced⟩ := c.fun_ 1 (x := "reduced") (q := "reduced") (at_ := ("reduced", none)) (st := st_reduced) rfl
  have m_reduced := He.glo_ok X G (c.factAt 1 (f := fun K => (He.Fa.glo "reduced").ok K) rfl)
  have b_reduced := F_reduced.binds (ps := ["numerator", "denominator"]) fun _ _ _ _ _ _ us hl => match us, hl with | [_, _], _ => rfl
  obtain ⟨fd_is_fraction, F_is_fraction⟩ := c.fun_ 2 (x := "is_fraction") (q := "is_fraction") (at_ := ("is_fraction", none)) (st := st_is_fraction) rfl
  have m_is_fraction := He.glo_ok X G (c.factAt 2 (f := fun K => (He.Fa.glo "is_fraction").ok K) rfl)
  have b_is_fraction := F_is_fraction.binds (ps := ["value"]) fun _ _ _ _ _ _ us hl => match us, hl with | [_], _ => rfl
  obtain ⟨fd_total, F_total⟩ := c.fun_ 3 (x := "total") (q := "total") (at_ := ("total", none)) (st := st_total) rfl
  have m_total := He.glo_ok X G (c.factAt 3 (f := fun K => (He.Fa.glo "total").ok K) rfl)
  have b_total := F_total.binds (ps := ["parts"]) fun _ _ _ _ _ _ us hl => match us, hl with | [_], _ => rfl
  obtain ⟨fd_plus, F_plus⟩ := c.fun_ 4 (x := "plus") (q := "plus") (at_ := ("plus", none)) (st := st_plus) rfl
  have m_plus := He.glo_ok X G (c.factAt 4 (f := fun K => (He.Fa.glo "plus").ok K) rfl)
  obtain ⟨fd_negative, F_negative⟩ := c.fun_ 5 (x := "negative") (q := "negative") (at_ := ("negative", none)) (st := st_negative) rfl
  have m_negative := He.glo_ok X G (c.factAt 5 (f := fun K => (He.Fa.glo "negative").ok K) rfl)
  have b_negative := F_negative.binds (ps := ["part"]) fun _ _ _ _ _ _ us hl => match us, hl with | [_], _ => rfl
  obtain ⟨fd_times, F_times⟩ := c.fun_ 6 (x := "times") (q := "times") (at_ := ("times", none)) (st := st_times) rfl
  have m_times := He.glo_ok X G (c.factAt 6 (f := fun K => (He.Fa.glo "times").ok K) rfl)
  obtain ⟨fd_order, F_order⟩ := c.fun_ 7 (x := "order") (q := "order") (at_ := ("order", none)) (st := st_order) rfl
  have m_order := He.glo_ok X G (c.factAt 7 (f := fun K => (He.Fa.glo "order").ok K) rfl)
  have b_order := F_order.binds (ps := ["one", "other"]) fun _ _ _ _ _ _ us hl => match us, hl with | [_, _], _ => rfl
  obtain ⟨fd_ratio_text, F_ratio_text⟩ := c.fun_ 8 (x := "ratio_text") (q := "ratio_text") (at_ := ("ratio_text", none)) (st := st_ratio_text) rfl
  have m_ratio_text := He.glo_ok X G (c.factAt 8 (f := fun K => (He.Fa.glo "ratio_text").ok K) rfl)
  have b_ratio_text := F_ratio_text.binds (ps := ["part"]) fun _ _ _ _ _ _ us hl => match us, hl with | [_], _ => rfl
  obtain ⟨fd_whole_number, F_whole_number⟩ := c.fun_ 9 (x := "whole_number") (q := "whole_number") (at_ := ("whole_number", none)) (st := st_whole_number) rfl
  have m_whole_number := He.glo_ok X G (c.factAt 9 (f := fun K => (He.Fa.glo "whole_number").ok K) rfl)
  have b_whole_number := F_whole_number.binds (ps := ["text"]) fun _ _ _ _ _ _ us hl => match us, hl with | [_], _ => rfl
  obtain ⟨fd_parse_ratio, F_parse_ratio⟩ := c.fun_ 10 (x := "parse_ratio") (q := "parse_ratio") (at_ := ("parse_ratio", none)) (st := st_parse_ratio) rfl
  have m_parse_ratio := He.glo_ok X G (c.factAt 10 (f := fun K => (He.Fa.glo "parse_ratio").ok K) rfl)
  have b_parse_ratio := F_parse_ratio.binds (ps := ["text"]) fun _ _ _ _ _ _ us hl => match us, hl with | [_], _ => rfl
  obtain ⟨fd_law_bag, F_law_bag⟩ := c.fun_ 11 (x := "_law_bag") (q := "_law_bag") (at_ := ("_law_bag", none)) (st := st_law_bag) rfl
  have m_law_bag := He.glo_ok X G (c.factAt 11 (f := fun K => (He.Fa.glo "_law_bag").ok K) rfl)
  have b_law_bag := F_law_bag.binds (ps := ["_law_script"]) fun _ _ _ _ _ _ us hl => match us, hl with | [_], _ => rfl
  obtain ⟨fd_law_pull, F_law_pull⟩ := c.fun_ 12 (x := "_law_pull") (q := "_law_pull") (at_ := ("_law_pull", none)) (st := st_law_pull) rfl
  have m_law_pull := He.glo_ok X G (c.factAt 12 (f := fun K => (He.Fa.glo "_law_pull").ok K) rfl)
  have b_law_pull := F_law_pull.binds (ps := ["_law_bag_here", "_law_many"]) fun _ _ _ _ _ _ us hl => match us, hl with | [_, _], _ => rfl
  obtain ⟨fd_law_of, F_law_of⟩ := c.fun_ 13 (x := "_law_of") (q := "_law_of") (at_ := ("_law_of", none)) (st := st_law_of) rfl
  have m_law_of := He.glo_ok X G (c.factAt 13 (f := fun K => (He.Fa.glo "_law_of").ok K) rfl)
  have b_law_of := F_law_of.binds (ps := ["_law_bag_here", "_law_some"]) fun _ _ _ _ _ _ us hl => match us, hl with | [_, _], _ => rfl
  obtain ⟨fd_law_same, F_law_same⟩ := c.fun_ 14 (x := "_law_same") (q := "_law_same") (at_ := ("_law_same", none)) (st := st_law_same) rfl
  have m_law_same := He.glo_ok X G (c.factAt 14 (f := fun K => (He.Fa.glo "_law_same").ok K) rfl)
  have b_law_same := F_law_same.binds (ps := ["_law_found", "_law_due"]) fun _ _ _ _ _ _ us hl => match us, hl with | [_, _], _ => rfl
  obtain ⟨fd_law_gcd, F_law_gcd⟩ := c.fun_ 15 (x := "_law_gcd") (q := "_law_gcd") (at_ := ("_law_gcd", none)) (st := st_law_gcd) rfl
  have m_law_gcd := He.glo_ok X G (c.factAt 15 (f := fun K => (He.Fa.glo "_law_gcd").ok K) rfl)
  have b_law_gcd := F_law_gcd.binds (ps := ["_law_a", "_law_b"]) fun _ _ _ _ _ _ us hl => match us, hl with | [_, _], _ => rfl
  obtain ⟨fd_law_low, F_law_low⟩ := c.fun_ 16 (x := "_law_low") (q := "_law_low") (at_ := ("_law_low", none)) (st := st_law_low) rfl
  have m_law_low := He.glo_ok X G (c.factAt 16 (f := fun K => (He.Fa.glo "_law_low").ok K) rfl)
  have b_law_low := F_law_low.binds (ps := ["_law_a", "_law_b"]) fun _ _ _ _ _ _ us hl => match us, hl with | [_, _], _ => rfl
  obtain ⟨fd_law_add, F_law_add⟩ := c.fun_ 17 (x := "_law_add") (q := "_law_add") (at_ := ("_law_add", none)) (st := st_law_add) rfl
  have m_law_add := He.glo_ok X G (c.factAt 17 (f := fun K => (He.Fa.glo "_law_add").ok K) rfl)
  have b_law_add := F_law_add.binds (ps := ["_law_p", "_law_q"]) fun _ _ _ _ _ _ us hl => match us, hl with | [_, _], _ => rfl
  obtain ⟨fd_law_sum, F_law_sum⟩ := c.fun_ 18 (x := "_law_sum") (q := "_law_sum") (at_ := ("_law_sum", none)) (st := st_law_sum) rfl
  have m_law_sum := He.glo_ok X G (c.factAt 18 (f := fun K => (He.Fa.glo "_law_sum").ok K) rfl)
  have b_law_sum := F_law_sum.binds (ps := ["_law_parts"]) fun _ _ _ _ _ _ us hl => match us, hl with | [_], _ => rfl
  obtain ⟨fd_law_mul, F_law_mul⟩ := c.fun_ 19 (x := "_law_mul") (q := "_law_mul") (at_ := ("_law_mul", none)) (st := st_law_mul) rfl
  have m_law_mul := He.glo_ok X G (c.factAt 19 (f := fun K => (He.Fa.glo "_law_mul").ok K) rfl)
  have b_law_mul := F_law_mul.binds (ps := ["_law_p", "_law_q"]) fun _ _ _ _ _ _ us hl => match us, hl with | [_, _], _ => rfl
  obtain ⟨fd_law_neg, F_law_neg⟩ := c.fun_ 20 (x := "_law_neg") (q := "_law_neg") (at_ := ("_law_neg", none)) (st := st_law_neg) rfl
  have m_law_neg := He.glo_ok X G (c.factAt 20 (f := fun K => (He.Fa.glo "_law_neg").ok K) rfl)
  have b_law_neg := F_law_neg.binds (ps := ["_law_p"]) fun _ _ _ _ _ _ us hl => match us, hl with | [_], _ => rfl
  obtain ⟨fd_law_less, F_law_less⟩ := c.fun_ 21 (x := "_law_less") (q := "_law_less") (at_ := ("_law_less", none)) (st := st_law_less) rfl
  have m_law_less := He.glo_ok X G (c.factAt 21 (f := fun K => (He.Fa.glo "_law_less").ok K) rfl)
  have b_law_less := F_law_less.binds (ps := ["_law_p", "_law_q"]) fun _ _ _ _ _ _ us hl => match us, hl with | [_, _], _ => rfl
  obtain ⟨fd_law_ratio_text, F_law_ratio_text⟩ := c.fun_ 22 (x := "_law_ratio_text") (q := "_law_ratio_text") (at_ := ("_law_ratio_text", none)) (st := st_law_ratio_text) rfl
  have m_law_ratio_text := He.glo_ok X G (c.factAt 22 (f := fun K => (He.Fa.glo "_law_ratio_text").ok K) rfl)
  have b_law_ratio_text := F_law_ratio_text.binds (ps := ["_law_part"]) fun _ _ _ _ _ _ us hl => match us, hl with | [_], _ => rfl
  obtain ⟨fd_law_long_number, F_law_long_number⟩ := c.fun_ 23 (x := "_law_long_number") (q := "_law_long_number") (at_ := ("_law_long_number", none)) (st := st_law_long_number) rfl
  have m_law_long_number := He.glo_ok X G (c.factAt 23 (f := fun K => (He.Fa.glo "_law_long_number").ok K) rfl)
  have b_law_long_number := F_law_long_number.binds (ps := ["_law_bag_here"]) fun _ _ _ _ _ _ us hl => match us, hl with | [_], _ => rfl
  obtain ⟨fd_law, F_law⟩ := c.fun_ 24 (x := "law") (q := "law") (at_ := ("law", none)) (st := st_law) rfl
  have ND0 : PySem.W.nsIn K cStatics "sys.int_max_str_digits" = some none := of_decide_eq_true (c.factAt 40 (f := fun K => decide (PySem.W.nsIn K cStatics "sys.int_max_str_digits" = some none)) rfl)
  have ND : NoD K := ND0
  refine ⟨fd_law, bindsLaw F_law (fun _ _ _ _ _ _ _ => rfl), fun base _ _ => ?_⟩
  have c_common_divisor : Fc l.prog w K mg base 1 "common_divisor" S_law_gcd := gfun F_common_divisor m_common_divisor b_common_divisor sc_common_divisor len_law_gcd (fun cdv A outer s H E hr => d_common_divisor B cdv A outer s H E hr) pure_law_gcd
  have c_reduced : Fc l.prog w K mg base 2 "reduced" S_reduced := gfun F_reduced m_reduced b_reduced sc_reduced len_reduced (fun cdv A outer s H E hr => d_reduced c_common_divisor cdv A outer s H E hr) pure_reduced
  have c_is_fraction : Fc l.prog w K mg base 2 "is_fraction" S_is_fraction := gfun F_is_fraction m_is_fraction b_is_fraction sc_is_fraction len_is_fraction (fun cdv A outer s H E hr => d_is_fraction c_common_divisor B cdv A outer s H E hr) pure_is_fraction
  have c_total : Fc l.prog w K mg base 3 "total" S_total := gfun F_total m_total b_total sc_total len_total (fun cdv A outer s H E hr => d_total c_reduced cdv A outer s H E hr) pure_total
  have c_plus : Fc l.prog w K mg base 4 "plus" S_plus := gfunStar F_plus m_plus sc_plus (fun _ _ _ _ _ _ rest => match rest with | [] => rfl | _ :: _ => rfl) len_plus (fun cdv A outer s H E hr => d_plus c_total cdv A outer s H E hr) pure_plus
  have c_negative : Fc l.prog w K mg base 1 "negative" S_negative := gfun F_negative m_negative b_negative sc_negative len_negative (fun cdv A outer s H E hr => d_negative cdv A outer s H E hr) pure_negative
  have c_times : Fc l.prog w K mg base 3 "times" S_times := gfunStar F_times m_times sc_times (fun _ _ _ _ _ _ rest => match rest with | [] => rfl | _ :: _ => rfl) len_times (fun cdv A outer s H E hr => d_times c_reduced cdv A outer s H E hr) pure_times
  have c_order : Fc l.prog w K mg base 1 "order" S_order := gfun F_order m_order b_order sc_order len_order (fun cdv A outer s H E hr => d_order B cdv A outer s H E hr) pure_order
  have c_ratio_text : Fc l.prog w K mg base 1 "ratio_text" S_ratio_text := gfun F_ratio_text m_ratio_text b_ratio_text sc_ratio_text len_ratio_text (fun cdv A outer s H E hr => d_ratio_text B ND cdv A outer s H E hr) pure_ratio_text
  have c_whole_number : Fc l.prog w K mg base 1 "whole_number" S_whole_number := gfun F_whole_number m_whole_number b_whole_number sc_whole_number len_whole_number (fun cdv A outer s H E hr => d_whole_number B Co cdv A outer s H E hr) pure_whole_number
  have c_parse_ratio : Fc l.prog w K mg base 3 "parse_ratio" (calmS K04.S_parse_ratio) := gfun F_parse_ratio m_parse_ratio b_parse_ratio sc_parse_ratio len_parse87 (fun cdv A outer s H E hr => d_parse_ratio c_whole_number c_is_fraction B cdv A outer s H E hr) pure_parse87
  have c_law_bag : Fc l.prog w K mg base 1 "_law_bag" S_law_bag := gfun_bag F_law_bag m_law_bag b_law_bag sc_law_bag (fun cdv A outer s H E hr => d_law_bag B cdv A outer s H E hr)
  have c_law_pull : Fc l.prog w K mg base 1 "_law_pull" S_law_pull := gfun_pull F_law_pull m_law_pull b_law_pull sc_law_pull (fun cdv A outer s H E hr => d_law_pull B cdv A outer s H E hr)
  have c_law_of : Fc l.prog w K mg base 2 "_law_of" S_law_of := gfun F_law_of m_law_of b_law_of sc_law_of len_law_of (fun cdv A outer s H E hr => d_law_of c_law_pull B cdv A outer s H E hr) pure_law_of
  have c_law_same : Fc l.prog w K mg base (3 + 1) "_law_same" (S_law_same 3) := rec_law_same F_law_same m_law_same b_law_same B 3
  have c_law_gcd : Fc l.prog w K mg base 1 "_law_gcd" S_law_gcd := gfun F_law_gcd m_law_gcd b_law_gcd sc_law_gcd len_law_gcd (fun cdv A outer s H E hr => d_law_gcd B cdv A outer s H E hr) pure_law_gcd
  have c_law_low : Fc l.prog w K mg base 2 "_law_low" S_law_low := gfun F_law_low m_law_low b_law_low sc_law_low len_law_low (fun cdv A outer s H E hr => d_law_low c_law_gcd cdv A outer s H E hr) pure_law_low
  have c_law_add : Fc l.prog w K mg base 3 "_law_add" S_law_add := gfun F_law_add m_law_add b_law_add sc_law_add len_law_add (fun cdv A outer s H E hr => d_law_add c_law_low cdv A outer s H E hr) pure_law_add
  have c_law_sum : Fc l.prog w K mg base 4 "_law_sum" S_total := gfun F_law_sum m_law_sum b_law_sum sc_law_sum len_total (fun cdv A outer s H E hr => d_law_sum c_law_add cdv A outer s H E hr) pure_law_sum
  have c_law_mul : Fc l.prog w K mg base 3 "_law_mul" S_law_mul := gfun F_law_mul m_law_mul b_law_mul sc_law_mul len_law_mul (fun cdv A outer s H E hr => d_law_mul c_law_low cdv A outer s H E hr) pure_law_mul
  have c_law_neg : Fc l.prog w K mg base 1 "_law_neg" S_negative := gfun F_law_neg m_law_neg b_law_neg sc_law_neg len_negative (fun cdv A outer s H E hr => d_law_neg cdv A outer s H E hr) pure_law_neg
  have c_law_less : Fc l.prog w K mg base 1 "_law_less" S_law_less := gfun F_law_less m_law_less b_law_less sc_law_less len_law_less (fun cdv A outer s H E hr => d_law_less cdv A outer s H E hr) pure_law_less
  have c_law_ratio_text : Fc l.prog w K mg base 1 "_law_ratio_text" S_law_ratio_text := gfun F_law_ratio_text m_law_ratio_text b_law_ratio_text sc_law_ratio_text len_law_ratio_text (fun cdv A outer s H E hr => d_law_ratio_text B cdv A outer s H E hr) pure_law_ratio_text
  have c_law_long_number : Fc l.prog w K mg base 3 "_law_long_number" S_law_long_number := gfun F_law_long_number m_law_long_number b_law_long_number sc_law_long_number len_law_long_number (fun cdv A outer s H E hr => d_law_long_number c_law_pull c_law_of B cdv A outer s H E hr) pure_law_long_number
  exact law_of F_law sc_law rfl (fun cdv A outer s H E hr => d_law c_law_bag c_law_long_number c_law_pull c_law_low c_reduced c_law_same c_is_fraction c_law_gcd c_plus c_times c_total c_negative c_order c_law_less c_law_add c_law_sum c_law_mul c_law_neg c_law_ratio_text c_ratio_text c_parse_ratio B ND cdv A outer s H E hr) pure_law
end K87
open PySem PySem.W PySem.Calls PyProof.Rows
set_option maxRecDepth 100000 in
set_option maxHeartbeats 0 in
theorem PySem.Challenge.cw_graincourse_k87_numbers_of_thirty_digits_holds : PySem.Challenge.rw_graincourse_k87_numbers_of_thirty_digits.Holds := by
  w_on; o_law
  refine HandSHeadRun.head_any (r := OpenLaw.row PySem.Challenge.rw_graincourse_k87_numbers_of_thirty_digits) (q := view (OpenLaw.row PySem.Challenge.rw_graincourse_k87_numbers_of_thirty_digits).prog [31]) (H := K87.plan.hook) (ob := K87.ob) (M := 20000) (loose := K87.loose) (d := HandSHeadRun.topDef (OpenLaw.row PySem.Challenge.rw_graincourse_k87_numbers_of_thirty_digits).prog 31) (kwd := []) K87.ob_eq
    (by kernel_rfl) (fun s => by kernel_rfl) K87.run (by kernel_rfl) (by kernel_rfl) (by kernel_rfl) (by rfl) (by first | assumption | decide +kernel) (by decide +kernel) ⟨rfl, rfl, rfl, rfl, rfl, by decide +kernel⟩ ?hw ?hc
  case hw => w_witness2
  case hc =>
    refine L2.walk_ofE (l := PySem.Challenge.rw_graincourse_k87_numbers_of_thirty_digits) (n := 63) (k := 5) (x := "_law_script") (CX := L2.CX0) rfl (by decide) (by kernel_rfl) ⟨rfl, by decide, by decide⟩ ?F (fun _ _ _ _ z => z)
    intro w mg fa h Y G hmg0
    obtain ⟨K, KX, c⟩ := Y
    have hmg : mg ("law" : PySem.Str) = some (.ref fa) := by
      have e : (HandSHeadRun.topDef (OpenLaw.row PySem.Challenge.rw_graincourse_k87_numbers_of_thirty_digits).prog 31).name = ("law" : PySem.Str) := by kernel_rfl
      rw [← e]
      exact hmg0
    obtain ⟨fd, hb, hF⟩ := K87.all_mk (l := PySem.Challenge.rw_graincourse_k87_numbers_of_thirty_digits) (w := w) KX G hmg c
    exact ⟨K, fd, Gh.spLaw K, KX, hb, fun H a ns hl _ hS => ⟨a, ns, rfl, hS, hl, fun _ => rfl⟩, hF⟩
