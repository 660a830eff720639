import PyProof.Rows.All
import Wide.All
import OpenK.AllK
import Wide.FinOn
import HandS.ForMost
import HandS.TupAny
import HandS.TupMul
import HandS.Wide
import HandS.IsInst
import HandS.Star
import HandS.Flow
import HandS.Lambda
import HandS.ExcInit
import PyProof.ListStr
import HandS.NoneIn
import HandS.FStr
import KE.KUnpack
import PyProof.CollectIter
import KE.IntTextLaws
import KE.KStateDown
import Wide.Once
import HandS.Ends
import HandS.Words
import HandS.WordsExc
import HandS.Defaults
import HandS.Head0
import HandS.Head1
import HandS.Head2
import HandS.HeadEnd
import HandS.HeadHook1
import HandS.HeadHook2
import HandS.HeadWalk
import HandS.ExcField
import KE.KExcInit
import PySem.Challenge.RW_graincourse_k01_error_classes
set_option Elab.async false
set_option linter.all false
set_option maxRecDepth 100000
namespace Gh
open PySem PySem.Spec PyProof.Rows L2
section
variable {X : Cx}
/-! ### text * number, tuple * number -/
def repS (x : Str) (n : Nat) : Str := ⟨(List.replicate n x.cps.toList).flatten.toArray⟩
theorem foldl_app (l : List (List Nat)) : ∀ acc : Array Nat, (l.map List.toArray).foldl (· ++ ·) acc = acc ++ l.flatten.toArray := by
  induction l with
  | nil => intro acc; simp
  | cons x r ih =>
    intro acc
    rw [List.map_cons, List.foldl_cons, ih, List.flatten_cons]
    simp
theorem repS_fold (x : Str) (n : Nat) : (⟨(List.replicate n x.cps).foldl (· ++ ·) #[]⟩ : Str) = repS x n := by
  have e : List.replicate n x.cps = (List.replicate n x.cps.toList).map List.toArray := by
    rw [List.map_replicate]
  unfold repS
  rw [e, foldl_app]
  simp
theorem op_mulS : OpR X (binaryOp .Mult) (fun x y H Q => ∃ z n, x = .str z ∧ y = .int n ∧ 0 ≤ n ∧ n ≤ 1000000 ∧ z.length * n.toNat ≤ 1000000 ∧ Q (.str (repS z n.toNat)) H) := by
  intro pins s σ H x y v u Q I rx ry h
  obtain ⟨z, n, rfl, rfl, h0, h1, hz, q⟩ := h
  obtain ⟨t, rfl⟩ := rx
  obtain ⟨t', rfl⟩ := ry
  refine P.mul_str (by rw [decide_eq_false (by omega), decide_eq_false (by omega)]; rfl) (fun c1 c2 => ?_) (fun c1 c2 => ?_) ?_
  · have hn : 0 < n := by omega
    have hq : (1000000 : Int) ≤ (2 ^ 63 - 1) / n := by
      rw [Int.le_ediv_iff_mul_le hn]
      have : 1000000 * n ≤ 1000000 * 1000000 := Int.mul_le_mul_of_nonneg_left h1 (by decide)
      omega
    have h2 : 1 ≤ n.toNat := by omega
    have h3 : z.length ≤ z.length * n.toNat := Nat.le_mul_of_pos_right _ (by omega)
    omega
  · show decide (z.length * n.toNat > sizeLine) = false
    rw [sizeLine_eq]
    exact decide_eq_false (by omega)
  · by_cases c1 : n < 1
    · rw [if_pos c1]
      have e : repS z n.toNat = Str.empty := by
        have : n.toNat = 0 := by omega
        rw [this]
        rfl
      rw [e] at q
      exact ⟨by decide, .str _, H, I.tok _, ⟨_, rfl⟩, q⟩
    · rw [if_neg c1]
      by_cases c2 : (n == 1 || z.length == 0) = true
      · rw [if_pos c2]
        have e : repS z n.toNat = z := by
          have hc : n = 1 ∨ z.length = 0 := by simpa using c2
          rcases hc with rfl | hc
          · show (⟨([z.cps.toList].flatten).toArray⟩ : Str) = z
            simp
          · have hz0 : z.cps = #[] := Array.eq_empty_of_size_eq_zero hc
            cases z with
            | mk cps =>
              simp only at hz0
              subst hz0
              unfold repS
              simp
        rw [e] at q
        exact ⟨.str _, H, I, ⟨_, rfl⟩, q⟩
      · rw [if_neg c2, repS_fold]
        refine ⟨?_, .str _, H, I.tok _, ⟨_, rfl⟩, q⟩
        show _ ≤ sizeLine
        have : (repS z n.toNat).length = z.length * n.toNat := by
          unfold repS Str.length
          simp [Nat.mul_comm]
        rw [this, sizeLine_eq]
        omega

/-- t * 1, () * n: the tuple itself -/
theorem tuple_mulS (l : Addr) (items : Array Value) (n : Nat) (dd : Option Addr) (sl : Array (Option Value)) (x : Int) (u : Tok) (c0 : (decide (x < -(2 ^ 63)) || decide (x ≥ 2 ^ 63)) = false) (c1 : (items.isEmpty || x == 1) = true) :
    Meets (Builtin.«tuple.__mul__» ⟨[.ref l, .int x u], []⟩) (fun _ R s => s.heap.get? l = some { cls := .type "tuple", dict := dd, data := .seq items n, slots := sl } ∧ R (.ok (.ret (Value.ref l))) s) :=
  .of_wp fun prog w A R s h => by
    obtain ⟨hp, g, d, tk, os⟩ := s
    obtain ⟨hl, h⟩ := h
    have f1 := AutoSeq1.idx_int
    wp_walk using wpAny_loadPart' hl
    repeat (first
      | (refine wpAny_ite_false (decide_eq_false (by rw [c0]; exact Bool.false_ne_true)) ?_; wp_walk using wpAny_loadPart' hl)
      | (refine wpAny_ite_true (decide_eq_true c1) ?_; wp_walk using wpAny_loadPart' hl))
    exact ⟨_, rfl, h⟩
def rRepS (K : PySem.W.Frag) : R2 := fun x y H Q => ∃ l k xs, x = .ref l ∧ y = .int k ∧ SqT K H l xs ∧ (xs = [] ∨ k = 1) ∧ 1 ≤ k ∧ k ≤ 1000 ∧ Q (.ref l) H
theorem op_repS : OpR X (binaryOp .Mult) (rRepS X.K) := by
  intro pins s σ H x y v u Q I rx ry h
  obtain ⟨l, k, xs, rfl, rfl, hT, hne, h1, h2, q⟩ := h
  cases rx
  obtain ⟨t, rfl⟩ := ry
  obtain ⟨its, r, ⟨⟨cls, dd, data, sl⟩, ho, hc, n, hd⟩, hs⟩ := I.tuple hT
  simp only at hc hd
  subst hc hd
  have hle : its.length = xs.length := r.length.symm
  have c0 : (decide (k < -(2 ^ 63)) || decide (k ≥ 2 ^ 63)) = false := by
    rw [decide_eq_false (by omega), decide_eq_false (by omega)] <;> rfl
  have c1 : (its.toArray.isEmpty || k == 1) = true := by
    rcases hne with z | z
    · rw [z] at hle
      have : its = [] := List.eq_nil_of_length_eq_zero hle
      rw [this]
      rfl
    · rw [z]
      simp
  exact wpAny_binaryOp_repeat_ref (T := "tuple") (U := "int") (by decide) ⟨_, ho, rfl⟩ (fun s' => typeIs_int s' k t) noFill_tuple_mul F.fills_int_mul F.slot_int_rmul repeat_tuple F.slot_int_index.lookup
    (call_meets F.slot_int_rmul (typeIs_int s k t) F.entry_int_rmul (F.args_int_rmul_2 _ _) (int_rmul_tuple k t l its.toArray n dd sl)
      ⟨ho, rfl, ⟨_, ho, rfl⟩, call_meets F.slot_tuple_mul ⟨_, ho, rfl⟩ F.entry_tuple_mul (F.args_tuple_mul_2 _ _) (tuple_mulS l its.toArray n dd sl k t c0 c1) ⟨ho, .ref l, H, I, rfl, q⟩⟩)
end
end Gh

/-! The ghost layer: data without addresses, owned objects, readings over them. -/
namespace Gh
open PySem L2
abbrev Fg := PySem.W.Frag

/-- data: values without the heap; a reference stands for an owned object (or any other) -/
inductive D where
  | non | bl (b : Bool) | int (i : Int) | str (x : Str) | tup (ds : List D) | lst (ds : List D) | ref (a : Addr) | ty (n : String)
  /-- a list that is only read (the script) -/
  | fro (ds : List D)
  /-- an exception that is only read: its class, its dict's names and values -/
  | exc (C : Addr) (ns : List Str) (ds : List D)

/-- an owned object -/
inductive GO where
  /-- a list that is owned -/
  | lst (ds : List D)
  /-- the law's bag -/
  | bag
  /-- an instance -/
  | ins (C : Addr) (fs : List (Str × D))
  /-- a dict by ints and texts -/
  | dct (kvs : List (Key × D))
  /-- the dict of an exception -/
  | xd (fs : List (Str × D))
  /-- a code object's table: the lambdas that it tells bear the name q -/
  | tab (q : Str)

abbrev GH := Addr → Option GO
def put (h : GH) (a : Addr) (g : GO) : GH := fun b => if b = a then some g else h b
theorem put_same {h : GH} {a : Addr} {g : GO} : put h a g a = some g := by unfold put; rw [if_pos rfl]
theorem put_ne {h : GH} {a b : Addr} {g : GO} (e : b ≠ a) : put h a g b = h b := by unfold put; rw [if_neg e]
def del (h : GH) (a : Addr) : GH := fun b => if b = a then none else h b
theorem del_same {h : GH} {a : Addr} : del h a a = none := by unfold del; rw [if_pos rfl]
theorem del_ne {h : GH} {a b : Addr} (e : b ≠ a) : del h a b = h b := by unfold del; rw [if_neg e]

/-- a tuple that is read: not owned, or of the module -/
def TpF (K : Fg) (h : GH) (H : Hp) (a : Addr) (xs : List V) : Prop :=
  (h a = none ∧ Rd H a (.tup xs)) ∨
    ∃ (o : Obj) (its : Array Value) (n : Nat), K.lookup a = some o ∧ o.cls = .type "tuple" ∧ o.data = .seq its n ∧ its.size ≤ sizeLine ∧ Vals xs its.toList
/-- a list that is read: not owned, or of the module -/
def LsF (K : Fg) (h : GH) (H : Hp) (a : Addr) (xs : List V) : Prop :=
  (h a = none ∧ Rd H a (.lst xs)) ∨
    ∃ (o : Obj) (its : Array Value) (n : Nat), K.lookup a = some o ∧ o.cls = .type "list" ∧ o.dict = none ∧ o.data = .seq its n ∧ its.size ≤ sizeLine ∧ Vals xs its.toList
theorem LsF.sq {K : Fg} {h : GH} {H : Hp} {a : Addr} {xs : List V} (t : LsF K h H a xs) : SqL K H a xs := by
  rcases t with ⟨_, t⟩ | t
  · exact .inl t
  · exact .inr t
theorem TpF.sq {K : Fg} {h : GH} {H : Hp} {a : Addr} {xs : List V} (t : TpF K h H a xs) : SqT K H a xs := by
  rcases t with ⟨_, t⟩ | t
  · exact .inl t
  · exact .inr t
mutual
inductive Dv (K : Fg) (h : GH) (H : Hp) : V → D → Prop
  | non : Dv K h H .non .non
  | bl (b : Bool) : Dv K h H (.bl b) (.bl b)
  | int (i : Int) : Dv K h H (.int i) (.int i)
  | str (x : Str) : Dv K h H (.str x) (.str x)
  | ty (n : String) : Dv K h H (.ty n) (.ty n)
  | ref (a : Addr) : Dv K h H (.ref a) (.ref a)
  | tup {a : Addr} {xs : List V} {ds : List D} : TpF K h H a xs → Dvs K h H xs ds → Dv K h H (.ref a) (.tup ds)
  | lst {a : Addr} {xs : List V} {ds : List D} : h a = none → H a = some (.lst xs) → Dvs K h H xs ds → Dv K h H (.ref a) (.lst ds)
  | fro {a : Addr} {xs : List V} {ds : List D} : LsF K h H a xs → Dvs K h H xs ds → Dv K h H (.ref a) (.fro ds)
  | exc {a C d : Addr} {ns : List Str} {xs : List V} {ds : List D} : h a = none → H a = some (exo a C (some d)) → h d = none → H d = some (exd d (ns.zip xs)) → Dvs K h H xs ds → Dv K h H (.ref a) (.exc C ns ds)
inductive Dvs (K : Fg) (h : GH) (H : Hp) : List V → List D → Prop
  | nil : Dvs K h H [] []
  | cons {v : V} {vs : List V} {d : D} {ds : List D} : Dv K h H v d → Dvs K h H vs ds → Dvs K h H (v :: vs) (d :: ds)
end

/-- no table -/
def NT (o : HO) : Prop := ∀ ps, o ≠ .tbl ps
/-- from (h, H) to (h', H'): what is not owned stands (but for tables); what is newly owned was not there -/
structure Step (h : GH) (H : Hp) (h' : GH) (H' : Hp) : Prop where
  keep : ∀ a o, h a = none → NT o → H a = some o → H' a = some o
  own : ∀ a, h' a ≠ none → h a ≠ none ∨ H a = none ∨ ∃ ps, H a = some (.tbl ps)
theorem Step.kp {h h' : GH} {H H' : Hp} (s : Step h H h' H') {a : Addr} {o : HO} (e : h a = none) (q : H a = some o) (nt : NT o := by intro _ z; cases z) : H' a = some o := s.keep a o e nt q
theorem Step.refl (h : GH) (H : Hp) : Step h H h H := ⟨fun _ _ _ _ e => e, fun _ e => .inl e⟩
theorem Step.free {h h' : GH} {H H' : Hp} (s : Step h H h' H') {a : Addr} {o : HO} (e : h a = none) (q : H a = some o) (nt : NT o := by intro _ z; cases z) : h' a = none := by
  cases z : h' a with
  | none => rfl
  | some g =>
    rcases s.own a (by rw [z]; simp) with y | y | ⟨ps, y⟩
    · exact absurd e y
    · rw [q] at y; cases y
    · rw [q] at y; cases y; exact absurd rfl (nt ps)
theorem Step.trans {h h1 h2 : GH} {H H1 H2 : Hp} (a : Step h H h1 H1) (b : Step h1 H1 h2 H2) : Step h H h2 H2 where
  keep := fun x o e nt q => b.keep x o (a.free e q nt) nt (a.keep x o e nt q)
  own := fun x e => by
    rcases b.own x e with y | y | ⟨ps, y⟩
    · exact a.own x y
    · cases z : h x with
      | some g => exact .inl (by simp)
      | none =>
        cases q : H x with
        | none => exact .inr (.inl rfl)
        | some o =>
          by_cases nt : NT o
          · rw [a.keep x o z nt q] at y; cases y
          · have : ∃ ps, o = .tbl ps := Classical.byContradiction fun w => nt fun ps w2 => w ⟨ps, w2⟩
            obtain ⟨ps, rfl⟩ := this
            exact .inr (.inr ⟨ps, rfl⟩)
    · cases z : h x with
      | some g => exact .inl (by simp)
      | none =>
        cases q : H x with
        | none => exact .inr (.inl rfl)
        | some o =>
          by_cases nt : NT o
          · rw [a.keep x o z nt q] at y; cases y; exact absurd rfl (nt ps)
          · have : ∃ ps, o = .tbl ps := Classical.byContradiction fun w => nt fun ps w2 => w ⟨ps, w2⟩
            obtain ⟨ps', rfl⟩ := this
            exact .inr (.inr ⟨ps', rfl⟩)
/-- a new object -/
theorem Step.new {h : GH} {H : Hp} {p : Addr} {o : HO} (n : H p = none) : Step h H h (upd H p o) :=
  ⟨fun a u _ _ e => by rw [upd_ne (ne_of_none e n)]; exact e, fun _ e => .inl e⟩
/-- a new owned object -/
theorem Step.newO {h : GH} {H : Hp} {p : Addr} {o : HO} {g : GO} (n : H p = none) : Step h H (put h p g) (upd H p o) :=
  ⟨fun a u _ _ e => by rw [upd_ne (ne_of_none e n)]; exact e, fun a e => by
    by_cases z : a = p
    · subst z; exact .inr (.inl n)
    · rw [put_ne z] at e; exact .inl e⟩
/-- an owned object is changed -/
theorem Step.set {h : GH} {H : Hp} {p : Addr} {o : HO} {g : GO} (n : h p ≠ none) : Step h H (put h p g) (upd H p o) :=
  ⟨fun a u e _ q => by rw [upd_ne (fun z => by subst z; exact n e)]; exact q, fun a e => by
    by_cases z : a = p
    · subst z; exact .inl n
    · rw [put_ne z] at e; exact .inl e⟩
/-- an owned object is let go -/
theorem Step.del {h : GH} {H : Hp} {p : Addr} : Step h H (del h p) H :=
  ⟨fun _ _ _ _ q => q, fun a e => by
    by_cases z : a = p
    · subst z; rw [del_same] at e; exact absurd rfl e
    · rw [del_ne z] at e; exact .inl e⟩
theorem TpF.mono {K : Fg} {h h' : GH} {H H' : Hp} {a : Addr} {xs : List V} (s : Step h H h' H') (t : TpF K h H a xs) : TpF K h' H' a xs := by
  rcases t with ⟨n, t | ⟨o, t⟩⟩ | t
  · exact .inl ⟨s.free n t, .inl (s.kp n t)⟩
  · exact .inl ⟨s.free n t, .inr ⟨o, s.kp n t⟩⟩
  · exact .inr t
theorem LsF.mono {K : Fg} {h h' : GH} {H H' : Hp} {a : Addr} {xs : List V} (s : Step h H h' H') (t : LsF K h H a xs) : LsF K h' H' a xs := by
  rcases t with ⟨n, t | ⟨o, t⟩⟩ | t
  · exact .inl ⟨s.free n t, .inl (s.kp n t)⟩
  · exact .inl ⟨s.free n t, .inr ⟨o, s.kp n t⟩⟩
  · exact .inr t
mutual
theorem Dv.mono {K : Fg} {h h' : GH} {H H' : Hp} (s : Step h H h' H') : ∀ {v : V} {d : D}, Dv K h H v d → Dv K h' H' v d
  | _, _, .non => .non
  | _, _, .bl b => .bl b
  | _, _, .int i => .int i
  | _, _, .str x => .str x
  | _, _, .ty n => .ty n
  | _, _, .ref a => .ref a
  | _, _, .tup t ds => .tup (t.mono s) (Dvs.mono s ds)
  | _, _, .lst n q ds => .lst (s.free n q) (s.kp n q) (Dvs.mono s ds)
  | _, _, .fro t ds => .fro (t.mono s) (Dvs.mono s ds)
  | _, _, .exc n1 q1 n2 q2 ds => .exc (s.free n1 q1 (fun _ => exo_tbl)) (s.kp n1 q1 (fun _ => exo_tbl)) (s.free n2 q2 (fun _ z => by have z' : HO.ext _ = HO.tbl _ := z; cases z')) (s.kp n2 q2 (fun _ z => by have z' : HO.ext _ = HO.tbl _ := z; cases z')) (Dvs.mono s ds)
theorem Dvs.mono {K : Fg} {h h' : GH} {H H' : Hp} (s : Step h H h' H') : ∀ {v : List V} {d : List D}, Dvs K h H v d → Dvs K h' H' v d
  | _, _, .nil => .nil
  | _, _, .cons a r => .cons (Dv.mono s a) (Dvs.mono s r)
end
theorem Dvs.length {K : Fg} {h : GH} {H : Hp} : ∀ {vs : List V} {ds : List D}, Dvs K h H vs ds → vs.length = ds.length
  | _, _, .nil => rfl
  | _, _, .cons _ r => by rw [List.length_cons, List.length_cons, Dvs.length r]
theorem Dvs.get {K : Fg} {h : GH} {H : Hp} : ∀ {vs : List V} {ds : List D} {i : Nat} {d : D}, Dvs K h H vs ds → ds[i]? = some d → ∃ v, vs[i]? = some v ∧ Dv K h H v d
  | _, _, _, _, .nil, e => by simp at e
  | _, _, 0, _, .cons a _, e => by simp at e; subst e; exact ⟨_, rfl, a⟩
  | _, _, i + 1, d, .cons _ r, e => by
    obtain ⟨v, h1, h2⟩ := Dvs.get (i := i) (d := d) r (by simpa using e)
    exact ⟨v, by simpa using h1, h2⟩
theorem Dvs.append {K : Fg} {h : GH} {H : Hp} : ∀ {vs ws : List V} {ds es : List D}, Dvs K h H vs ds → Dvs K h H ws es → Dvs K h H (vs ++ ws) (ds ++ es)
  | _, _, _, _, .nil, s => s
  | _, _, _, _, .cons r t, s => .cons r (Dvs.append t s)
theorem Dvs.take {K : Fg} {h : GH} {H : Hp} : ∀ {vs : List V} {ds : List D} (n : Nat), Dvs K h H vs ds → Dvs K h H (vs.take n) (ds.take n)
  | _, _, 0, _ => .nil
  | _, _, _ + 1, .nil => .nil
  | _, _, n + 1, .cons r t => .cons r (Dvs.take n t)
theorem Dvs.drop {K : Fg} {h : GH} {H : Hp} : ∀ {vs : List V} {ds : List D} (n : Nat), Dvs K h H vs ds → Dvs K h H (vs.drop n) (ds.drop n)
  | _, _, 0, r => r
  | _, _, _ + 1, .nil => .nil
  | _, _, n + 1, .cons _ t => Dvs.drop n t
theorem Dvs.set {K : Fg} {h : GH} {H : Hp} {x : V} {u : D} (r : Dv K h H x u) : ∀ {xs : List V} {us : List D} (i : Nat), Dvs K h H xs us → Dvs K h H (xs.set i x) (us.set i u)
  | _, _, _, .nil => .nil
  | _, _, 0, .cons _ t => .cons r t
  | _, _, i + 1, .cons q t => .cons q (Dvs.set r i t)
theorem Dvs.getV {K : Fg} {h : GH} {H : Hp} : ∀ {vs : List V} {ds : List D} {i : Nat} {v : V}, Dvs K h H vs ds → vs[i]? = some v → ∃ d, ds[i]? = some d ∧ Dv K h H v d
  | _, _, _, _, .nil, e => by simp at e
  | _, _, 0, _, .cons a _, e => by simp at e; subst e; exact ⟨_, rfl, a⟩
  | _, _, i + 1, d, .cons _ r, e => by
    obtain ⟨v, h1, h2⟩ := Dvs.getV (i := i) (v := d) r (by simpa using e)
    exact ⟨v, by simpa using h1, h2⟩

/-! ### owned objects -/
/-- the law's bag: the script's ints, the place, the rest of a great number, the salt, the count -/
def BagOk (K : Fg) (h : GH) (H : Hp) (a : Addr) : Prop := ∃ (l : Addr) (ns : List Int) (i g s c : Int), H a = some (.lst [.ref l, .int i, .int g, .int s, .int c]) ∧ h l = none ∧ H l = some (.lst (ns.map V.int)) ∧
  ns.length ≤ 63 ∧ 0 ≤ i ∧ i ≤ (ns.length : Int) ∧ 0 ≤ g ∧ 0 ≤ s ∧ s < 2147483647 ∧ 0 ≤ c
def GOk (K : Fg) (h : GH) (H : Hp) (a : Addr) : GO → Prop
  | .lst ds => ∃ xs, H a = some (.lst xs) ∧ Dvs K h H xs ds
  | .bag => BagOk K h H a
  | .ins C fs => ∃ (dx : Addr) (vs : List V), H a = some (.ins C dx ((fs.map (·.1)).zip vs)) ∧ Dvs K h H vs (fs.map (·.2))
  | .dct kvs => ∃ vs : List V, H a = some (.dK ((kvs.map (·.1)).zip vs)) ∧ Dvs K h H vs (kvs.map (·.2))
  | .xd fs => ∃ vs : List V, H a = some (.xd ((fs.map (·.1)).zip vs)) ∧ Dvs K h H vs (fs.map (·.2))
  | .tab q => ∃ ps : Array Value, H a = some (.tbl ps) ∧ PySem.TriplesOk ps.toList ∧ ∀ (pos : Pos) (cv : Value), codeAmong pos ps.toList = some cv → ∃ c, cv = .ref c ∧ h c = none ∧ H c = some (LamX.CodeO c q)
def Rel (K : Fg) (h : GH) (H : Hp) : Prop := ∀ a g, h a = some g → GOk K h H a g
/-- an object that stands as it stood is as it was -/
theorem GOk.mono {K : Fg} {h h' : GH} {H H' : Hp} {a : Addr} {g : GO} (s : Step h H h' H') (e : ∀ o, H a = some o → H' a = some o) (k : GOk K h H a g) : GOk K h' H' a g := by
  cases g with
  | lst ds => obtain ⟨xs, q, r⟩ := k; exact ⟨xs, e _ q, r.mono s⟩
  | bag =>
    obtain ⟨l, ns, i, g, sa, c, q, n, ql, r⟩ := k
    exact ⟨l, ns, i, g, sa, c, e _ q, s.free n ql, s.kp n ql, r⟩
  | ins C fs => obtain ⟨dx, vs, q, r⟩ := k; exact ⟨dx, vs, e _ q, r.mono s⟩
  | dct kvs => obtain ⟨vs, q, r⟩ := k; exact ⟨vs, e _ q, r.mono s⟩
  | xd fs => obtain ⟨vs, q, r⟩ := k; exact ⟨vs, e _ q, r.mono s⟩
  | tab q =>
    obtain ⟨ps, q1, q2, q3⟩ := k
    refine ⟨ps, e _ q1, q2, fun pos cv hc => ?_⟩
    obtain ⟨c, e1, e2, e3⟩ := q3 pos cv hc
    exact ⟨c, e1, s.free e2 e3 (LamX.codeO_ne), s.kp e2 e3 (LamX.codeO_ne)⟩
theorem GOk.there {K : Fg} {h : GH} {H : Hp} {a : Addr} {g : GO} (k : GOk K h H a g) : ∃ o, H a = some o := by
  cases g with
  | lst ds => obtain ⟨xs, q, r⟩ := k; exact ⟨_, q⟩
  | bag => obtain ⟨l, ns, i, g, sa, c, q, _⟩ := k; exact ⟨_, q⟩
  | ins C fs => obtain ⟨dx, vs, q, r⟩ := k; exact ⟨_, q⟩
  | dct kvs => obtain ⟨vs, q, r⟩ := k; exact ⟨_, q⟩
  | xd fs => obtain ⟨vs, q, r⟩ := k; exact ⟨_, q⟩
  | tab q => obtain ⟨ps, q1, _⟩ := k; exact ⟨_, q1⟩
theorem Rel.new {K : Fg} {h : GH} {H : Hp} {p : Addr} {o : HO} (r : Rel K h H) (n : H p = none) : Rel K h (upd H p o) := fun a g e =>
  (r a g e).mono (Step.new n) fun u q => by rw [upd_ne (ne_of_none q n)]; exact q
theorem Rel.free {K : Fg} {h : GH} {H : Hp} {p : Addr} (r : Rel K h H) (n : H p = none) : h p = none := by
  cases e : h p with
  | none => rfl
  | some g =>
    obtain ⟨o, q⟩ := (r p g e).there
    rw [n] at q; cases q
/-- an owned object is new or changed -/
theorem Rel.put {K : Fg} {h : GH} {H : Hp} {p : Addr} {o : HO} {g : GO} (r : Rel K h H) (s : Step h H (put h p g) (upd H p o)) (k : GOk K (put h p g) (upd H p o) p g) : Rel K (put h p g) (upd H p o) := fun a u e => by
  by_cases z : a = p
  · subst z; rw [put_same] at e; cases e; exact k
  · rw [put_ne z] at e
    exact (r a u e).mono s fun v q => by rw [upd_ne z]; exact q
theorem Rel.del {K : Fg} {h : GH} {H : Hp} {p : Addr} (r : Rel K h H) : Rel K (del h p) H := fun a u e => by
  by_cases z : a = p
  · subst z; rw [del_same] at e; cases e
  · rw [del_ne z] at e
    exact (r a u e).mono Step.del fun v q => q

/-! ### slots -/
abbrev GS := List (Option D)
/-- an anchor: what holds at all times from here on -/
structure AN where
  ok : GH → Hp → Prop
  mono : ∀ {h : GH} {H : Hp} {h' : GH} {H' : Hp}, Step h H h' H' → ok h H → ok h' H'
def AN.top : AN := ⟨fun _ _ => True, fun _ _ => trivial⟩
def AN.step (h0 : GH) (H0 : Hp) : AN := ⟨fun h H => Step h0 H0 h H, fun s t => t.trans s⟩
structure Sl (K : Fg) (An : AN) (h : GH) (H : Hp) (σ : St) (s : GS) : Prop where
  len : σ.length = s.length
  at' : ∀ (i : Nat) (d : D), s[i]? = some (some d) → ∃ v, σ[i]? = some (some v) ∧ Dv K h H v d
  an : An.ok h H
theorem Sl.mono {K : Fg} {An : AN} {h h' : GH} {H H' : Hp} {σ : St} {s : GS} (t : Step h H h' H') (k : Sl K An h H σ s) : Sl K An h' H' σ s :=
  ⟨k.1, fun i d e => let ⟨v, q, r⟩ := k.2 i d e; ⟨v, q, r.mono t⟩, An.mono t k.an⟩
theorem Sl.set {K : Fg} {An : AN} {h : GH} {H : Hp} {σ : St} {s : GS} {i : Nat} {v : V} {d : D} (k : Sl K An h H σ s) (r : Dv K h H v d) : Sl K An h H (σ.set i (some v)) (s.set i (some d)) := by
  refine ⟨by rw [List.length_set, List.length_set]; exact k.1, fun j e q => ?_, k.an⟩
  by_cases z : i = j
  · subst z
    have hl : i < s.length := by
      have := (List.getElem?_eq_some_iff.mp q).1
      rw [List.length_set] at this; exact this
    rw [List.getElem?_set_self hl] at q
    cases q
    exact ⟨v, List.getElem?_set_self (by rw [k.1]; exact hl), r⟩
  · rw [List.getElem?_set_ne z] at q
    obtain ⟨u, q1, q2⟩ := k.2 j e q
    exact ⟨u, by rw [List.getElem?_set_ne z]; exact q1, q2⟩
theorem Sl.unset {K : Fg} {An : AN} {h : GH} {H : Hp} {σ : St} {s : GS} {i : Nat} {v : Option V} (k : Sl K An h H σ s) : Sl K An h H (σ.set i v) (s.set i none) := by
  refine ⟨by rw [List.length_set, List.length_set]; exact k.1, fun j e q => ?_, k.an⟩
  by_cases z : i = j
  · subst z
    have hl : i < s.length := by
      have := (List.getElem?_eq_some_iff.mp q).1
      rw [List.length_set] at this; exact this
    rw [List.getElem?_set_self hl] at q
    cases q
  · rw [List.getElem?_set_ne z] at q
    obtain ⟨u, q1, q2⟩ := k.2 j e q
    exact ⟨u, by rw [List.getElem?_set_ne z]; exact q1, q2⟩
def startG (N : List Str) (ds : List D) : GS := ds.map some ++ List.replicate (N.length - ds.length) none
theorem Sl.begin {K : Fg} {An : AN} {h : GH} {H : Hp} {N : List Str} {vs : List V} {ds : List D} (r : Dvs K h H vs ds) (an : An.ok h H) : Sl K An h H (L2.start N vs) (startG N ds) := by
  have hl := r.length
  refine ⟨by unfold L2.start startG; simp [hl], fun i d e => ?_, an⟩
  unfold startG at e
  by_cases z : i < ds.length
  · rw [List.getElem?_append_left (by simpa using z), List.getElem?_map] at e
    cases q : ds[i]? with
    | none => rw [q] at e; cases e
    | some d' =>
      rw [q] at e
      have e' : d' = d := Option.some.inj (Option.some.inj e)
      subst e'
      obtain ⟨v, h1, h2⟩ := r.get q
      refine ⟨v, ?_, h2⟩
      unfold L2.start
      rw [List.getElem?_append_left (by rw [List.length_map, hl]; exact z), List.getElem?_map, h1]
      rfl
  · rw [List.getElem?_append_right (by simpa using Nat.le_of_not_lt z)] at e
    exfalso
    have := List.mem_of_getElem? e
    rw [List.mem_replicate] at this
    cases this.2

/-! ### readings -/
abbrev GP := D → GH → Prop
abbrev gTE := GS → GH → GP → Prop
abbrev gTT := GS → GH → (Bool → GH → Prop) → Prop
abbrev gTA := GS → GH → (List D → GH → Prop) → Prop
def gE (K : Fg) (An : AN) (g : gTE) : TE := fun σ H Q => ∃ s h P, Rel K h H ∧ Sl K An h H σ s ∧ g s h P ∧ ∀ v H' d h', Step h H h' H' → Rel K h' H' → Dv K h' H' v d → P d h' → Q v H'
def gT (K : Fg) (An : AN) (g : gTT) : TT := fun σ H Q => ∃ s h P, Rel K h H ∧ Sl K An h H σ s ∧ g s h P ∧ ∀ b H' h', Step h H h' H' → Rel K h' H' → P b h' → Q b H'
def gA (K : Fg) (An : AN) (g : gTA) : TA := fun σ H Q => ∃ s h P, Rel K h H ∧ Sl K An h H σ s ∧ g s h P ∧ ∀ vs H' ds h', Step h H h' H' → Rel K h' H' → Dvs K h' H' vs ds → P ds h' → Q vs H'
/-- a new list: p is its own -/
def gF (K : Fg) (An : AN) (g : gTA) : TE := fun σ H Q => ∃ s h P, Rel K h H ∧ Sl K An h H σ s ∧ g s h P ∧ ∀ p ds H' h1, h1 p = none → Step h H (put h1 p (.lst ds)) H' → Rel K (put h1 p (.lst ds)) H' → P ds h1 → Q (.ref p) H'
structure GEnds where
  nx : GS → GH → Prop
  rt : GP
  bk : GS → GH → Prop := fun _ _ => False
  ct : GS → GH → Prop := fun _ _ => False
abbrev gTS := GEnds → GS → GH → Prop
/-- the ends as they are wanted -/
structure Meets (K : Fg) (An : AN) (h : GH) (H : Hp) (N : GEnds) (De : Ends) : Prop where
  nx : ∀ σ' H' s' h', Step h H h' H' → Rel K h' H' → Sl K An h' H' σ' s' → N.nx s' h' → De.nx σ' H'
  rt : ∀ v H' d h', Step h H h' H' → Rel K h' H' → Dv K h' H' v d → N.rt d h' → De.rt v H'
  bk : ∀ σ' H' s' h', Step h H h' H' → Rel K h' H' → Sl K An h' H' σ' s' → N.bk s' h' → De.bk σ' H'
  ct : ∀ σ' H' s' h', Step h H h' H' → Rel K h' H' → Sl K An h' H' σ' s' → N.ct s' h' → De.ct σ' H'
theorem Meets.after {K : Fg} {An : AN} {h h1 : GH} {H H1 : Hp} {N : GEnds} {De : Ends} (m : Meets K An h H N De) (t : Step h H h1 H1) : Meets K An h1 H1 N De :=
  ⟨fun σ' H' s' h' a => m.nx σ' H' s' h' (t.trans a), fun v H' d h' a => m.rt v H' d h' (t.trans a), fun σ' H' s' h' a => m.bk σ' H' s' h' (t.trans a), fun σ' H' s' h' a => m.ct σ' H' s' h' (t.trans a)⟩
def gS (K : Fg) (An : AN) (g : gTS) : TS := fun De σ H => ∃ s h N, Rel K h H ∧ Sl K An h H σ s ∧ g N s h ∧ Meets K An h H N De

section
variable {X : Cx} {An : AN}
theorem _root_.L2.PE.imp {e : Expr} {t t' : TE} (h : PE X e t) (k : ∀ σ H Q, t' σ H Q → t σ H Q) : PE X e t' := ⟨fun pins s σ H Q I q => h.run pins s σ H Q I (k σ H Q q)⟩
theorem _root_.L2.PT.imp {e : Expr} {t t' : TT} (h : PT X e t) (k : ∀ σ H Q, t' σ H Q → t σ H Q) : PT X e t' := ⟨fun pins s σ H Q I q => h.run pins s σ H Q I (k σ H Q q)⟩
theorem _root_.L2.PW.imp {e : Expr} {t t' : TT} (h : PW X e t) (k : ∀ σ H Q, t' σ H Q → t σ H Q) : PW X e t' := ⟨fun wh pins s σ H Q I q => h.run wh pins s σ H Q I (k σ H Q q)⟩
theorem _root_.L2.PA.imp {e : List Expr} {t t' : TA} (h : PA X e t) (k : ∀ σ H Q, t' σ H Q → t σ H Q) : PA X e t' := ⟨fun pos pins s σ H Q I q => h.run pos pins s σ H Q I (k σ H Q q)⟩
theorem _root_.L2.PS.imp {e : Stmt} {t t' : TS} (h : PS X e t) (k : ∀ De σ H, t' De σ H → t De σ H) : PS X e t' := ⟨fun pins s σ H De I q => h.run pins s σ H De I (k De σ H q)⟩
theorem _root_.L2.PSs.imp {e : List Stmt} {t t' : TS} (h : PSs X e t) (k : ∀ De σ H, t' De σ H → t De σ H) : PSs X e t' := ⟨fun pins s σ H De I q => h.run pins s σ H De I (k De σ H q)⟩

/-! ### names, constants -/
def gVar (i : Nat) : gTE := fun s h P => ∃ d, s[i]? = some (some d) ∧ P d h
def gC (d : D) : gTE := fun _ h P => P d h
variable {pos : Pos}
theorem e_var (i : Nat) {x : Str} (hN : X.N[i]? = some x := by rfl) (hv : Vis X.env.scope x := by first | exact Or.inl rfl | exact Or.inr (Or.inl rfl) | exact Or.inr (Or.inr rfl)) (hd : (x == ("__debug__" : Str)) = false := by decide)
    (hcd : (x == ("__classdict__" : Str)) = false := by decide) : PE X (.Name x pos) (gE X.K An (gVar i)) :=
  (pe_var (i := i) hN hv hd hcd).imp fun σ H Q ⟨s, h, P, r, l, ⟨d, e, p⟩, k⟩ => let ⟨v, q1, q2⟩ := l.2 i d e; ⟨v, q1, k v H d h (Step.refl h H) r q2 p⟩
theorem e_int {i j} : PE X (.Constant (.int i) j pos) (gE X.K An (gC (.int i))) := pe_int.imp fun _ H _ ⟨_, h, _, r, _, p, k⟩ => k _ H _ h (Step.refl h H) r (.int i) p
theorem e_bl {b j} : PE X (.Constant (.bool b) j pos) (gE X.K An (gC (.bl b))) := pe_bl.imp fun _ H _ ⟨_, h, _, r, _, p, k⟩ => k _ H _ h (Step.refl h H) r (.bl b) p
theorem e_non {j} : PE X (.Constant .none j pos) (gE X.K An (gC .non)) := pe_non.imp fun _ H _ ⟨_, h, _, r, _, p, k⟩ => k _ H _ h (Step.refl h H) r .non p
theorem e_str {x j} : PE X (.Constant (.str x) j pos) (gE X.K An (gC (.str x))) := pe_str.imp fun _ H _ ⟨_, h, _, r, _, p, k⟩ => k _ H _ h (Step.refl h H) r (.str x) p
/-- a constant of the module, whatever the heap is -/
theorem e_glob {x : Str} {v : V} {u : Value} {d : D} (hm : X.mg x = some u) (rv : RelV v u) (dv : ∀ h H, Dv X.K h H v d) (hg : Gl X x := by rfl) (hd : (x == ("__debug__" : Str)) = false := by decide) : PE X (.Name x pos) (gE X.K An (gC d)) :=
  (pe_glob hg hm rv hd).imp fun _ H _ ⟨_, h, _, r, _, p, k⟩ => k _ H _ h (Step.refl h H) r (dv h H) p
theorem e_bltn {x : Str} {v : V} {u : Value} {d : D} (hm : X.mg x = none) (hv : bootBuiltins x = some u) (rv : RelV v u) (dv : ∀ h H, Dv X.K h H v d) (hg : Gl X x := by rfl) (hn : x ≠ "__name__" := by decide) (hd : (x == ("__debug__" : Str)) = false := by decide) : PE X (.Name x pos) (gE X.K An (gC d)) :=
  (pe_bltn hg hm hv rv hn hd).imp fun _ H _ ⟨_, h, _, r, _, p, k⟩ => k _ H _ h (Step.refl h H) r (dv h H) p

/-! ### operations -/
abbrev R3 := GH → D → D → D → Prop
def OPL (K : Fg) (r : R2) (R : R3) : Prop := ∀ x y H h a b c Q, Rel K h H → Dv K h H x a → Dv K h H y b → R h a b c → (∀ v H', Step h H h H' → Rel K h H' → Dv K h H' v c → Q v H') → r x y H Q
def gBin (R : R3) (ga gb : gTE) : gTE := fun s h P => ga s h fun a h1 => gb s h1 fun b h2 => ∃ c, R h2 a b c ∧ P c h2
theorem two {K : Fg} {An : AN} {r : R2} {R : R3} {ga gb : gTE} (o : OPL K r R) (σ : St) (H : Hp) (Q : VK) (q : gE K An (gBin R ga gb) σ H Q) : tOp r (gE K An ga) (gE K An gb) σ H Q := by
  obtain ⟨s, h, P, re, l, g, k⟩ := q
  refine ⟨s, h, _, re, l, g, fun x H1 a h1 s1 re1 dx g1 => ?_⟩
  refine ⟨s, h1, _, re1, l.mono s1, g1, fun y H2 b h2 s2 re2 dy g2 => ?_⟩
  obtain ⟨c, hr, p⟩ := g2
  exact o x y H2 h2 a b c Q re2 (dx.mono s2) dy hr fun v H' s3 re3 dv => k v H' c h2 ((s1.trans s2).trans s3) re3 dv p
variable {a b : Expr} {ga gb : gTE}
theorem e_bin {op : Operator} {r : R2} {R : R3} (ho : OpR X (binaryOp op) r) (o : OPL X.K r R) (ha : PE X a (gE X.K An ga)) (hb : PE X b (gE X.K An gb)) : PE X (.BinOp a op b pos) (gE X.K An (gBin R ga gb)) :=
  (pe_op ho ha hb).imp fun σ H Q q => two o σ H Q q
theorem e_cmp {op : CmpOp} {r : R2} {R : R3} (ho : OpR X (compareOp op) r) (o : OPL X.K r R) (ha : PE X a (gE X.K An ga)) (hb : PE X b (gE X.K An gb)) (hm : behindInMarks op b = false) : PE X (.Compare a [op] [b] pos) (gE X.K An (gBin R ga gb)) :=
  (pe_cmpR ho ha hb hm).imp fun σ H Q q => two o σ H Q q
def UNL (K : Fg) (r : V → Hp → VK → Prop) (R : GH → D → D → Prop) : Prop := ∀ x H h a c Q, Rel K h H → Dv K h H x a → R h a c → (∀ v H', Step h H h H' → Rel K h H' → Dv K h H' v c → Q v H') → r x H Q
def gUn (R : GH → D → D → Prop) (ga : gTE) : gTE := fun s h P => ga s h fun a h1 => ∃ c, R h1 a c ∧ P c h1
theorem e_un {op : UnaryOp} {r : V → Hp → VK → Prop} {R : GH → D → D → Prop} (ho : UnR X (unaryOp op) r) (o : UNL X.K r R) (ha : PE X a (gE X.K An ga)) : PE X (.UnaryOp op a pos) (gE X.K An (gUn R ga)) :=
  (pe_un ho ha).imp fun σ H Q ⟨s, h, P, re, l, g, k⟩ => ⟨s, h, _, re, l, g, fun x H1 a h1 s1 re1 dx ⟨c, hr, p⟩ => o x H1 h1 a c Q re1 dx hr fun v H' s3 re3 dv => k v H' c h1 (s1.trans s3) re3 dv p⟩
end
end Gh

namespace Gh
open PySem L2
/-! ### operators by the data -/
/-- an owned list is seen as a list -/
def vw (h : GH) : D → D
  | .ref p => match h p with
    | some (.lst ds) => .lst ds
    | _ => .ref p
  | d => d
theorem vw_own {h : GH} {p : Addr} {ds : List D} (e : h p = some (.lst ds)) : vw h (.ref p) = .lst ds := by
  simp only [vw, e]
section
variable {K : Fg} {h : GH} {H : Hp} {v : V} {d : D}
theorem vw_lst {ds : List D} (r : Rel K h H) (k : Dv K h H v d) (e : vw h d = .lst ds) : ∃ p xs, v = .ref p ∧ H p = some (.lst xs) ∧ Dvs K h H xs ds := by
  cases k with
  | lst n q rs => cases e; exact ⟨_, _, rfl, q, rs⟩
  | ref a =>
    unfold vw at e
    dsimp only at e
    cases z : h a with
    | none => rw [z] at e; cases e
    | some g =>
      rw [z] at e
      cases g with
      | lst es =>
        cases e
        obtain ⟨xs, q, rs⟩ := r a _ z
        exact ⟨a, xs, rfl, q, rs⟩
      | bag => cases e
      | ins C fs => cases e
      | dct kvs => cases e
      | xd fs => cases e
      | tab q => cases e
  | _ => cases e
theorem vw_tup {ds : List D} (k : Dv K h H v d) (e : vw h d = .tup ds) : ∃ p xs, v = .ref p ∧ TpF K h H p xs ∧ Dvs K h H xs ds := by
  cases k with
  | tup t rs => cases e; exact ⟨_, _, rfl, t, rs⟩
  | ref a =>
    unfold vw at e
    dsimp only at e
    split at e <;> cases e
  | _ => cases e
theorem vw_fro {ds : List D} (k : Dv K h H v d) (e : vw h d = .fro ds) : ∃ p xs, v = .ref p ∧ LsF K h H p xs ∧ Dvs K h H xs ds := by
  cases k with
  | fro t rs => cases e; exact ⟨_, _, rfl, t, rs⟩
  | ref a =>
    unfold vw at e
    dsimp only at e
    split at e <;> cases e
  | _ => cases e
theorem vw_int {i : Int} (k : Dv K h H v d) (e : vw h d = .int i) : v = .int i := by
  cases k with
  | int j => cases e; rfl
  | ref a =>
    unfold vw at e
    dsimp only at e
    split at e <;> cases e
  | _ => cases e
theorem vw_str {x : Str} (k : Dv K h H v d) (e : vw h d = .str x) : v = .str x := by
  cases k with
  | str j => cases e; rfl
  | ref a =>
    unfold vw at e
    dsimp only at e
    split at e <;> cases e
  | _ => cases e
theorem vw_bl {x : Bool} (k : Dv K h H v d) (e : vw h d = .bl x) : v = .bl x := by
  cases k with
  | bl j => cases e; rfl
  | ref a =>
    unfold vw at e
    dsimp only at e
    split at e <;> cases e
  | _ => cases e
theorem vw_non (k : Dv K h H v d) (e : vw h d = .non) : v = .non := by
  cases k with
  | non => rfl
  | ref a =>
    unfold vw at e
    dsimp only at e
    split at e <;> cases e
  | _ => cases e
theorem Dvs.lst_new {ds : List D} {xs : List V} {p : Addr} (re : Rel K h H) (k : Dvs K h H xs ds) (n : H p = none) : Dv K h (upd H p (.lst xs)) (.ref p) (.lst ds) :=
  .lst (re.free n) upd_same (k.mono (Step.new n))
theorem Dvs.tup_new {ds : List D} {xs : List V} {p : Addr} (re : Rel K h H) (k : Dvs K h H xs ds) (n : H p = none) : Dv K h (upd H p (.tup xs)) (.ref p) (.tup ds) :=
  .tup (.inl ⟨re.free n, .inl upd_same⟩) (k.mono (Step.new n))
end
/-- + -/
def RAdd : R3 := fun h a b c => match vw h a, vw h b with
  | .int i, .int j => c = .int (i + j)
  | .str x, .str y => x.length + y.length ≤ sizeLine ∧ c = .str (x ++ y)
  | .lst xs, .lst ys => xs.length + ys.length ≤ sizeLine ∧ c = .lst (xs ++ ys)
  | .tup xs, .tup ys => xs.length + ys.length ≤ sizeLine ∧ c = .tup (xs ++ ys)
  | _, _ => False
def RSub : R3 := fun h a b c => match vw h a, vw h b with
  | .int i, .int j => c = .int (i - j)
  | _, _ => False
def RMul : R3 := fun h a b c => match vw h a, vw h b with
  | .int i, .int j => (CMul i j ∨ CMulW i j) ∧ c = .int (i * j)
  | .str x, .int n => (0 ≤ n ∧ n ≤ 1000000 ∧ x.length * n.toNat ≤ 1000000) ∧ c = .str (repS x n.toNat)
  | .tup xs, .int n => (1 ≤ n ∧ n ≤ 1000 ∧ xs.length ≤ 1000) ∧ c = .tup (List.replicate n.toNat xs).flatten
  | .lst xs, .int n => (-(2 ^ 63) ≤ n ∧ n < 2 ^ 63 ∧ xs.length * n.toNat ≤ sizeLine) ∧ c = .lst (List.replicate n.toNat xs).flatten
  | _, _ => False
def RFdiv : R3 := fun h a b c => match vw h a, vw h b with
  | .int i, .int j => (j ≠ 0 ∧ j.natAbs.log2 < 9000) ∧ c = .int (i.fdiv j)
  | _, _ => False
def RMod : R3 := fun h a b c => match vw h a, vw h b with
  | .int i, .int j => j ≠ 0 ∧ c = .int (i.fmod j)
  | _, _ => False
def RPow : R3 := fun h a b c => match vw h a, vw h b with
  | .int i, .int j => CPow i j ∧ c = .int (i ^ j.toNat)
  | _, _ => False
def RCmp (f : Int → Int → Bool) : R3 := fun h a b c => match vw h a, vw h b with
  | .int i, .int j => c = .bl (f i j)
  | _, _ => False
/-- an int rule -/
theorem opl_int {K : Fg} {C : Int → Int → Prop} {g : Int → Int → V} {gd : Int → Int → D} (hg : ∀ i j h H, Dv K h H (g i j) (gd i j)) : OPL K (rI C g) (fun h a b c => match vw h a, vw h b with
    | .int i, .int j => C i j ∧ c = gd i j
    | _, _ => False) := by
  intro x y H h a b c Q re dx dy hr k
  cases ea : vw h a <;> cases eb : vw h b <;> simp only [ea, eb] at hr
  rename_i i j
  obtain ⟨hc, rfl⟩ := hr
  exact ⟨i, j, vw_int dx ea, vw_int dy eb, hc, k _ H (Step.refl h H) re (hg i j h H)⟩
theorem opl_int0 {K : Fg} {g : Int → Int → V} {gd : Int → Int → D} (hg : ∀ i j h H, Dv K h H (g i j) (gd i j)) : OPL K (rI0 g) (fun h a b c => match vw h a, vw h b with
    | .int i, .int j => c = gd i j
    | _, _ => False) := by
  intro x y H h a b c Q re dx dy hr k
  cases ea : vw h a <;> cases eb : vw h b <;> simp only [ea, eb] at hr
  rename_i i j
  subst hr
  exact ⟨i, j, vw_int dx ea, vw_int dy eb, k _ H (Step.refl h H) re (hg i j h H)⟩
section
variable {X : Cx} {An : AN}
/-! the operators of the layer, of all kinds -/
def rAddA (K : Fg) : R2 := fun x y H Q => (rI0 (fun i j => .int (i + j))) x y H Q ∨ (∃ i j, x = .str i ∧ y = .str j ∧ i.length + j.length ≤ sizeLine ∧ Q (.str (i ++ j)) H) ∨ rCat x y H Q ∨ rCatA K x y H Q
theorem oAdd : OpR X (binaryOp .Add) (rAddA X.K) := op_add.or (op_add_str.or (op_cat.or op_catA))
theorem lAdd {K : Fg} : OPL K (rAddA K) RAdd := by
  intro x y H h a b c Q re dx dy hr k
  unfold RAdd at hr
  cases ea : vw h a <;> cases eb : vw h b <;> simp only [ea, eb] at hr
  · subst hr
    exact .inl ⟨_, _, vw_int dx ea, vw_int dy eb, k _ H (Step.refl h H) re (.int _)⟩
  · obtain ⟨hz, rfl⟩ := hr
    exact .inr (.inl ⟨_, _, vw_str dx ea, vw_str dy eb, hz, k _ H (Step.refl h H) re (.str _)⟩)
  · obtain ⟨hz, rfl⟩ := hr
    obtain ⟨p, xs, e1, h1, r1⟩ := vw_tup dx ea
    obtain ⟨q, ys, e2, h2, r2⟩ := vw_tup dy eb
    refine .inr (.inr (.inr ⟨p, q, xs, ys, e1, e2, h1.sq, h2.sq, by rw [r1.length, r2.length]; exact hz, fun z => ?_, fun z z' => ?_, fun _ _ t n => ?_⟩))
    · subst z
      cases r1
      exact k _ H (Step.refl h H) re (.tup h2 r2)
    · subst z'
      cases r2
      rw [List.append_nil] at k
      exact k _ H (Step.refl h H) re (.tup h1 r1)
    · exact k _ _ (Step.new n) (re.new n) ((r1.append r2).tup_new re n)
  · obtain ⟨hz, rfl⟩ := hr
    obtain ⟨p, xs, e1, h1, r1⟩ := vw_lst re dx ea
    obtain ⟨q, ys, e2, h2, r2⟩ := vw_lst re dy eb
    refine .inr (.inr (.inl ⟨p, q, xs, ys, e1, e2, h1, h2, by rw [r1.length, r2.length]; exact hz, fun t n => ?_⟩))
    exact k _ _ (Step.new n) (re.new n) ((r1.append r2).lst_new re n)
theorem lSub {K : Fg} : OPL K (rI0 fun i j => .int (i - j)) RSub := opl_int0 (gd := fun i j => .int (i - j)) fun i j _ _ => .int _
theorem Dvs.rep {K : Fg} {h : GH} {H : Hp} {vs : List V} {ds : List D} (r : Dvs K h H vs ds) : ∀ n : Nat, Dvs K h H (List.replicate n vs).flatten (List.replicate n ds).flatten
  | 0 => .nil
  | n + 1 => by
    rw [List.replicate_succ, List.replicate_succ, List.flatten_cons, List.flatten_cons]
    exact r.append (Dvs.rep r n)
def rMulA (K : Fg) : R2 := fun x y H Q => (rI CMul fun i j => .int (i * j)) x y H Q ∨ (rI CMulW fun i j => .int (i * j)) x y H Q ∨ (∃ z n, x = .str z ∧ y = .int n ∧ 0 ≤ n ∧ n ≤ 1000000 ∧ z.length * n.toNat ≤ 1000000 ∧ Q (.str (repS z n.toNat)) H) ∨ rRepT K x y H Q ∨ rRepS K x y H Q ∨ rRep x y H Q
theorem oMul : OpR X (binaryOp .Mult) (rMulA X.K) := op_mul.or (op_mulW.or (op_mulS.or (op_repT.or (op_repS.or op_rep))))
theorem rep_nil {α : Type} (n : Nat) : (List.replicate n ([] : List α)).flatten = [] := by
  induction n with
  | zero => rfl
  | succ n ih => rw [List.replicate_succ, List.flatten_cons, ih]; rfl
theorem lMul {K : Fg} : OPL K (rMulA K) RMul := by
  intro x y H h a b c Q re dx dy hr k
  unfold RMul at hr
  cases ea : vw h a <;> cases eb : vw h b <;> simp only [ea, eb] at hr
  · obtain ⟨hc, rfl⟩ := hr
    rcases hc with hc | hc
    · exact .inl ⟨_, _, vw_int dx ea, vw_int dy eb, hc, k _ H (Step.refl h H) re (.int _)⟩
    · exact .inr (.inl ⟨_, _, vw_int dx ea, vw_int dy eb, hc, k _ H (Step.refl h H) re (.int _)⟩)
  · obtain ⟨⟨h0, h1, hz⟩, rfl⟩ := hr
    exact .inr (.inr (.inl ⟨_, _, vw_str dx ea, vw_int dy eb, h0, h1, hz, k _ H (Step.refl h H) re (.str _)⟩))
  · rename_i ds n
    obtain ⟨⟨h0, h1, hz⟩, rfl⟩ := hr
    obtain ⟨p, xs, e1, t, rs⟩ := vw_tup dx ea
    by_cases hc : ds = [] ∨ n = 1
    · have e : (List.replicate n.toNat ds).flatten = ds := by
        rcases hc with rfl | rfl
        · exact rep_nil _
        · show [ds].flatten = ds
          simp
      rw [e] at k
      refine .inr (.inr (.inr (.inr (.inl ⟨p, n, xs, e1, vw_int dy eb, t.sq, ?_, h0, h1, k _ H (Step.refl h H) re (.tup t rs)⟩))))
      rcases hc with rfl | rfl
      · cases rs; exact .inl rfl
      · exact .inr rfl
    · have h2 : 2 ≤ n := by
        have : n ≠ 1 := fun z => hc (.inr z)
        omega
      refine .inr (.inr (.inr (.inl ⟨p, n, xs, e1, vw_int dy eb, t.sq, fun z => ?_, h2, h1, by rw [rs.length]; exact hz, fun q nq => k _ _ (Step.new nq) (re.new nq) ((rs.rep _).tup_new re nq)⟩)))
      subst z
      cases rs
      exact hc (.inl rfl)
  · rename_i ds n
    obtain ⟨⟨h0, h1, hz⟩, rfl⟩ := hr
    obtain ⟨p, xs, e1, t, rs⟩ := vw_lst re dx ea
    exact .inr (.inr (.inr (.inr (.inr ⟨p, n, xs, e1, vw_int dy eb, t, h0, h1, by rw [rs.length]; exact hz, fun q nq => k _ _ (Step.new nq) (re.new nq) ((rs.rep _).lst_new re nq)⟩))))
theorem oFdiv : OpR X (binaryOp .FloorDiv) (rI (fun _ j => j ≠ 0 ∧ j.natAbs.log2 < 9000) fun i j => .int (i.fdiv j)) := opI fun i j _ _ _ _ _ hc q => PyProof.Rows.floordiv_int hc.1 q (.inl (PyProof.noPylong_of_log2 hc.2))
theorem lFdiv {K : Fg} : OPL K (rI (fun _ j => j ≠ 0 ∧ j.natAbs.log2 < 9000) fun i j => .int (i.fdiv j)) RFdiv := opl_int (gd := fun i j => .int (i.fdiv j)) fun i j _ _ => .int _
theorem lMod {K : Fg} : OPL K (rI (fun _ j => j ≠ 0) fun i j => .int (i.fmod j)) RMod := opl_int (gd := fun i j => .int (i.fmod j)) fun i j _ _ => .int _
theorem lPow {K : Fg} : OPL K (rI CPow fun i j => .int (i ^ j.toNat)) RPow := opl_int (gd := fun i j => .int (i ^ j.toNat)) fun i j _ _ => .int _
theorem lCmp {K : Fg} {f : Int → Int → Bool} : OPL K (rI0 fun i j => .bl (f i j)) (RCmp f) := opl_int0 (gd := fun i j => .bl (f i j)) fun i j _ _ => .bl _
variable {a b : Expr} {ga gb : gTE} {pos : Pos}
theorem e_add (ha : PE X a (gE X.K An ga)) (hb : PE X b (gE X.K An gb)) : PE X (.BinOp a .Add b pos) (gE X.K An (gBin RAdd ga gb)) := e_bin oAdd lAdd ha hb
theorem e_sub (ha : PE X a (gE X.K An ga)) (hb : PE X b (gE X.K An gb)) : PE X (.BinOp a .Sub b pos) (gE X.K An (gBin RSub ga gb)) := e_bin op_sub lSub ha hb
theorem e_mul (ha : PE X a (gE X.K An ga)) (hb : PE X b (gE X.K An gb)) : PE X (.BinOp a .Mult b pos) (gE X.K An (gBin RMul ga gb)) := e_bin oMul lMul ha hb
theorem e_fdiv (ha : PE X a (gE X.K An ga)) (hb : PE X b (gE X.K An gb)) : PE X (.BinOp a .FloorDiv b pos) (gE X.K An (gBin RFdiv ga gb)) := e_bin oFdiv lFdiv ha hb
theorem e_mod (ha : PE X a (gE X.K An ga)) (hb : PE X b (gE X.K An gb)) : PE X (.BinOp a .Mod b pos) (gE X.K An (gBin RMod ga gb)) := e_bin op_modN lMod ha hb
theorem e_pow (ha : PE X a (gE X.K An ga)) (hb : PE X b (gE X.K An gb)) : PE X (.BinOp a .Pow b pos) (gE X.K An (gBin RPow ga gb)) := e_bin op_pow lPow ha hb
theorem e_lt (ha : PE X a (gE X.K An ga)) (hb : PE X b (gE X.K An gb)) : PE X (.Compare a [.Lt] [b] pos) (gE X.K An (gBin (RCmp fun i j => decide (i < j)) ga gb)) := e_cmp op_lt lCmp ha hb (nomark _)
theorem e_le (ha : PE X a (gE X.K An ga)) (hb : PE X b (gE X.K An gb)) : PE X (.Compare a [.LtE] [b] pos) (gE X.K An (gBin (RCmp fun i j => decide (i ≤ j)) ga gb)) := e_cmp op_le lCmp ha hb (nomark _)
theorem e_gt (ha : PE X a (gE X.K An ga)) (hb : PE X b (gE X.K An gb)) : PE X (.Compare a [.Gt] [b] pos) (gE X.K An (gBin (RCmp fun i j => decide (j < i)) ga gb)) := e_cmp op_gt lCmp ha hb (nomark _)
theorem e_ge (ha : PE X a (gE X.K An ga)) (hb : PE X b (gE X.K An gb)) : PE X (.Compare a [.GtE] [b] pos) (gE X.K An (gBin (RCmp fun i j => decide (j ≤ i)) ga gb)) := e_cmp op_ge lCmp ha hb (nomark _)
end
/-! ### == by the data -/
mutual
def toP : D → Option PyData
  | .non => some .none
  | .bl b => some (.bool b)
  | .int i => some (.int i)
  | .str x => some (.str x)
  | .tup ds => (toPs ds).map .tuple
  | .lst ds => (toPs ds).map .list
  | .ref _ => none
  | .ty _ => none
  | .fro _ => none
  | .exc _ _ _ => none
def toPs : List D → Option (List PyData)
  | [] => some []
  | d :: r => (toP d).bind fun x => (toPs r).map (x :: ·)
end
mutual
theorem Dv.dp {K : Fg} {h : GH} {H : Hp} : ∀ {v : V} {d : D} {p : PyData}, Dv K h H v d → toP d = some p → Dp K H v p
  | _, _, _, .non, e => by cases e; exact .non
  | _, _, _, .bl b, e => by cases e; exact .bl b
  | _, _, _, .int i, e => by cases e; exact .int i
  | _, _, _, .str x, e => by cases e; exact .str x
  | _, _, _, .ty n, e => by cases e
  | _, _, _, .ref a, e => by cases e
  | _, _, _, .fro _ _, e => by cases e
  | _, _, _, .exc _ _ _ _ _, e => by cases e
  | _, _, _, .tup (ds := ds) t rs, e => by
    rw [toP] at e
    cases q : toPs ds with
    | none => rw [q] at e; cases e
    | some ps => rw [q] at e; cases e; exact .tup t.sq (Dvs.dp rs q)
  | _, _, _, .lst (ds := ds) n t rs, e => by
    rw [toP] at e
    cases q : toPs ds with
    | none => rw [q] at e; cases e
    | some ps => rw [q] at e; cases e; exact .lst (.inl (.inl t)) (Dvs.dp rs q)
theorem Dvs.dp {K : Fg} {h : GH} {H : Hp} : ∀ {v : List V} {d : List D} {p : List PyData}, Dvs K h H v d → toPs d = some p → DpAll K H v p
  | _, _, _, .nil, e => by cases e; exact .nil
  | _, _, _, .cons (d := d) (ds := ds) a r, e => by
    rw [toPs] at e
    cases q : toP d with
    | none => rw [q] at e; cases e
    | some x =>
      cases q2 : toPs ds with
      | none => rw [q, q2] at e; cases e
      | some xs => rw [q, q2] at e; cases e; exact .cons (Dv.dp a q) (Dvs.dp r q2)
end
theorem vw_dp {K : Fg} {h : GH} {H : Hp} {v : V} {d : D} {p : PyData} (re : Rel K h H) (k : Dv K h H v d) (e : toP (vw h d) = some p) : Dp K H v p := by
  cases k with
  | ref a =>
    cases z : h a with
    | none =>
      have q : vw h (.ref a) = .ref a := by simp only [vw, z]
      rw [q] at e; cases e
    | some g =>
      cases g with
      | lst es =>
        rw [vw_own z] at e
        obtain ⟨xs, q, rs⟩ := re a _ z
        rw [toP] at e
        cases q2 : toPs es with
        | none => rw [q2] at e; cases e
        | some ps => rw [q2] at e; cases e; exact .lst (.inl (.inl q)) (rs.dp q2)
      | bag => have q : vw h (.ref a) = .ref a := by { simp only [vw, z] }; rw [q] at e; cases e
      | ins C fs => have q : vw h (.ref a) = .ref a := by { simp only [vw, z] }; rw [q] at e; cases e
      | dct kvs => have q : vw h (.ref a) = .ref a := by { simp only [vw, z] }; rw [q] at e; cases e
      | xd kvs => have q : vw h (.ref a) = .ref a := by { simp only [vw, z] }; rw [q] at e; cases e
      | tab kvs => have q : vw h (.ref a) = .ref a := by { simp only [vw, z] }; rw [q] at e; cases e
  | non => exact Dv.dp (h := h) .non e
  | bl b => exact Dv.dp (h := h) (.bl b) e
  | int b => exact Dv.dp (h := h) (.int b) e
  | str b => exact Dv.dp (h := h) (.str b) e
  | ty b => exact Dv.dp (h := h) (.ty b) e
  | tup t rs => exact Dv.dp (h := h) (.tup t rs) e
  | lst n t rs => exact Dv.dp (h := h) (.lst n t rs) e
  | fro t rs => exact Dv.dp (h := h) (.fro t rs) e
  | exc a1 a2 a3 a4 rs => exact Dv.dp (h := h) (.exc a1 a2 a3 a4 rs) e
def REq (neg : Bool) : R3 := fun h a b c => match vw h a, vw h b with
  | .int i, .int j => c = .bl (if neg then !decide (i = j) else decide (i = j))
  | .str i, .str j => c = .bl (if neg then !decide (i = j) else decide (i = j))
  | x, y => ∃ p q, toP x = some p ∧ toP y = some q ∧ SeqAt.shaped p = true ∧ SeqAt.shaped q = true ∧ c = .bl (if neg then !PyData.eqv p q else PyData.eqv p q)
end Gh

namespace Gh
open PySem L2
section
variable {X : Cx} {An : AN} {a b c : Expr} {ga gb gc : gTE} {pos : Pos}
theorem dec_vint {i j : Int} : decide (V.int i = V.int j) = decide (i = j) := by rw [Bool.eq_iff_iff]; simp
theorem dec_vstr {i j : Str} : decide (V.str i = V.str j) = decide (i = j) := by rw [Bool.eq_iff_iff]; simp
def rEqA (K : Fg) : R2 := fun x y H Q => rEq x y H Q ∨ rEqD K x y H Q
def rNeA (K : Fg) : R2 := fun x y H Q => rNe x y H Q ∨ rNeD K x y H Q
theorem lEq {K : Fg} : OPL K (rEqA K) (REq false) := by
  intro x y H h a b c Q re dx dy hr k
  unfold REq at hr
  split at hr
  · rename_i i j ea eb
    subst hr
    rw [vw_int dx ea, vw_int dy eb]
    refine .inl ⟨rfl, ?_⟩
    rw [dec_vint]
    exact k _ H (Step.refl h H) re (.bl _)
  · rename_i i j ea eb
    subst hr
    rw [vw_str dx ea, vw_str dy eb]
    refine .inl ⟨rfl, ?_⟩
    rw [dec_vstr]
    exact k _ H (Step.refl h H) re (.bl _)
  · obtain ⟨p, q, e1, e2, s1, s2, rfl⟩ := hr
    exact .inr ⟨p, q, vw_dp re dx e1, vw_dp re dy e2, s1, s2, k _ H (Step.refl h H) re (.bl _)⟩
theorem lNe {K : Fg} : OPL K (rNeA K) (REq true) := by
  intro x y H h a b c Q re dx dy hr k
  unfold REq at hr
  split at hr
  · rename_i i j ea eb
    subst hr
    rw [vw_int dx ea, vw_int dy eb]
    refine .inl ⟨rfl, ?_⟩
    rw [dec_vint]
    exact k _ H (Step.refl h H) re (.bl _)
  · rename_i i j ea eb
    subst hr
    rw [vw_str dx ea, vw_str dy eb]
    refine .inl ⟨rfl, ?_⟩
    rw [dec_vstr]
    exact k _ H (Step.refl h H) re (.bl _)
  · obtain ⟨p, q, e1, e2, s1, s2, rfl⟩ := hr
    exact .inr ⟨p, q, vw_dp re dx e1, vw_dp re dy e2, s1, s2, k _ H (Step.refl h H) re (.bl _)⟩
theorem e_eq {k : Nat} (hr : Room k X.A) (ha : PE X a (gE X.K An ga)) (hb : PE X b (gE X.K An gb)) : PE X (.Compare a [.Eq] [b] pos) (gE X.K An (gBin (REq false) ga gb)) := e_cmp (op_eq.or (op_eqD hr.units)) lEq ha hb (nomark _)
theorem e_ne {k : Nat} (hr : Room k X.A) (ha : PE X a (gE X.K An ga)) (hb : PE X b (gE X.K An gb)) : PE X (.Compare a [.NotEq] [b] pos) (gE X.K An (gBin (REq true) ga gb)) := e_cmp (op_ne.or (op_neD hr.units)) lNe ha hb (nomark _)
/-! is None -/
def isN : D → Bool
  | .non => true
  | _ => false
def RIsN (neg : Bool) : GH → D → D → Prop := fun _ a c => c = .bl (if neg then !isN a else isN a)
theorem dv_isN {K : Fg} {h : GH} {H : Hp} {v : V} {d : D} (k : Dv K h H v d) : decide (v = .non) = isN d := by
  cases k <;> rfl
theorem e_isN {j} {p : Pos} (ha : PE X a (gE X.K An ga)) : PE X (.Compare a [.Is] [.Constant .none j p] pos) (gE X.K An (gUn (RIsN false) ga)) :=
  (pe_cmpR op_isN ha pe_non (nomark _)).imp fun σ H Q ⟨s, h, P, re, l, g, k⟩ => ⟨s, h, _, re, l, g, fun x H1 a h1 s1 re1 dx ⟨c, hr, p⟩ => by
    subst hr
    refine ⟨rfl, ?_⟩
    rw [dv_isN dx]
    exact k _ H1 _ h1 s1 re1 (.bl _) p⟩
theorem e_notN {j} {p : Pos} (ha : PE X a (gE X.K An ga)) : PE X (.Compare a [.IsNot] [.Constant .none j p] pos) (gE X.K An (gUn (RIsN true) ga)) :=
  (pe_cmpR op_notN ha pe_non (nomark _)).imp fun σ H Q ⟨s, h, P, re, l, g, k⟩ => ⟨s, h, _, re, l, g, fun x H1 a h1 s1 re1 dx ⟨c, hr, p⟩ => by
    subst hr
    refine ⟨rfl, ?_⟩
    rw [dv_isN dx]
    exact k _ H1 _ h1 s1 re1 (.bl _) p⟩
/-! negation -/
def RNeg : GH → D → D → Prop := fun h a c => match vw h a with
  | .int i => c = .int (-i)
  | _ => False
theorem e_neg (ha : PE X a (gE X.K An ga)) : PE X (.UnaryOp .USub a pos) (gE X.K An (gUn RNeg ga)) := e_un un_neg (by
  intro x H h a c Q re dx hr k
  unfold RNeg at hr
  split at hr
  · rename_i i ea
    subst hr
    exact ⟨i, vw_int dx ea, k _ H (Step.refl h H) re (.int _)⟩
  · exact hr.elim) ha
/-! ### tests, and, or, not, if -/
def gB (ga : gTE) : gTT := fun s h P => ga s h fun d h1 => ∃ b, d = .bl b ∧ P b h1
def gNot (gt : gTT) : gTT := fun s h P => gt s h fun b h1 => P (!b) h1
def gAnd (gt gu : gTT) : gTT := fun s h P => gt s h fun b h1 => if b = true then gu s h1 P else P false h1
def gOr (gt gu : gTT) : gTT := fun s h P => gt s h fun b h1 => if b = true then P true h1 else gu s h1 P
variable {gt gu : gTT}
theorem dv_bl {K : Fg} {h : GH} {H : Hp} {v : V} {b : Bool} (k : Dv K h H v (.bl b)) : v = .bl b := by cases k; rfl
theorem tB_of {K : Fg} {An : AN} (σ : St) (H : Hp) (Q : Bool → Hp → Prop) (q : gT K An (gB ga) σ H Q) : tB (gE K An ga) σ H Q := by
  obtain ⟨s, h, P, re, l, g, k⟩ := q
  refine ⟨s, h, _, re, l, g, fun x H1 a h1 s1 re1 dx ⟨b, e, p⟩ => ?_⟩
  subst e
  exact ⟨b, dv_bl dx, k b H1 h1 s1 re1 p⟩
theorem t_val (ha : PE X a (gE X.K An ga)) (he : ∀ whole, isTrue a X.env whole = (do let v ← whole; standAt a.pos; holding [v] (truthy v)) := by intro _; rfl) : PT X a (gT X.K An (gB ga)) := (pt_val ha he).imp tB_of
theorem t_not (ht : PT X a (gT X.K An gt)) : PT X (.UnaryOp .Not a pos) (gT X.K An (gNot gt)) := (pt_not ht).imp fun σ H Q ⟨s, h, P, re, l, g, k⟩ => ⟨s, h, _, re, l, g, fun b H' h' s1 re1 p => k (!b) H' h' s1 re1 p⟩

variable {rest : List Expr}
theorem and_of {K : Fg} {An : AN} (σ : St) (H : Hp) (Q : Bool → Hp → Prop) (q : gT K An (gAnd gt gu) σ H Q) : tAnd (gT K An gt) (gT K An gu) σ H Q := by
  obtain ⟨s, h, P, re, l, g, k⟩ := q
  refine ⟨s, h, _, re, l, g, fun b H1 h1 s1 re1 p => ?_⟩
  cases b with
  | true =>
    rw [if_pos rfl] at p
    rw [if_pos rfl]
    exact ⟨s, h1, _, re1, l.mono s1, p, fun b H2 h2 s2 re2 p2 => k b H2 h2 (s1.trans s2) re2 p2⟩
  | false =>
    rw [if_neg Bool.false_ne_true] at p
    rw [if_neg Bool.false_ne_true]
    exact k false H1 h1 s1 re1 p
theorem or_of {K : Fg} {An : AN} (σ : St) (H : Hp) (Q : Bool → Hp → Prop) (q : gT K An (gOr gt gu) σ H Q) : tOr (gT K An gt) (gT K An gu) σ H Q := by
  obtain ⟨s, h, P, re, l, g, k⟩ := q
  refine ⟨s, h, _, re, l, g, fun b H1 h1 s1 re1 p => ?_⟩
  cases b with
  | true =>
    rw [if_pos rfl] at p
    rw [if_pos rfl]
    exact k true H1 h1 s1 re1 p
  | false =>
    rw [if_neg Bool.false_ne_true] at p
    rw [if_neg Bool.false_ne_true]
    exact ⟨s, h1, _, re1, l.mono s1, p, fun b H2 h2 s2 re2 p2 => k b H2 h2 (s1.trans s2) re2 p2⟩
theorem w_and1 (ha : PT X a (gT X.K An gt)) : PW X (.BoolOp .And [a] pos) (gT X.K An gt) := pw_and1 ha
theorem w_or1 (ha : PT X a (gT X.K An gt)) : PW X (.BoolOp .Or [a] pos) (gT X.K An gt) := pw_or1 ha
theorem w_and (ha : PT X a (gT X.K An gt)) (hb : PW X (.BoolOp .And (b :: rest) pos) (gT X.K An gu)) : PW X (.BoolOp .And (a :: b :: rest) pos) (gT X.K An (gAnd gt gu)) := (pw_and ha hb).imp and_of
theorem w_or (ha : PT X a (gT X.K An gt)) (hb : PW X (.BoolOp .Or (b :: rest) pos) (gT X.K An gu)) : PW X (.BoolOp .Or (a :: b :: rest) pos) (gT X.K An (gOr gt gu)) := (pw_or ha hb).imp or_of
/-! as values, of truth values -/
def gAndV (ga gb : gTE) : gTE := fun s h P => ga s h fun a h1 => ∃ c, a = .bl c ∧ if c = true then gb s h1 P else P (.bl false) h1
def gOrV (ga gb : gTE) : gTE := fun s h P => ga s h fun a h1 => ∃ c, a = .bl c ∧ if c = true then P (.bl true) h1 else gb s h1 P
def gNotV (ga : gTE) : gTE := fun s h P => ga s h fun a h1 => ∃ c, a = .bl c ∧ P (.bl (!c)) h1
theorem e_one {op} (h : PE X a (gE X.K An ga)) : PE X (.BoolOp op [a] pos) (gE X.K An ga) := pe_one h
theorem e_and (ha : PE X a (gE X.K An ga)) (hb : PE X (.BoolOp .And (b :: rest) pos) (gE X.K An gb)) : PE X (.BoolOp .And (a :: b :: rest) pos) (gE X.K An (gAndV ga gb)) := (pe_and ha hb).imp fun σ H Q ⟨s, h, P, re, l, g, k⟩ => by
  refine ⟨s, h, _, re, l, g, fun x H1 a h1 s1 re1 dx ⟨c, e, p⟩ => ?_⟩
  subst e
  refine ⟨c, dv_bl dx, ?_⟩
  cases c with
  | true =>
    rw [if_pos rfl] at p
    rw [if_pos rfl]
    exact ⟨s, h1, _, re1, l.mono s1, p, fun v H2 d h2 s2 re2 dv p2 => k v H2 d h2 (s1.trans s2) re2 dv p2⟩
  | false =>
    rw [if_neg Bool.false_ne_true] at p
    rw [if_neg Bool.false_ne_true]
    exact k _ H1 _ h1 s1 re1 (.bl _) p
theorem e_or (ha : PE X a (gE X.K An ga)) (hb : PE X (.BoolOp .Or (b :: rest) pos) (gE X.K An gb)) : PE X (.BoolOp .Or (a :: b :: rest) pos) (gE X.K An (gOrV ga gb)) := (pe_or ha hb).imp fun σ H Q ⟨s, h, P, re, l, g, k⟩ => by
  refine ⟨s, h, _, re, l, g, fun x H1 a h1 s1 re1 dx ⟨c, e, p⟩ => ?_⟩
  subst e
  refine ⟨c, dv_bl dx, ?_⟩
  cases c with
  | true =>
    rw [if_pos rfl] at p
    rw [if_pos rfl]
    exact k _ H1 _ h1 s1 re1 (.bl _) p
  | false =>
    rw [if_neg Bool.false_ne_true] at p
    rw [if_neg Bool.false_ne_true]
    exact ⟨s, h1, _, re1, l.mono s1, p, fun v H2 d h2 s2 re2 dv p2 => k v H2 d h2 (s1.trans s2) re2 dv p2⟩
theorem e_not (ha : PE X a (gE X.K An ga)) : PE X (.UnaryOp .Not a pos) (gE X.K An (gNotV ga)) := (pe_not ha).imp fun σ H Q ⟨s, h, P, re, l, g, k⟩ => ⟨s, h, _, re, l, g, fun x H1 a h1 s1 re1 dx ⟨c, e, p⟩ => by
  subst e
  exact ⟨c, dv_bl dx, k _ H1 _ h1 s1 re1 (.bl _) p⟩⟩
def gIf (gt : gTT) (ga gb : gTE) : gTE := fun s h P => gt s h fun c h1 => if c = true then ga s h1 P else gb s h1 P
theorem e_if (hc : PT X c (gT X.K An gt)) (ha : PE X a (gE X.K An ga)) (hb : PE X b (gE X.K An gb)) : PE X (.IfExp c a b pos) (gE X.K An (gIf gt ga gb)) := (pe_ifExp hc ha hb).imp fun σ H Q ⟨s, h, P, re, l, g, k⟩ => by
  refine ⟨s, h, _, re, l, g, fun c H1 h1 s1 re1 p => ?_⟩
  cases c with
  | true =>
    rw [if_pos rfl] at p
    rw [if_pos rfl]
    exact ⟨s, h1, _, re1, l.mono s1, p, fun v H2 d h2 s2 re2 dv p2 => k v H2 d h2 (s1.trans s2) re2 dv p2⟩
  | false =>
    rw [if_neg Bool.false_ne_true] at p
    rw [if_neg Bool.false_ne_true]
    exact ⟨s, h1, _, re1, l.mono s1, p, fun v H2 d h2 s2 re2 dv p2 => k v H2 d h2 (s1.trans s2) re2 dv p2⟩
/-- a < b < c -/
def gChain (R R' : R3) (ga gb gc : gTE) : gTE := fun s h P => ga s h fun a h1 => gb s h1 fun b h2 => ∃ z, R h2 a b (.bl z) ∧ if z = true then gc s h2 fun c h3 => ∃ y, R' h3 b c y ∧ P y h3 else P (.bl false) h2
theorem e_chain {op op' : CmpOp} {r r' : R2} {R R' : R3} (ho : OpR X (compareOp op) r) (ho' : OpR X (compareOp op') r') (o : OPL X.K r R) (o' : OPL X.K r' R') (ha : PE X a (gE X.K An ga)) (hb : PE X b (gE X.K An gb)) (hc : PE X c (gE X.K An gc)) (hm : lastMarks [op, op'] [b, c] = false) :
    PE X (.Compare a [op, op'] [b, c] pos) (gE X.K An (gChain R R' ga gb gc)) := (pe_chain ho ho' ha hb hc hm).imp fun σ H Q ⟨s, h, P, re, l, g, k⟩ => by
  refine ⟨s, h, _, re, l, g, fun x H1 a h1 s1 re1 dx g1 => ?_⟩
  refine ⟨s, h1, _, re1, l.mono s1, g1, fun y H2 b h2 s2 re2 dy ⟨z, hz, g2⟩ => ?_⟩
  refine o x y H2 h2 a b (.bl z) _ re2 (dx.mono s2) dy hz fun v H3 s3 re3 dv => ⟨z, dv_bl dv, ?_⟩
  have s13 := (s1.trans s2).trans s3
  cases z with
  | true =>
    rw [if_pos rfl] at g2
    rw [if_pos rfl]
    refine ⟨s, h2, _, re3, l.mono s13, g2, fun y' H4 c h4 s4 re4 dy' ⟨y2, hy, p⟩ => ?_⟩
    exact o' y y' H4 h4 b c y2 Q re4 (dy.mono (s3.trans s4)) dy' hy fun v H5 s5 re5 dv => k v H5 y2 h4 ((s13.trans s4).trans s5) re5 dv p
  | false =>
    rw [if_neg Bool.false_ne_true] at g2
    rw [if_neg Bool.false_ne_true]
    exact k _ H3 _ h2 s13 re3 (.bl _) g2
/-! ### subscripts -/
def RIx : R3 := fun h a b c => match vw h a, vw h b with
  | .lst ds, .int i => atI ds i = some c
  | .tup ds, .int i => atI ds i = some c
  | .str x, .int i => x.length ≤ sizeLine ∧ ∃ k, atI x.cps.toList i = some k ∧ c = .str ⟨#[k]⟩
  | _, _ => False
theorem Dvs.at {K : Fg} {h : GH} {H : Hp} {vs : List V} {ds : List D} {i : Int} {d : D} (r : Dvs K h H vs ds) (e : atI ds i = some d) : ∃ v, atI vs i = some v ∧ Dv K h H v d := by
  unfold atI at e ⊢
  rw [r.length]
  cases q : ixN ds.length i with
  | none => rw [q] at e; cases e
  | some j =>
    rw [q] at e
    obtain ⟨v, h1, h2⟩ := r.get (show ds[j]? = some d from e)
    exact ⟨v, h1, h2⟩
theorem lIx {K : Fg} : OPL K (rIx K) RIx := by
  intro x y H h a b c Q re dx dy hr k
  unfold RIx at hr
  split at hr
  · rename_i ds i ea eb
    obtain ⟨p, xs, e1, q, rs⟩ := vw_lst re dx ea
    obtain ⟨v, hv, dv⟩ := rs.at hr
    exact .inl ⟨p, xs, i, v, e1, vw_int dy eb, .inl (.inl q), hv, k v H (Step.refl h H) re dv⟩
  · rename_i ds i ea eb
    obtain ⟨p, xs, e1, q, rs⟩ := vw_tup dx ea
    obtain ⟨v, hv, dv⟩ := rs.at hr
    exact .inr (.inl ⟨p, xs, i, v, e1, vw_int dy eb, q.sq, hv, k v H (Step.refl h H) re dv⟩)
  · rename_i x i ea eb
    obtain ⟨hz, j, hj, rfl⟩ := hr
    exact .inr (.inr ⟨x, i, j, vw_str dx ea, vw_int dy eb, hz, hj, k _ H (Step.refl h H) re (.str _)⟩)
  · exact hr.elim
theorem e_ix (ha : PE X a (gE X.K An ga)) (hb : PE X b (gE X.K An gb)) (hs : PlainIx b := by exact fun _ _ => rfl) : PE X (.Subscript a b pos) (gE X.K An (gBin RIx ga gb)) := (pe_ix ix_seq ha hb hs).imp fun σ H Q q => two lIx σ H Q q
/-! slices -/
abbrev gTO := GS → GH → (Option Int → GH → Prop) → Prop
def gO (K : Fg) (An : AN) (g : gTO) : TO := fun σ H Q => ∃ s h P, Rel K h H ∧ Sl K An h H σ s ∧ g s h P ∧ ∀ o H' h', Step h H h' H' → Rel K h' H' → P o h' → Q o H'
def gNoPart : gTO := fun _ h P => P none h
def gPart (ga : gTE) : gTO := fun s h P => ga s h fun d h1 => ∃ i, d = .int i ∧ P (some i) h1
theorem _root_.L2.PO.imp {e : Option Expr} {t t' : TO} (h : PO X e t) (k : ∀ σ H Q, t' σ H Q → t σ H Q) : PO X e t' := ⟨fun pins s σ H Q I q => h.run pins s σ H Q I (k σ H Q q)⟩
theorem o_none : PO X none (gO X.K An gNoPart) := po_none.imp fun σ H Q ⟨s, h, P, re, l, g, k⟩ => k none H h (Step.refl h H) re g
theorem o_some (ha : PE X a (gE X.K An ga)) : PO X (some a) (gO X.K An (gPart ga)) := (po_some ha).imp fun σ H Q ⟨s, h, P, re, l, g, k⟩ => ⟨s, h, _, re, l, g, fun x H1 a h1 s1 re1 dx ⟨i, e, p⟩ => by
  subst e
  cases dx
  exact ⟨i, rfl, k _ H1 h1 s1 re1 p⟩⟩
def cutD {α : Type} (xs : List α) (lo hi : Option Int) : List α := (xs.drop (HT.sIx xs.length 0 lo)).take (HT.sIx xs.length xs.length hi - HT.sIx xs.length 0 lo)
def RSl : GH → D → Option Int → Option Int → D → Prop := fun h a lo hi c => match vw h a with
  | .lst ds => c = .lst (cutD ds lo hi)
  | .tup ds => c = .tup (cutD ds lo hi)
  | .str x => x.length ≤ sizeLine ∧ c = .str (cutS x lo hi)
  | .fro ds => c = .lst (cutD ds lo hi)
  | _ => False
def gSl (ga : gTE) (gl gh : gTO) : gTE := fun s h P => ga s h fun a h1 => gl s h1 fun lo h2 => gh s h2 fun hi h3 => ∃ c, RSl h3 a lo hi c ∧ P c h3
theorem Dvs.cut {K : Fg} {h : GH} {H : Hp} {vs : List V} {ds : List D} {lo hi : Option Int} (r : Dvs K h H vs ds) : Dvs K h H (cutV vs lo hi) (cutD ds lo hi) := by
  unfold cutV cutD
  rw [r.length]
  exact (r.drop _).take _
def rSlAll (K : Fg) : V → Option Int → Option Int → Hp → VK → Prop := fun x lo hi H Q => rSlL K x lo hi H Q ∨ rSlA K x lo hi H Q ∨ rSlS x lo hi H Q
theorem slOr {r r' : V → Option Int → Option Int → Hp → VK → Prop} (h : SlR X r) (h' : SlR X r') : SlR X (fun x lo hi H Q => r x lo hi H Q ∨ r' x lo hi H Q) := by
  intro pins s σ H x v vl vu lo hi sl Q I rx hs pl pu q
  rcases q with q | q
  · exact h pins s σ H x v vl vu lo hi sl Q I rx hs pl pu q
  · exact h' pins s σ H x v vl vu lo hi sl Q I rx hs pl pu q
theorem sl_all : SlR X (rSlAll X.K) := slOr sl_list (slOr sl_tupA sl_str)
theorem e_sl {lo hi : Option Expr} {gl gh : gTO} {p2 : Pos} (ha : PE X a (gE X.K An ga)) (hl : PO X lo (gO X.K An gl)) (hh : PO X hi (gO X.K An gh)) : PE X (.Subscript a (.Slice lo hi none p2) pos) (gE X.K An (gSl ga gl gh)) := (pe_slice sl_all ha hl hh).imp fun σ H Q ⟨s, h, P, re, l, g, k⟩ => by
  refine ⟨s, h, _, re, l, g, fun x H1 a h1 s1 re1 dx g1 => ?_⟩
  refine ⟨s, h1, _, re1, l.mono s1, g1, fun lo H2 h2 s2 re2 g2 => ?_⟩
  refine ⟨s, h2, _, re2, l.mono (s1.trans s2), g2, fun hi H3 h3 s3 re3 ⟨c, hc, p⟩ => ?_⟩
  have s13 := (s1.trans s2).trans s3
  have dx3 := dx.mono (s2.trans s3)
  unfold RSl at hc
  split at hc
  · rename_i ds ea
    subst hc
    obtain ⟨pa, xs, e1, q, rs⟩ := vw_lst re3 dx3 ea
    exact .inl ⟨pa, xs, e1, .inl (.inl q), fun t n => k _ _ _ h3 (s13.trans (Step.new n)) (re3.new n) (rs.cut.lst_new re3 n) p⟩
  · rename_i ds ea
    subst hc
    obtain ⟨pa, xs, e1, q, rs⟩ := vw_tup dx3 ea
    refine .inr (.inl ⟨pa, xs, e1, q.sq, fun z => ?_, fun z t n => ?_⟩)
    · have e : cutD ds lo hi = ds := by
        unfold cutD
        rw [← rs.length, z.1, z.2, List.drop_zero, Nat.sub_zero, rs.length, List.take_length]
      rw [e] at p
      exact k _ H3 _ h3 s13 re3 (.tup q rs) p
    · exact k _ _ _ h3 (s13.trans (Step.new n)) (re3.new n) (rs.cut.tup_new re3 n) p
  · rename_i x ea
    obtain ⟨hz, rfl⟩ := hc
    exact .inr (.inr ⟨x, vw_str dx3 ea, hz, k _ H3 _ h3 s13 re3 (.str _) p⟩)
  · rename_i ds ea
    subst hc
    obtain ⟨pa, xs, e1, q, rs⟩ := vw_fro dx3 ea
    exact .inl ⟨pa, xs, e1, q.sq, fun t n => k _ _ _ h3 (s13.trans (Step.new n)) (re3.new n) (rs.cut.lst_new re3 n) p⟩
  · exact hc.elim
end
end Gh

namespace Gh
open PySem L2
theorem put_del {h : GH} {p : Addr} {g : GO} (e : h p = none) : del (put h p g) p = h := by
  funext b
  by_cases z : b = p
  · subst z; rw [del_same, e]
  · rw [del_ne z, put_ne z]
theorem put_put {h : GH} {p : Addr} {g g' : GO} : put (put h p g) p g' = put h p g' := by
  funext b
  by_cases z : b = p
  · subst z; rw [put_same, put_same]
  · rw [put_ne z, put_ne z, put_ne z]
section
variable {X : Cx} {An : AN} {a b e : Expr} {es : List Expr} {ga gb : gTE} {gas : gTA} {pos : Pos}
/-! ### arguments, displays -/
def aNil : gTA := fun _ h P => P [] h
def aCons (ga : gTE) (gr : gTA) : gTA := fun s h P => ga s h fun d h1 => gr s h1 fun ds h2 => P (d :: ds) h2
theorem a_nil : PA X [] (gA X.K An aNil) := pa_nil.imp fun σ H Q ⟨s, h, P, re, l, g, k⟩ => k _ H _ h (Step.refl h H) re .nil g
theorem a_cons (ha : PE X e (gE X.K An ga)) (hr : PA X es (gA X.K An gas)) (hs : starEach (e :: es) X.env = (false, eval e X.env) :: starEach es X.env := by rfl) : PA X (e :: es) (gA X.K An (aCons ga gas)) := (pa_cons ha hr hs).imp fun σ H Q ⟨s, h, P, re, l, g, k⟩ => by
  refine ⟨s, h, _, re, l, g, fun x H1 d h1 s1 re1 dx g1 => ?_⟩
  exact ⟨s, h1, _, re1, l.mono s1, g1, fun xs H2 ds h2 s2 re2 dxs p => k _ H2 _ h2 (s1.trans s2) re2 (.cons (dx.mono s2) dxs) p⟩
def gTup (ga : gTA) : gTE := fun s h P => ga s h fun ds h1 => ds.length ≤ sizeLine ∧ P (.tup ds) h1
def fLst (ga : gTA) : gTA := fun s h P => ga s h fun ds h1 => ds.length ≤ sizeLine ∧ P ds h1
theorem e_tup {x1} (ha : PA X es (gA X.K An gas)) : PE X (.Tuple es x1 pos) (gE X.K An (gTup gas)) := (pe_tup ha).imp fun σ H Q ⟨s, h, P, re, l, g, k⟩ => ⟨s, h, _, re, l, g, fun xs H1 ds h1 s1 re1 dxs ⟨hz, p⟩ => by
  refine ⟨by rw [dxs.length]; exact hz, fun t n => ?_⟩
  exact k _ _ _ h1 (s1.trans (Step.new n)) (re1.new n) (dxs.tup_new re1 n) p⟩
theorem Rel.newO {K : Fg} {h : GH} {H : Hp} {p : Addr} {xs : List V} {ds : List D} (r : Rel K h H) (n : H p = none) (k : Dvs K h H xs ds) : Rel K (Gh.put h p (GO.lst ds)) (upd H p (.lst xs)) :=
  r.put (g := GO.lst ds) (Step.newO n) ⟨xs, upd_same, k.mono (Step.newO n)⟩
theorem f_lst (ha : PA X es (gA X.K An gas)) : PE X (.List es pos) (gF X.K An (fLst gas)) := (pe_lst ha).imp fun σ H Q ⟨s, h, P, re, l, g, k⟩ => ⟨s, h, _, re, l, g, fun xs H1 ds h1 s1 re1 dxs ⟨hz, p⟩ => by
  refine ⟨by rw [dxs.length]; exact hz, fun t n => ?_⟩
  exact k t ds _ h1 (re1.free n) (s1.trans (Step.newO n)) (re1.newO n dxs) p⟩
/-- a new list as a value -/
def gFr (g : gTA) : gTE := fun s h P => g s h fun ds h1 => P (.lst ds) h1
theorem Rel.letgo {K : Fg} {h : GH} {H : Hp} {p : Addr} {ds : List D} (r : Rel K h H) (e : h p = some (.lst ds)) : Dv K (Gh.del h p) H (.ref p) (.lst ds) := by
  obtain ⟨xs, q, rs⟩ := r p _ e
  exact .lst del_same q (rs.mono Step.del)
theorem e_fr {g : gTA} (he : PE X e (gF X.K An g)) : PE X e (gE X.K An (gFr g)) := he.imp fun σ H Q ⟨s, h, P, re, l, g, k⟩ => ⟨s, h, _, re, l, g, fun p ds H' h1 n s1 re1 pp => by
  have d := re1.letgo put_same
  have re2 := re1.del (p := p)
  have s2 : Step h H (Gh.del (Gh.put h1 p (GO.lst ds)) p) H' := s1.trans Step.del
  rw [put_del n] at d re2 s2
  exact k _ H' _ h1 s2 re2 d pp⟩
/-! ### calls of defs -/
abbrev GSpec := List D → GH → GP → Prop
def GSP (K : Fg) (S : GSpec) : Sp := fun vs H Q _ => ∃ ds h P, Rel K h H ∧ Dvs K h H vs ds ∧ S ds h P ∧ ∀ v H' d h', Step h H h' H' → Rel K h' H' → Dv K h' H' v d → P d h' → Q v H'
/-- a def of the module, by its name -/
def Fc (P : Program) (w : World) (K : Fg) (mg : Str → Option Value) (base : Heap) (k : Nat) (x : Str) (S : GSpec) : Prop :=
  ∃ f : Addr, FnR P w K mg base CX0 k f (GSP K S) ∧ mg x = some (.ref f) ∧ PySem.W.keepIn K (.ref f) = true
theorem Fc.mono {P : Program} {w : World} {K : Fg} {mg : Str → Option Value} {base : Heap} {j k : Nat} {x : Str} {S : GSpec} (c : Fc P w K mg base j x S) (h : j ≤ k) : Fc P w K mg base k x S :=
  let ⟨f, F, m, kp⟩ := c; ⟨f, F.mono h, m, kp⟩
theorem Fc.imp {P : Program} {w : World} {K : Fg} {mg : Str → Option Value} {base : Heap} {k : Nat} {x : Str} {S S' : GSpec} (c : Fc P w K mg base k x S) (h : ∀ ds h P, S' ds h P → S ds h P) : Fc P w K mg base k x S' :=
  let ⟨f, F, m, kp⟩ := c; ⟨f, F.imp fun vs H Q E ⟨ds, h0, P, re, dv, s, k⟩ => ⟨ds, h0, P, re, dv, h _ _ _ s, k⟩, m, kp⟩
def gCall (S : GSpec) (ga : gTA) : gTE := fun s h P => ga s h fun ds h1 => S ds h1 P
theorem call_of {K : Fg} {An : AN} {S : GSpec} {E : XK} (σ : St) (H : Hp) (Q : VK) (q : gE K An (gCall S gas) σ H Q) : gA K An gas σ H fun vs H1 => GSP K S vs H1 Q E := by
  obtain ⟨s, h, P, re, l, g, k⟩ := q
  refine ⟨s, h, _, re, l, g, fun vs H1 ds h1 s1 re1 dvs g1 => ?_⟩
  exact ⟨ds, h1, P, re1, dvs, g1, fun v H' d h' s2 re2 dv p => k v H' d h' (s1.trans s2) re2 dv p⟩
theorem e_call {k j : Nat} {x : Str} {S : GSpec} {p : Pos} (c : Fc X.prog X.w X.K X.mg X.base k x S) (hr : Room j X.A) (hk : k ≤ j) (ha : PA X (e :: es) (gA X.K An gas)) (hg : Gl X x := by rfl) (hdb : (x == ("__debug__" : Str)) = false := by decide)
    (he : starEach (e :: es) X.env = (false, eval e X.env) :: starEach es X.env := by rfl) (hpl : (backTo pos (starEach es X.env)).any (·.1) = false := by rfl) :
    PE X (.Call (.Name x p) (e :: es) [] pos) (gE X.K An (gCall S gas)) := by
  obtain ⟨f, F, hm, kp⟩ := c
  refine ⟨fun pins s σ H Q I h => ?_⟩
  refine wpAny_Call_Name_kw (ld_glob I hg hm ?_ hdb)
  refine PySem.W.callWith_K (h₀ := X.base) I.ok.mod.kin kp (thn (ha.run pos pins s σ H _ I (call_of (E := E0) σ H Q h)) fun us s1 ⟨vs, H1, I1, r, q⟩ => ⟨I1.kIn, ?_⟩) he hpl
  exact wpAny_call (run_fnR F (hr.mono hk) pass0 I1 r q)
theorem e_call0 {k j : Nat} {x : Str} {S : GSpec} {p : Pos} (c : Fc X.prog X.w X.K X.mg X.base k x S) (hr : Room j X.A) (hk : k ≤ j) (hg : Gl X x := by rfl) (hdb : (x == ("__debug__" : Str)) = false := by decide) :
    PE X (.Call (.Name x p) [] [] pos) (gE X.K An (gCall S aNil)) := by
  obtain ⟨f, F, hm, kp⟩ := c
  refine ⟨fun pins s σ H Q I h => ?_⟩
  refine wpAny_Call_Name_kw (ld_glob I hg hm ?_ hdb)
  obtain ⟨sl, h0, P, re, l, g, k⟩ := h
  exact PySem.W.callWith_K0 I.kIn kp (wpAny_call (run_fnR (us := []) F (hr.mono hk) pass0 I .nil ⟨[], h0, P, re, .nil, g, k⟩))
/-! ### calls of built-ins -/
abbrev RC2 := GH → List D → D → Prop
def CLL (K : Fg) (r : List V → Hp → VK → Prop) (R : RC2) : Prop := ∀ vs H h ds c Q, Rel K h H → Dvs K h H vs ds → R h ds c → (∀ v H', Step h H h H' → Rel K h H' → Dv K h H' v c → Q v H') → r vs H Q
def gCB (R : RC2) (ga : gTA) : gTE := fun s h P => ga s h fun ds h1 => ∃ c, R h1 ds c ∧ P c h1
theorem cb_of {K : Fg} {An : AN} {r : List V → Hp → VK → Prop} {R : RC2} (o : CLL K r R) (σ : St) (H : Hp) (Q : VK) (q : gE K An (gCB R gas) σ H Q) : tCB r (gA K An gas) σ H Q := by
  obtain ⟨s, h, P, re, l, g, k⟩ := q
  refine ⟨s, h, _, re, l, g, fun vs H1 ds h1 s1 re1 dvs ⟨c, hc, p⟩ => ?_⟩
  exact o vs H1 h1 ds c Q re1 dvs hc fun v H' s2 re2 dv => k v H' c h1 (s1.trans s2) re2 dv p
theorem e_cb {x : Str} {id : String} {r : List V → Hp → VK → Prop} {R : RC2} {p : Pos} (hc : CallR X (.builtin id) r) (o : CLL X.K r R) (hm : X.mg x = none) (hv : bootBuiltins x = some (.builtin id)) (ha : PA X (e :: es) (gA X.K An gas)) (hg : Gl X x := by rfl)
    (hn : x ≠ "__name__" := by decide) (hd : (x == ("__debug__" : Str)) = false := by decide) (he : starEach (e :: es) X.env = (false, eval e X.env) :: starEach es X.env := by rfl) (hpl : (backTo pos (starEach es X.env)).any (·.1) = false := by rfl) :
    PE X (.Call (.Name x p) (e :: es) [] pos) (gE X.K An (gCB R gas)) := (pe_callB hc hg hm hv ha hn hd he hpl).imp (cb_of o)
end
end Gh

namespace Gh
open PySem L2
/-! ### built-ins -/
section
variable {X : Cx} {An : AN} {a b e : Expr} {es : List Expr} {ga gb : gTE} {gas : gTA} {pos p : Pos}
def RLen : RC2 := fun h ds c => ∃ d, ds = [d] ∧ match vw h d with
  | .lst xs => c = .int (xs.length : Nat)
  | .tup xs => c = .int (xs.length : Nat)
  | .str x => x.length ≤ sizeLine ∧ c = .int (x.length : Nat)
  | _ => False
theorem dvs1 {K : Fg} {h : GH} {H : Hp} {vs : List V} {d : D} (k : Dvs K h H vs [d]) : ∃ v, vs = [v] ∧ Dv K h H v d := by
  cases k with
  | cons a r => cases r; exact ⟨_, rfl, a⟩
theorem dvs2 {K : Fg} {h : GH} {H : Hp} {vs : List V} {d d' : D} (k : Dvs K h H vs [d, d']) : ∃ v v', vs = [v, v'] ∧ Dv K h H v d ∧ Dv K h H v' d' := by
  cases k with
  | cons a r =>
    obtain ⟨v', rfl, q⟩ := dvs1 r
    exact ⟨_, _, rfl, a, q⟩
theorem lLen {K : Fg} : CLL K (fun xs H Q => ∃ x n, xs = [x] ∧ LenV K x H n ∧ Q (.int n) H) RLen := by
  intro vs H h ds c Q re dvx hr k
  obtain ⟨d, rfl, hr⟩ := hr
  obtain ⟨v, rfl, dv⟩ := dvs1 dvx
  split at hr
  · rename_i xs ea
    subst hr
    obtain ⟨q, ys, e1, h1, rs⟩ := vw_lst re dv ea
    refine ⟨v, xs.length, rfl, ?_, k _ H (Step.refl h H) re (.int _)⟩
    rw [e1]
    exact .inl ⟨ys, .inl (.inl h1), rs.length.symm⟩
  · rename_i xs ea
    subst hr
    obtain ⟨q, ys, e1, h1, rs⟩ := vw_tup dv ea
    refine ⟨v, xs.length, rfl, ?_, k _ H (Step.refl h H) re (.int _)⟩
    rw [e1]
    exact .inr ⟨ys, h1.sq, rs.length.symm⟩
  · rename_i x ea
    obtain ⟨hz, rfl⟩ := hr
    refine ⟨v, x.length, rfl, ?_, k _ H (Step.refl h H) re (.int _)⟩
    rw [vw_str dv ea]
    exact ⟨hz, rfl⟩
  · exact hr.elim
theorem e_len (hm : X.mg "len" = none) (ha : PA X [e] (gA X.K An gas)) (hg : Gl X "len" := by rfl) (he : starEach [e] X.env = [(false, eval e X.env)] := by rfl) : PE X (.Call (.Name "len" p) [e] [] pos) (gE X.K An (gCB RLen gas)) :=
  e_cb call_len lLen hm PySem.boot_len ha hg (by decide) (by decide) he (by rfl)
def RAbs : RC2 := fun h ds c => ∃ d, ds = [d] ∧ match vw h d with
  | .int i => c = .int (i.natAbs : Nat)
  | _ => False
theorem lAbs {K : Fg} : CLL K (fun xs H Q => ∃ i, xs = [.int i] ∧ Q (.int (if i < 0 then -i else i)) H) RAbs := by
  intro vs H h ds c Q re dvx hr k
  obtain ⟨d, rfl, hr⟩ := hr
  obtain ⟨v, rfl, dv⟩ := dvs1 dvx
  split at hr
  · rename_i i ea
    subst hr
    refine ⟨i, by rw [vw_int dv ea], ?_⟩
    have e : (if i < 0 then -i else i) = ((i.natAbs : Nat) : Int) := by split <;> omega
    rw [e]
    exact k _ H (Step.refl h H) re (.int _)
  · exact hr.elim
theorem e_abs (hm : X.mg "abs" = none) (ha : PA X [e] (gA X.K An gas)) (hg : Gl X "abs" := by rfl) (he : starEach [e] X.env = [(false, eval e X.env)] := by rfl) : PE X (.Call (.Name "abs" p) [e] [] pos) (gE X.K An (gCB RAbs gas)) :=
  e_cb call_abs lAbs hm (by decide +kernel) ha hg (by decide) (by decide) he (by rfl)
theorem e_ct {x : Str} {T : String} {r : List V → Hp → VK → Prop} {R : RC2} (hc : CallR X (.type T) r) (o : CLL X.K r R) (hm : X.mg x = none) (hv : bootBuiltins x = some (.type T)) (ha : PA X (e :: es) (gA X.K An gas)) (hg : Gl X x := by rfl)
    (hn : x ≠ "__name__" := by decide) (hd : (x == ("__debug__" : Str)) = false := by decide) (he : starEach (e :: es) X.env = (false, eval e X.env) :: starEach es X.env := by rfl) (hpl : (backTo pos (starEach es X.env)).any (·.1) = false := by rfl) :
    PE X (.Call (.Name x p) (e :: es) [] pos) (gE X.K An (gCB R gas)) := (pe_callTy hc hg hm hv ha hn hd he hpl).imp (cb_of o)
def RInt : RC2 := fun h ds c => ∃ d, ds = [d] ∧ match vw h d with
  | .int i => c = .int i
  | .bl b => c = .int (if b then 1 else 0)
  | .str x => x.length ≤ 640 ∧ ∃ n, PySem.intText? x = some n ∧ c = .int n
  | _ => False
def rIntA : List V → Hp → VK → Prop := fun xs H Q => ((∃ i, xs = [.int i] ∧ Q (.int i) H) ∨ ∃ k, xs = [.bl k] ∧ Q (.int (if k then 1 else 0)) H) ∨ ∃ a n, xs = [.str a] ∧ PySem.intText? a = some n ∧ a.length ≤ 640 ∧ Q (.int n) H
theorem crOr {f : Value} {r r' : List V → Hp → VK → Prop} (h : CallR X f r) (h' : CallR X f r') : CallR X f (fun xs H Q => r xs H Q ∨ r' xs H Q) := by
  intro pins s σ H xs us Q I rv q
  rcases q with q | q
  · exact h pins s σ H xs us Q I rv q
  · exact h' pins s σ H xs us Q I rv q
theorem lInt {K : Fg} : CLL K rIntA RInt := by
  intro vs H h ds c Q re dvx hr k
  obtain ⟨d, rfl, hr⟩ := hr
  obtain ⟨v, rfl, dv⟩ := dvs1 dvx
  split at hr
  · rename_i i ea
    subst hr
    exact .inl (.inl ⟨i, by rw [vw_int dv ea], k _ H (Step.refl h H) re (.int _)⟩)
  · rename_i i ea
    subst hr
    exact .inl (.inr ⟨i, by rw [vw_bl dv ea], k _ H (Step.refl h H) re (.int _)⟩)
  · rename_i x ea
    obtain ⟨hz, n, hn, rfl⟩ := hr
    exact .inr ⟨x, n, by rw [vw_str dv ea], hn, hz, k _ H (Step.refl h H) re (.int _)⟩
  · exact hr.elim
theorem e_intc (hm : X.mg "int" = none) (ha : PA X [e] (gA X.K An gas)) (hg : Gl X "int" := by rfl) (he : starEach [e] X.env = [(false, eval e X.env)] := by rfl) : PE X (.Call (.Name "int" p) [e] [] pos) (gE X.K An (gCB RInt gas)) :=
  e_ct (crOr call_int1 call_int_str) lInt hm (by decide +kernel) ha hg (by decide) (by decide) he (by rfl)
def bls : List D → Option (List Bool)
  | [] => some []
  | .bl b :: r => (bls r).map (b :: ·)
  | _ => none
theorem Dvs.bls {K : Fg} {h : GH} {H : Hp} : ∀ {vs : List V} {ds : List D} {bs : List Bool}, Dvs K h H vs ds → Gh.bls ds = some bs → vs = bs.map V.bl
  | _, _, _, .nil, e => by cases e; rfl
  | _, _, _, .cons (d := d) (ds := ds) a r, e => by
    cases d with
    | bl b =>
      rw [Gh.bls] at e
      cases q : Gh.bls ds with
      | none => rw [q] at e; cases e
      | some cs =>
        rw [q] at e
        cases e
        cases a
        rw [Dvs.bls r q]
        rfl
    | _ => cases e
def RAll (any : Bool) : RC2 := fun h ds c => ∃ d xs bs, ds = [d] ∧ vw h d = .lst xs ∧ bls xs = some bs ∧ c = .bl (if any then bs.any id else bs.all id)
theorem lAll {K : Fg} : CLL K (rAll K) (RAll false) := by
  intro vs H h ds c Q re dvx hr k
  obtain ⟨d, xs, bs, rfl, ea, eb, rfl⟩ := hr
  obtain ⟨v, rfl, dv⟩ := dvs1 dvx
  obtain ⟨q, ys, e1, h1, rs⟩ := vw_lst re dv ea
  have e2 := rs.bls eb
  subst e2
  exact ⟨q, bs, by rw [e1], .inl (.inl h1), k _ H (Step.refl h H) re (.bl _)⟩
theorem lAny {K : Fg} : CLL K (rAny K) (RAll true) := by
  intro vs H h ds c Q re dvx hr k
  obtain ⟨d, xs, bs, rfl, ea, eb, rfl⟩ := hr
  obtain ⟨v, rfl, dv⟩ := dvs1 dvx
  obtain ⟨q, ys, e1, h1, rs⟩ := vw_lst re dv ea
  have e2 := rs.bls eb
  subst e2
  exact ⟨q, bs, by rw [e1], .inl (.inl h1), k _ H (Step.refl h H) re (.bl _)⟩
theorem e_all (hc : X.calm = true) (hm : X.mg "all" = none) (ha : PA X [e] (gA X.K An gas)) (hg : Gl X "all" := by rfl) (he : starEach [e] X.env = [(false, eval e X.env)] := by rfl) : PE X (.Call (.Name "all" p) [e] [] pos) (gE X.K An (gCB (RAll false) gas)) :=
  e_cb (cr_all hc) lAll hm (by decide +kernel) ha hg (by decide) (by decide) he (by rfl)
theorem e_any (hc : X.calm = true) (hm : X.mg "any" = none) (ha : PA X [e] (gA X.K An gas)) (hg : Gl X "any" := by rfl) (he : starEach [e] X.env = [(false, eval e X.env)] := by rfl) : PE X (.Call (.Name "any" p) [e] [] pos) (gE X.K An (gCB (RAll true) gas)) :=
  e_cb (cr_any hc) lAny hm (by decide +kernel) ha hg (by decide) (by decide) he (by rfl)
/-! isinstance -/
def tyN : D → Option String
  | .non => some "NoneType"
  | .bl _ => some "bool"
  | .int _ => some "int"
  | .str _ => some "str"
  | .tup _ => some "tuple"
  | .lst _ => some "list"
  | _ => none
theorem vw_ty {K : Fg} {h : GH} {H : Hp} {v : V} {d : D} {n : String} (re : Rel K h H) (k : Dv K h H v d) (e : tyN (vw h d) = some n) : TyX K H v (.type n) := by
  cases z : vw h d with
  | non => rw [z] at e; cases e; rw [vw_non k z]; exact .base .non
  | bl b => rw [z] at e; cases e; rw [vw_bl k z]; exact .base (.bl _)
  | int b => rw [z] at e; cases e; rw [vw_int k z]; exact .base (.int _)
  | str b => rw [z] at e; cases e; rw [vw_str k z]; exact .base (.str _)
  | tup b =>
    rw [z] at e; cases e
    obtain ⟨q, ys, e1, h1, rs⟩ := vw_tup k z
    rw [e1]
    rcases h1 with ⟨_, h1 | ⟨o, h1⟩⟩ | ⟨o, _, _, h1, h2, _⟩
    · exact .base (.tup h1)
    · exact .fTuple h1
    · exact .kTuple h1 h2
  | lst b =>
    rw [z] at e; cases e
    obtain ⟨q, ys, e1, h1, rs⟩ := vw_lst re k z
    rw [e1]
    exact .base (.lst h1)
  | ref a => rw [z] at e; cases e
  | ty a => rw [z] at e; cases e
  | fro a => rw [z] at e; cases e
  | exc a b c => rw [z] at e; cases e
/-- isinstance(x, T), T a built-in class -/
def RIsi : RC2 := fun h ds c => ∃ d n t r, ds = [d, .ty n] ∧ tyN (vw h d) = some t ∧ kitB t n = some r ∧ c = .bl r
theorem lIsi {K : Fg} : CLL K (rIsi K) RIsi := by
  intro vs H h ds c Q re dvx hr k
  obtain ⟨d, n, t, r, rfl, et, ek, rfl⟩ := hr
  obtain ⟨v, v', rfl, dv, dw⟩ := dvs2 dvx
  cases dw
  exact ⟨v, _, _, _, r, rfl, .ty n, vw_ty re dv et, kit_ty ek, k _ H (Step.refl h H) re (.bl _)⟩
theorem e_isi (hm : X.mg "isinstance" = none) (ha : PA X [a, b] (gA X.K An gas)) (hg : Gl X "isinstance" := by rfl) (he : starEach [a, b] X.env = (false, eval a X.env) :: starEach [b] X.env := by rfl) (hpl : (backTo pos (starEach [b] X.env)).any (·.1) = false := by rfl) : PE X (.Call (.Name "isinstance" p) [a, b] [] pos) (gE X.K An (gCB RIsi gas)) :=
  e_cb call_isi lIsi hm (by decide +kernel) ha hg (by decide) (by decide) he hpl
theorem e_ty {x : Str} {n : String} (hm : X.mg x = none) (hv : bootBuiltins x = some (.type n)) (hg : Gl X x := by rfl) (hn : x ≠ "__name__" := by decide) (hd : (x == ("__debug__" : Str)) = false := by decide) : PE X (.Name x pos) (gE X.K An (gC (.ty n))) :=
  e_bltn hm hv (v := .ty n) rfl (fun _ _ => .ty n) hg hn hd
/-- isinstance(x, (T1, T2)) -/
def RIsi2 (n m : String) : GH → D → D → Prop := fun h d c => ∃ t r1 r2, tyN (vw h d) = some t ∧ kitB t n = some r1 ∧ kitB t m = some r2 ∧ c = .bl (r1 || r2)
theorem e_isi2 {x y : Str} {n m : String} {k : Nat} {p1 p2 p3 : Pos} (hm : X.mg "isinstance" = none) (hx : X.mg x = none) (hy : X.mg y = none) (vx : bootBuiltins x = some (.type n)) (vy : bootBuiltins y = some (.type m)) (ha : PE X a (gE X.K An ga)) (hg : Gl X "isinstance" := by rfl) (gx : Gl X x := by rfl) (gy : Gl X y := by rfl)
    (h1 : x ≠ "__name__" := by decide) (h2 : y ≠ "__name__" := by decide) (d1 : (x == ("__debug__" : Str)) = false := by decide) (d2 : (y == ("__debug__" : Str)) = false := by decide)
    (he : starEach [a, .Tuple [.Name x p1, .Name y p2] k p3] X.env = (false, eval a X.env) :: starEach [.Tuple [.Name x p1, .Name y p2] k p3] X.env := by rfl) (hpl : (backTo pos (starEach [.Tuple [.Name x p1, .Name y p2] k p3] X.env)).any (·.1) = false := by rfl) :
    PE X (.Call (.Name "isinstance" p) [a, .Tuple [.Name x p1, .Name y p2] k p3] [] pos) (gE X.K An (gUn (RIsi2 n m) ga)) :=
  (pe_callB call_isiT hg hm (by decide +kernel) (pa_cons ha (pa_cons (pe_tup (pa_cons (pe_bltn (v := .ty n) gx hx vx rfl h1 d1) (pa_cons (pe_bltn (v := .ty m) gy hy vy rfl h2 d2) pa_nil))) pa_nil) he) (by decide) (by decide) he hpl).imp fun σ H Q ⟨s, h, P, re, l, g, kk⟩ => by
    refine ⟨s, h, _, re, l, g, fun v H1 d h1 s1 re1 dv ⟨c, ⟨t, r1, r2, et, e1, e2, ec⟩, pp⟩ => ?_⟩
    subst ec
    refine ⟨by show 2 ≤ sizeLine; decide, fun tp n => ?_⟩
    refine ⟨v, tp, _, _, _, (r1 || r2), rfl, upd_same, .cons (.ty _) (.cons (.ty _) .nil), vw_ty (re1.new n) (dv.mono (Step.new n)) et, ?_, kk _ _ _ h1 (s1.trans (Step.new n)) (re1.new n) (.bl _) pp⟩
    refine kitAny_cons (kit_ty e1) (fun z => ?_) (fun z => by rw [z]; rfl)
    subst z
    refine kitAny_cons (kit_ty e2) (fun z => ?_) (fun z => by rw [z]; rfl)
    subst z
    exact kitAny_nil
end
end Gh

namespace Gh
open PySem L2
section
variable {X : Cx} {An : AN} {a b e : Expr} {es : List Expr} {ga gb : gTE} {gas : gTA} {gt : gTT} {pos p : Pos} {st : Stmt} {sts : List Stmt} {g g1 g2 : gTS}
/-! ### blocks, simple statements -/
def sNext : gTS := fun N s h => N.nx s h
def sSeq (g1 g2 : gTS) : gTS := fun N s h => g1 { N with nx := g2 N } s h
theorem b_nil : PSs X [] (gS X.K An sNext) := pss_nil.imp fun De σ H ⟨s, h, N, re, l, g, m⟩ => m.nx σ H s h (Step.refl h H) re l g
theorem b_cons (h1 : PS X st (gS X.K An g1)) (h2 : PSs X sts (gS X.K An g2)) : PSs X (st :: sts) (gS X.K An (sSeq g1 g2)) := (pss_cons h1 h2).imp fun De σ H ⟨s, h, N, re, l, g, m⟩ => by
  refine ⟨s, h, _, re, l, g, fun σ' H' s' h' a re' l' q => ?_, m.rt, m.bk, m.ct⟩
  exact ⟨s', h', N, re', l', q, m.after a⟩
theorem b_one (h1 : PS X st (gS X.K An g)) : PSs X [st] (gS X.K An g) := pss_one h1
def sSet (i : Nat) (ga : gTE) : gTS := fun N s h => ga s h fun d h1 => N.nx (s.set i (some d)) h1
theorem set_of {K : Fg} {An : AN} {i : Nat} (De : Ends) (σ : St) (H : Hp) (q : gS K An (sSet i ga) De σ H) : tAsg (gE K An ga) (gName i) De σ H := by
  obtain ⟨s, h, N, re, l, g, m⟩ := q
  refine ⟨s, h, _, re, l, g, fun v H1 d h1 s1 re1 dv p => ?_⟩
  exact m.nx _ H1 _ h1 s1 re1 ((l.mono s1).set dv) p
theorem s_set {i : Nat} {x : Str} {pos' : Pos} (hN : X.N.Nodup) (he : PE X e (gE X.K An ga)) (hi : X.N[i]? = some x := by rfl) (hx : Loc X.env.scope x := by first | exact Or.inl rfl | exact Or.inr rfl) (hs : swapsWith e (some (.Name x pos')) pos.line X.env = pure false := by rfl)
    (hf : X.fn x = true ∨ X.env.scope.names.lookup x = some .local := by first | exact .inl rfl | exact .inr rfl) : PS X (.Assign [.Name x pos'] e pos) (gS X.K An (sSet i ga)) := (ps_set hN hi hx he hs hf).imp set_of
/-- x = a new list, which x owns -/
def sOwn (i : Nat) (ga : gTA) : gTS := fun N s h => ga s h fun ds h1 => ∀ p, h1 p = none → N.nx (s.set i (some (.ref p))) (put h1 p (.lst ds))
theorem own_of {K : Fg} {An : AN} {i : Nat} (De : Ends) (σ : St) (H : Hp) (q : gS K An (sOwn i gas) De σ H) : tAsg (gF K An gas) (gName i) De σ H := by
  obtain ⟨s, h, N, re, l, g, m⟩ := q
  refine ⟨s, h, _, re, l, g, fun t ds H1 h1 n s1 re1 p => ?_⟩
  exact m.nx _ H1 _ _ s1 re1 ((l.mono s1).set (.ref t)) (p t n)
theorem s_own {i : Nat} {x : Str} {pos' : Pos} (hN : X.N.Nodup) (he : PE X e (gF X.K An gas)) (hi : X.N[i]? = some x := by rfl) (hx : Loc X.env.scope x := by first | exact Or.inl rfl | exact Or.inr rfl) (hs : swapsWith e (some (.Name x pos')) pos.line X.env = pure false := by rfl)
    (hf : X.fn x = true ∨ X.env.scope.names.lookup x = some .local := by first | exact .inl rfl | exact .inr rfl) : PS X (.Assign [.Name x pos'] e pos) (gS X.K An (sOwn i gas)) := (ps_set hN hi hx he hs hf).imp own_of
/-- return; an owned list may be let go -/
def sRet (ga : gTE) : gTS := fun N s h => ga s h fun d h1 => N.rt d h1 ∨ ∃ p ds, d = .ref p ∧ h1 p = some (.lst ds) ∧ N.rt (.lst ds) (del h1 p)
theorem s_ret (he : PE X e (gE X.K An ga)) : PS X (.Return (some e) pos) (gS X.K An (sRet ga)) := (ps_ret he).imp fun De σ H ⟨s, h, N, re, l, g, m⟩ => by
  refine ⟨s, h, _, re, l, g, fun v H1 d h1 s1 re1 dv pp => ?_⟩
  rcases pp with pp | ⟨q, ds, rfl, e, pp⟩
  · exact m.rt v H1 d h1 s1 re1 dv pp
  · cases dv
    exact m.rt _ H1 _ _ (s1.trans Step.del) re1.del (re1.letgo e) pp
def sIf (gt : gTT) (g1 g2 : gTS) : gTS := fun N s h => gt s h fun b h1 => if b = true then g1 N s h1 else g2 N s h1
theorem s_if {c : Expr} {as bs : List Stmt} (hc : PT X c (gT X.K An gt)) (ha : PSs X as (gS X.K An g1)) (hb : PSs X bs (gS X.K An g2)) : PS X (.If c as bs pos) (gS X.K An (sIf gt g1 g2)) := (ps_if hc ha hb).imp fun De σ H ⟨s, h, N, re, l, g, m⟩ => by
  refine ⟨s, h, _, re, l, g, fun b H1 h1 s1 re1 p => ?_⟩
  cases b with
  | true =>
    rw [if_pos rfl] at p
    rw [if_pos rfl]
    exact ⟨s, h1, N, re1, l.mono s1, p, m.after s1⟩
  | false =>
    rw [if_neg Bool.false_ne_true] at p
    rw [if_neg Bool.false_ne_true]
    exact ⟨s, h1, N, re1, l.mono s1, p, m.after s1⟩
def sDrop (ga : gTE) : gTS := fun N s h => ga s h fun _ h1 => N.nx s h1
theorem s_expr (he : PE X e (gE X.K An ga)) (hs : swapsWith e none pos.line X.env = pure false := by rfl) : PS X (.Expr e pos) (gS X.K An (sDrop ga)) := (ps_expr he hs).imp fun De σ H ⟨s, h, N, re, l, g, m⟩ =>
  ⟨s, h, _, re, l, g, fun v H1 d h1 s1 re1 dv p => m.nx _ H1 _ h1 s1 re1 (l.mono s1) p⟩
def sNever : gTS := fun _ _ _ => False
theorem s_never : PS X st (gS X.K An sNever) := ps_never.imp fun De σ H ⟨s, h, N, re, l, g, m⟩ => g
theorem b_never : PSs X sts (gS X.K An sNever) := pss_never.imp fun De σ H ⟨s, h, N, re, l, g, m⟩ => g
theorem s_pass : PS X (.Pass pos) (gS X.K An sNext) := ps_pass.imp fun De σ H ⟨s, h, N, re, l, g, m⟩ => m.nx σ H s h (Step.refl h H) re l g
def sCont : gTS := fun N s h => N.ct s h
theorem s_cont : PS X (.Continue pos) (gS X.K An sCont) := ps_continue.imp fun De σ H ⟨s, h, N, re, l, g, m⟩ => m.ct σ H s h (Step.refl h H) re l g
/-- a, b = x, y -/
def sPar (i j : Nat) (ga : gTA) : gTS := fun N s h => ga s h fun ds h1 => ∃ d e, ds = [d, e] ∧ N.nx ((s.set i (some d)).set j (some e)) h1
theorem s_par {i j : Nat} {x y : Str} {px py pt : Pos} {kt k2 pt2} (hc : X.calm = true) (hN : X.N.Nodup) (hi : X.N[i]? = some x) (hj : X.N[j]? = some y) (hij : i ≠ j)
    (hx : X.env.scope.names.lookup x = some .local) (hy : X.env.scope.names.lookup y = some .local) (ha : PA X [a, b] (gA X.K An gas))
    (hw : swappedStores [.Tuple [.Name x px, .Name y py] kt pt] (.Tuple [a, b] k2 pt2) X.env = pure (some [x, y]))
    (hs : swapsWithSole [.Tuple [.Name x px, .Name y py] kt pt] (.Tuple [a, b] k2 pt2) pos.line X.env = pure false := by rfl) :
    PS X (.Assign [.Tuple [.Name x px, .Name y py] kt pt] (.Tuple [a, b] k2 pt2) pos) (gS X.K An (sPar i j gas)) := (ps_par hc hN hi hj hij hx hy ha hw hs).imp fun De σ H ⟨s, h, N, re, l, g, m⟩ => by
  refine ⟨s, h, _, re, l, g, fun vs H1 ds h1 s1 re1 dv ⟨d, e, ed, p⟩ => ?_⟩
  subst ed
  obtain ⟨v, v', rfl, d1, d2⟩ := dvs2 dv
  exact ⟨v, v', rfl, m.nx _ H1 _ h1 s1 re1 (((l.mono s1).set d1).set d2) p⟩
/-! ### targets -/
abbrev gTG := D → GS → GH → (GS → GH → Prop) → Prop
def gG (K : Fg) (An : AN) (g : gTG) : TG := fun v σ H Q => ∃ d s h P, Rel K h H ∧ Sl K An h H σ s ∧ Dv K h H v d ∧ g d s h P ∧ ∀ σ' H' s' h', Step h H h' H' → Rel K h' H' → Sl K An h' H' σ' s' → P s' h' → Q σ' H'
theorem _root_.L2.PG.imp {t t' : TG} (h : PG X e t) (k : ∀ v σ H Q, t' v σ H Q → t v σ H Q) : PG X e t' := ⟨fun pins s σ H v u Q I r q => h.run pins s σ H v u Q I r (k v σ H Q q)⟩
def tgName (i : Nat) : gTG := fun d s h P => P (s.set i (some d)) h
theorem g_name (i : Nat) {x : Str} (hN : X.N.Nodup) (hi : X.N[i]? = some x := by rfl) (hx : Loc X.env.scope x := by first | exact Or.inl rfl | exact Or.inr rfl) (hf : X.fn x = true ∨ X.env.scope.names.lookup x = some .local := by first | exact .inl rfl | exact .inr rfl) : PG X (.Name x pos) (gG X.K An (tgName i)) :=
  (pg_name (i := i) hN hi hx hf).imp fun v σ H Q ⟨d, s, h, P, re, l, dv, g, k⟩ => k _ H _ h (Step.refl h H) re (l.set dv) g
abbrev gTGs := List D → GS → GH → (GS → GH → Prop) → Prop
def gGs (K : Fg) (An : AN) (g : gTGs) : TGs := fun vs σ H Q => ∃ ds s h P, Rel K h H ∧ Sl K An h H σ s ∧ Dvs K h H vs ds ∧ g ds s h P ∧ ∀ σ' H' s' h', Step h H h' H' → Rel K h' H' → Sl K An h' H' σ' s' → P s' h' → Q σ' H'
def tgNil : gTGs := fun ds s h P => ds = [] ∧ P s h
def tgCons (t : gTG) (u : gTGs) : gTGs := fun ds s h P => ∃ d r, ds = d :: r ∧ t d s h fun s' h' => u r s' h' P
theorem _root_.L2.PGs.imp {t t' : TGs} (h : PGs X es t) (k : ∀ v σ H Q, t' v σ H Q → t v σ H Q) : PGs X es t' := ⟨fun pins s σ H v u Q I r q => h.run pins s σ H v u Q I r (k v σ H Q q)⟩
theorem gs_nil : PGs X [] (gGs X.K An tgNil) := pgs_nil.imp fun v σ H Q ⟨d, s, h, P, re, l, dv, ⟨e, g⟩, k⟩ => by
  subst e
  cases dv
  exact ⟨rfl, k _ H _ h (Step.refl h H) re l g⟩
theorem gs_cons {t : gTG} {u : gTGs} (h1 : PG X e (gG X.K An t)) (h2 : PGs X es (gGs X.K An u)) (hs : (assignEach (e :: es) X.env).map (·.2) = assign e X.env :: (assignEach es X.env).map (·.2) := by rfl) : PGs X (e :: es) (gGs X.K An (tgCons t u)) := (pgs_cons h1 h2 hs).imp fun v σ H Q ⟨d, s, h, P, re, l, dv, ⟨d0, r0, e, g⟩, k⟩ => by
  subst e
  cases dv with
  | cons a r =>
    refine ⟨_, _, rfl, d0, s, h, _, re, l, a, g, fun σ' H' s' h' st re' l' q => ?_⟩
    exact ⟨r0, s', h', P, re', l', r.mono st, q, fun σ2 H2 s2 h2 st2 re2 l2 p => k σ2 H2 s2 h2 (st.trans st2) re2 l2 p⟩
def tgTup (n : Nat) (t : gTGs) : gTG := fun d s h P => ∃ ds, d = .tup ds ∧ ds.length = n ∧ t ds s h P
theorem g_tup {t : gTGs} {k n : Nat} (hc : X.calm = true) (h : PGs X es (gGs X.K An t)) (hn : (assignEach es X.env).length = n := by rfl) (hst : (assignEach es X.env).findIdx? (·.1) = none := by rfl) : PG X (.Tuple es k pos) (gG X.K An (tgTup n t)) := (pg_tup hc h hn hst).imp fun v σ H Q ⟨d, s, h, P, re, l, dv, ⟨ds, e, hl, g⟩, k⟩ => by
  subst e
  cases dv with
  | tup t rs => exact ⟨_, _, rfl, t.sq, by rw [rs.length]; exact hl, ds, s, h, P, re, l, rs, g, k⟩
/-- target = value -/
def sAsg (ga : gTE) (t : gTG) : gTS := fun N s h => ga s h fun d h1 => t d s h1 N.nx
theorem s_asg {tg : Expr} {t : gTG} (he : PE X e (gE X.K An ga)) (hg : PG X tg (gG X.K An t)) (hs : swapsWithSole [tg] e pos.line X.env = pure false := by rfl) (hw : swappedStores [tg] e X.env = pure none := by rfl)
    (h1 : (assignEach [tg] X.env).map (·.2) = [assign tg X.env] := by rfl) : PS X (.Assign [tg] e pos) (gS X.K An (sAsg ga t)) := (ps_asg he hg hs hw h1).imp fun De σ H ⟨s, h, N, re, l, g, m⟩ => by
  refine ⟨s, h, _, re, l, g, fun v H1 d h1 s1 re1 dv p => ?_⟩
  exact ⟨d, s, h1, N.nx, re1, l.mono s1, dv, p, fun σ' H' s' h' st => m.nx σ' H' s' h' (s1.trans st)⟩
/-! ### while -/
def sWhile (gt : gTT) (gb : gTS) : gTS := fun N s h => ∃ W : Nat → GS → GH → Prop, (∃ m, W m s h) ∧ ∀ m s h, W m s h →
  gt s h fun b h1 => if b = true then gb { nx := fun s' h' => ∃ m', m' < m ∧ W m' s' h', ct := fun s' h' => ∃ m', m' < m ∧ W m' s' h', bk := N.nx, rt := N.rt } s h1 else N.nx s h1
theorem s_while {c : Expr} {body : List Stmt} {gb : gTS} (hp : PassesOwn (model X.prog X.w) X.A X.env X.xe) (hc : PT X c (gT X.K An gt)) (hb : PSs X body (gS X.K An gb)) : PS X (.While c body [] pos) (gS X.K An (sWhile gt gb)) := (ps_while hp hc hb).imp fun De σ H ⟨s, h, N, re, l, g, m⟩ => by
  obtain ⟨W, ⟨m0, w0⟩, turn⟩ := g
  refine ⟨fun n σ1 H1 => ∃ s1 h1, Step h H h1 H1 ∧ Rel X.K h1 H1 ∧ Sl X.K An h1 H1 σ1 s1 ∧ W n s1 h1, ⟨m0, s, h, Step.refl h H, re, l, w0⟩, fun n σ1 H1 ⟨s1, h1, st1, re1, l1, w1⟩ => ?_⟩
  refine ⟨s1, h1, _, re1, l1, turn n s1 h1 w1, fun b H2 h2 st2 re2 p => ?_⟩
  cases b with
  | true =>
    rw [if_pos rfl] at p
    rw [if_pos rfl]
    refine ⟨fun σ' H' => ∃ m', m' < n ∧ ∃ s1 h1, Step h H h1 H' ∧ Rel X.K h1 H' ∧ Sl X.K An h1 H' σ' s1 ∧ W m' s1 h1, fun _ _ q => q, ?_⟩
    refine ⟨s1, h2, _, re2, l1.mono st2, p, fun σ3 H3 s3 h3 st3 re3 l3 ⟨m', hm, w3⟩ => ?_, fun v H3 d h3 st3 => m.rt v H3 d h3 ((st1.trans st2).trans st3), fun σ3 H3 s3 h3 st3 => m.nx σ3 H3 s3 h3 ((st1.trans st2).trans st3), fun σ3 H3 s3 h3 st3 re3 l3 ⟨m', hm, w3⟩ => ?_⟩
    · exact ⟨m', hm, s3, h3, (st1.trans st2).trans st3, re3, l3, w3⟩
    · exact ⟨m', hm, s3, h3, (st1.trans st2).trans st3, re3, l3, w3⟩
  | false =>
    rw [if_neg Bool.false_ne_true] at p
    rw [if_neg Bool.false_ne_true]
    exact m.nx σ1 H2 s1 h2 (st1.trans st2) re2 (l1.mono st2) p
end
end Gh

namespace Gh
open PySem L2
/-! ### what is walked -/
def Walk (K : Fg) (J : It) (h0 : GH) (H0 : Hp) (ds : List D) : Prop := ∀ h H, Step h0 H0 h H → Rel K h H →
  (∀ (i : Nat) (d : D), ds[i]? = some d → J.go i H ∧ ∀ x H', J.yld i H x H' → Step h H h H' ∧ Rel K h H' ∧ Dv K h H' x d) ∧ (∀ i : Nat, ds.length ≤ i → J.stop i H)
def gI (K : Fg) (An : AN) (g : gTA) : TI := fun σ H R => ∃ s h P, Rel K h H ∧ Sl K An h H σ s ∧ g s h P ∧ ∀ J ds H' h', Step h H h' H' → Rel K h' H' → Walk K J h' H' ds → P ds h' → R J H'
section
variable {X : Cx} {An : AN} {a b e tg iter : Expr} {es : List Expr} {ga gb : gTE} {gas : gTA} {gt : gTT} {pos p : Pos} {st : Stmt} {sts : List Stmt} {g g1 g2 : gTS}
theorem _root_.L2.PI.imp {t t' : TI} (h : PI X tg e t) (k : ∀ σ H R, t' σ H R → t σ H R) : PI X tg e t' := ⟨fun pins s σ H R I q => h.run pins s σ H R I (k σ H R q)⟩
theorem walk_list {K : Fg} {h : GH} {H : Hp} {q : Addr} {xs : List V} {ds : List D} (n : h q = none) (e : H q = some (.lst xs)) (rs : Dvs K h H xs ds) : Walk K (Itl K q) h H ds := by
  intro h1 H1 st re
  have e1 := st.kp n e
  have rs1 := rs.mono st
  refine ⟨fun i d hd => ?_, fun i hi => ⟨xs, .inl (.inl e1), by rw [rs.length]; exact hi⟩⟩
  obtain ⟨v, hv, dv⟩ := rs1.get hd
  refine ⟨⟨xs, v, .inl (.inl e1), hv⟩, fun x H' ⟨eH, hx⟩ => ?_⟩
  subst eH
  have := hx xs (.inl (.inl e1))
  rw [hv] at this
  cases this
  exact ⟨Step.refl _ _, re, dv⟩
theorem walk_tup {K : Fg} {h : GH} {H : Hp} {q : Addr} {xs : List V} {ds : List D} (t : TpF K h H q xs) (rs : Dvs K h H xs ds) : Walk K (Itt K q) h H ds := by
  intro h1 H1 st re
  have e1 := (t.mono st).sq
  have rs1 := rs.mono st
  refine ⟨fun i d hd => ?_, fun i hi => ⟨xs, e1, by rw [rs.length]; exact hi⟩⟩
  obtain ⟨v, hv, dv⟩ := rs1.get hd
  refine ⟨⟨xs, v, e1, hv⟩, fun x H' ⟨eH, hx⟩ => ?_⟩
  subst eH
  have := hx xs e1
  rw [hv] at this
  cases this
  exact ⟨Step.refl _ _, re, dv⟩
def rangeD (lo : Int) (n : Nat) : List D := (List.range n).map fun i => .int (lo + (i : Nat))
theorem rangeD_length (lo : Int) (n : Nat) : (rangeD lo n).length = n := by unfold rangeD; simp
theorem rangeD_get {lo : Int} {n i : Nat} {d : D} (e : (rangeD lo n)[i]? = some d) : i < n ∧ d = .int (lo + i) := by
  have hl : i < n := by
    have := (List.getElem?_eq_some_iff.mp e).1
    rwa [rangeD_length] at this
  refine ⟨hl, ?_⟩
  unfold rangeD at e
  rw [List.getElem?_map, List.getElem?_range hl] at e
  exact (Option.some.inj e).symm
theorem walk_range {K : Fg} {h : GH} {H : Hp} {lo : Int} {n : Nat} : Walk K (Itr lo n) h H (rangeD lo n) := by
  intro h1 H1 st re
  refine ⟨fun i d hd => ?_, fun i hi => by rw [rangeD_length] at hi; exact hi⟩
  obtain ⟨hi, rfl⟩ := rangeD_get hd
  refine ⟨hi, fun x H' ⟨eH, hx⟩ => ?_⟩
  subst eH hx
  exact ⟨Step.refl _ _, re, .int _⟩
def strD (x : Str) : List D := x.cps.toList.map fun c => .str ⟨#[c]⟩
theorem walk_str {K : Fg} {h : GH} {H : Hp} {x : Str} : Walk K (Its x) h H (strD x) := by
  intro h1 H1 st re
  have hl : (strD x).length = x.cps.size := by unfold strD; simp
  refine ⟨fun i d hd => ?_, fun i hi => by rw [hl] at hi; exact hi⟩
  unfold strD at hd
  rw [List.getElem?_map] at hd
  cases q : x.cps.toList[i]? with
  | none => rw [q] at hd; cases hd
  | some c =>
    rw [q] at hd
    cases hd
    have hi : i < x.cps.size := by
      have := (List.getElem?_eq_some_iff.mp q).1
      simpa using this
    refine ⟨hi, fun y H' ⟨eH, c', hc, hy⟩ => ?_⟩
    subst eH hy
    rw [← Array.getElem?_toList, q] at hc
    cases hc
    exact ⟨Step.refl _ _, re, .str _⟩
/-- for .. in e: a list, a tuple or a text -/
def iSeq (ga : gTE) : gTA := fun s h P => ga s h fun d h1 => match d with
  | .lst ds => P ds h1
  | .tup ds => P ds h1
  | .str x => P (strD x) h1
  | _ => False
def iAll (K : Fg) (tl : TE) : TI := fun σ H R => tl σ H fun x H1 => (∃ a, x = .ref a ∧ (∃ xs, SqL K H1 a xs) ∧ R (Itl K a) H1) ∨ (∃ a, x = .ref a ∧ (∃ xs, SqT K H1 a xs) ∧ R (Itt K a) H1) ∨ ∃ y, x = .str y ∧ R (Its y) H1
theorem pi_all {l : Expr} {tl : TE} (hl : PE X l tl) : PI X tg l (iAll X.K tl) := by
  refine ⟨fun pins s σ H R I h => ?_⟩
  refine thn (hl.run pins s σ H _ I h) fun v s1 ⟨x, H1, I1, r1, q1⟩ => ?_
  rcases q1 with ⟨q, e, ⟨xs, hq⟩, q1⟩ | ⟨q, e, ⟨xs, hq⟩, q1⟩ | ⟨y, e, q1⟩
  · subst e
    cases r1
    obtain ⟨its, rv, p, hz⟩ := I1.list hq
    refine wpAny_pyIter_list p.isList ?_
    refine ⟨s1.heap.objs.size, [s1.heap.objs.size], _, _, H1, rfl, I1.kept (t' := s1.toks) fun b o e => Heap.get?_push_of_some _ e, turn_list q _, ⟨_, Heap.get?_push_size _ rfl, rfl, rfl⟩, fun b hb => ?_, q1⟩
    have e : b = s1.heap.objs.size := by simpa using hb
    subst e
    exact I1.fpOk (Nat.le_refl _) (I1.hok.fresh (Nat.le_refl _))
  · subst e
    cases r1
    obtain ⟨its, rv, p, hz⟩ := I1.tuple hq
    refine wpAny_pyIter_tuple (show s1.heap.IsTuple q its.toArray from p) ?_
    refine ⟨s1.heap.objs.size, [s1.heap.objs.size], _, _, H1, rfl, I1.kept (t' := s1.toks) fun b o e => Heap.get?_push_of_some _ e, turn_tuple q _, ⟨_, Heap.get?_push_size _ rfl, rfl, rfl⟩, fun b hb => ?_, q1⟩
    have e : b = s1.heap.objs.size := by simpa using hb
    subst e
    exact I1.fpOk (Nat.le_refl _) (I1.hok.fresh (Nat.le_refl _))
  · subst e
    obtain ⟨t, rfl⟩ := r1
    cases ha : y.cps.all (· < 128)
    · exact wpAny_pyIter_wide ha (pi_one (tk := s1.toks) I1 _ (turn_str _ y t "str_iterator" (.inr rfl)) ⟨_, Heap.get?_push_size _ rfl, rfl, rfl⟩ q1)
    · exact wpAny_pyIter_ascii ha (pi_one (tk := s1.toks) I1 _ (turn_str _ y t "str_ascii_iterator" (.inl rfl)) ⟨_, Heap.get?_push_size _ rfl, rfl, rfl⟩ q1)
theorem i_seq (ha : PE X e (gE X.K An ga)) : PI X tg e (gI X.K An (iSeq ga)) := (pi_all ha).imp fun σ H R ⟨s, h, P, re, l, g, k⟩ => by
  refine ⟨s, h, _, re, l, g, fun v H1 d h1 s1 re1 dv p => ?_⟩
  cases dv with
  | lst n q rs => exact .inl ⟨_, rfl, ⟨_, .inl (.inl q)⟩, k _ _ H1 h1 s1 re1 (walk_list n q rs) p⟩
  | tup t rs => exact .inr (.inl ⟨_, rfl, ⟨_, t.sq⟩, k _ _ H1 h1 s1 re1 (walk_tup t rs) p⟩)
  | str x => exact .inr (.inr ⟨x, rfl, k _ _ H1 h1 s1 re1 walk_str p⟩)
  | _ => exact p.elim
def iRg1 (gas : gTA) : gTA := fun s h P => gas s h fun ds h1 => ∃ j : Int, ds = [.int j] ∧ (-(2 ^ 62) ≤ j ∧ j < 2 ^ 62) ∧ P (rangeD 0 j.toNat) h1
def iRg2 (gas : gTA) : gTA := fun s h P => gas s h fun ds h1 => ∃ i j : Int, ds = [.int i, .int j] ∧ (-(2 ^ 62) ≤ i ∧ i < 2 ^ 62 ∧ -(2 ^ 62) ≤ j ∧ j < 2 ^ 62) ∧ P (rangeD i (j - i).toNat) h1
theorem i_range1 (hm : X.mg "range" = none) (ha : PA X [a] (gA X.K An gas)) (hg : Gl X "range" := by rfl) (hs : starEach [a] X.env = [(false, eval a X.env)] := by rfl) : PI X tg (.Call (.Name "range" p) [a] [] pos) (gI X.K An (iRg1 gas)) := (pi_range1 hg hm ha hs).imp fun σ H R ⟨s, h, P, re, l, g, k⟩ => by
  refine ⟨s, h, _, re, l, g, fun vs H1 ds h1 s1 re1 dvx ⟨j, e, ⟨b1, b2⟩, p⟩ => ?_⟩
  subst e
  obtain ⟨v, rfl, dv⟩ := dvs1 dvx
  cases dv
  exact ⟨j, rfl, b1, b2, k _ _ H1 h1 s1 re1 walk_range p⟩
theorem i_range2 (hm : X.mg "range" = none) (ha : PA X [a, b] (gA X.K An gas)) (hg : Gl X "range" := by rfl) (hs : starEach [a, b] X.env = [(false, eval a X.env), (false, eval b X.env)] := by rfl) (hs2 : starEach [b] X.env = [(false, eval b X.env)] := by rfl) : PI X tg (.Call (.Name "range" p) [a, b] [] pos) (gI X.K An (iRg2 gas)) := (pi_range2 hg hm ha hs hs2).imp fun σ H R ⟨s, h, P, re, l, g, k⟩ => by
  refine ⟨s, h, _, re, l, g, fun vs H1 ds h1 s1 re1 dvx ⟨i, j, e, bb, p⟩ => ?_⟩
  subst e
  obtain ⟨v, v', rfl, dv, dw⟩ := dvs2 dvx
  cases dv
  cases dw
  exact ⟨i, j, rfl, bb, k _ _ H1 h1 s1 re1 walk_range p⟩
/-! ### for -/
def gLoop (gt : gTG) (gb : gTS) (N : GEnds) : List D → GS → GH → Prop
  | [], s, h => N.nx s h
  | d :: r, s, h => gt d s h fun s1 h1 => gb { nx := gLoop gt gb N r, ct := gLoop gt gb N r, bk := N.nx, rt := N.rt } s1 h1
def sFor (gi : gTA) (gt : gTG) (gb : gTS) : gTS := fun N s h => gi s h fun ds h1 => gLoop gt gb N ds s h1
theorem s_for {gi : gTA} {gtg : gTG} {gb : gTS} {body : List Stmt} (hp : PassesOwn (model X.prog X.w) X.A X.env X.xe) (hc : X.calm = true) (hi : PI X tg iter (gI X.K An gi)) (hg : PG X tg (gG X.K An gtg)) (hb : PSs X body (gS X.K An gb))
    (hs : ∀ x, foldedSetIterable iter X.env x = pure x := by intro _; rfl) : PS X (.For tg iter body [] pos) (gS X.K An (sFor gi gtg gb)) := (ps_for hp hc hi hg hb hs).imp fun De σ H ⟨s, h, N, re, l, g, m⟩ => by
  refine ⟨s, h, _, re, l, g, fun J ds H1 h1 s1 re1 wk p => ?_⟩
  refine ⟨fun i n σ2 H2 => n = ds.length - i ∧ ∃ s2 h2, Step h1 H1 h2 H2 ∧ Rel X.K h2 H2 ∧ Sl X.K An h2 H2 σ2 s2 ∧ gLoop gtg gb N (ds.drop i) s2 h2, ⟨ds.length, by simp, s, h1, Step.refl _ _, re1, l.mono s1, by rw [List.drop_zero]; exact p⟩, fun i n σ2 H2 ⟨en, s2, h2, st2, re2, l2, w2⟩ => ?_⟩
  obtain ⟨w_go, w_stop⟩ := wk h2 H2 st2 re2
  by_cases hi : i < ds.length
  · refine .inr ?_
    have hd : ds[i]? = some ds[i] := List.getElem?_eq_getElem hi
    rw [List.drop_eq_getElem_cons hi] at w2
    obtain ⟨go, yl⟩ := w_go i _ hd
    refine ⟨go, fun σ' H' => ds.length - (i + 1) < n ∧ ∃ s2 h2, Step h1 H1 h2 H' ∧ Rel X.K h2 H' ∧ Sl X.K An h2 H' σ' s2 ∧ gLoop gtg gb N (ds.drop (i + 1)) s2 h2, fun σ' H' ⟨q1, q2⟩ => ⟨_, q1, rfl, q2⟩, fun x H3 hy => ?_⟩
    obtain ⟨st3, re3, dx⟩ := yl x H3 hy
    refine ⟨ds[i], s2, h2, _, re3, l2.mono st3, dx, w2, fun σ4 H4 s4 h4 st4 re4 l4 q4 => ?_⟩
    have st14 := (st2.trans st3).trans st4
    have st04 := s1.trans st14
    refine ⟨s4, h4, _, re4, l4, q4, fun σ5 H5 s5 h5 st5 re5 l5 q5 => ?_, fun v H5 d h5 st5 => m.rt v H5 d h5 (st04.trans st5), fun σ5 H5 s5 h5 st5 => m.nx σ5 H5 s5 h5 (st04.trans st5), fun σ5 H5 s5 h5 st5 re5 l5 q5 => ?_⟩
    · exact ⟨by omega, s5, h5, st14.trans st5, re5, l5, q5⟩
    · exact ⟨by omega, s5, h5, st14.trans st5, re5, l5, q5⟩
  · refine .inl ⟨w_stop i (by omega), ?_⟩
    rw [List.drop_eq_nil_of_le (by omega)] at w2
    exact m.nx σ2 H2 s2 h2 (s1.trans st2) re2 l2 w2
/-! ### list comprehensions with one name -/
def wipeG (s : GS) : List Nat → GS
  | [] => s
  | v :: vs => (wipeG s vs).set v none
theorem Sl.wipe {K : Fg} {An : AN} {h : GH} {H : Hp} {σ : St} {s : GS} (l : Sl K An h H σ s) : ∀ vs : List Nat, Sl K An h H (L2.wipe σ vs) (wipeG s vs)
  | [] => l
  | v :: vs => by
    unfold L2.wipe wipeG
    exact (Sl.wipe l vs).unset
def gYes : gTT := fun _ h P => P true h
def gComp (gt : gTG) (gc : gTT) (ge : gTE) (s : GS) (p : Addr) (P : List D → GH → Prop) : List D → List D → GH → Prop
  | [], acc, h => P acc (del h p)
  | d :: r, acc, h => gt d s h fun s2 h2 => gc s2 h2 fun b h3 => if b = true then ge s2 h3 fun y h4 => acc.length < sizeLine ∧ h4 p = some (.lst acc) ∧ gComp gt gc ge s p P r (acc ++ [y]) (put h4 p (.lst (acc ++ [y]))) else h3 p = some (.lst acc) ∧ gComp gt gc ge s p P r acc h3
def fLc (gi : gTA) (gt : gTG) (gc : gTT) (ge : gTE) (vs : List Nat) : gTA := fun s h P => gi s h fun ds h1 => ∀ p, h1 p = none → gComp gt gc ge (wipeG s vs) p P ds [] (put h1 p (.lst []))
theorem put_get {h : GH} {p : Addr} {g : GO} (e : h p = some g) : put (del h p) p g = h := by
  funext b
  by_cases z : b = p
  · subst z; rw [put_same, e]
  · rw [put_ne z, del_ne z]
/-- the targets of a comprehension: g sets slots of vs alone -/
def TgOk (K : Fg) (An : AN) (vs : List Nat) (g : TG) (gt : gTG) : Prop := ∀ v σ H d s h (P : GS → GH → Prop) (Q : St → Hp → Prop), Rel K h H → Sl K An h H (L2.wipe σ vs) (wipeG s vs) → Dv K h H v d → gt d (wipeG s vs) h P →
  (∀ σ' H' s' h', L2.wipe σ' vs = L2.wipe σ vs → Step h H h' H' → Rel K h' H' → Sl K An h' H' σ' s' → P s' h' → Q σ' H') → g v (L2.wipe σ vs) H Q
theorem lc_of {K : Fg} {An : AN} {gi : gTA} {tr : TG} {gtg : gTG} {tt : TT} {gc : gTT} {ge : gTE} {vs : List Nat} (hg : TgOk K An vs tr gtg) (hc : ∀ σ H Q, gT K An gc σ H Q → tt σ H Q) (σ : St) (H : Hp) (Q : VK) (q : gF K An (fLc gi gtg gc ge vs) σ H Q) : tLc (gI K An gi) tr tt (gE K An ge) vs σ H Q := by
  obtain ⟨s, h, P, re, l, g, k⟩ := q
  refine ⟨s, h, _, re, l, g, fun J ds H1 h1 s1 re1 wk p t n => ?_⟩
  have n1 := re1.free n
  have s2 : Step h1 H1 (put h1 t (.lst [])) (upd H1 t (.lst [])) := Step.newO n
  have re2 : Rel K (put h1 t (.lst [])) (upd H1 t (.lst [])) := re1.newO n .nil
  have l2 : Sl K An (put h1 t (.lst [])) (upd H1 t (.lst [])) (L2.wipe σ vs) (wipeG s vs) := ((l.mono s1).mono s2).wipe vs
  refine ⟨fun i m H3 => m = ds.length - i ∧ ∃ acc h3, Step (put h1 t (.lst [])) (upd H1 t (.lst [])) h3 H3 ∧ Rel K h3 H3 ∧ h3 t = some (.lst acc) ∧ gComp gtg gc ge (wipeG s vs) t P (ds.drop i) acc h3,
    ⟨ds.length, by simp, [], _, Step.refl _ _, re2, put_same, by rw [List.drop_zero]; exact p t n1⟩, fun i m H3 ⟨em, acc, h3, st3, re3, ho, w3⟩ => ?_⟩
  obtain ⟨w_go, w_stop⟩ := wk h3 H3 (s2.trans st3) re3
  by_cases hi : i < ds.length
  · refine .inr ?_
    have hd : ds[i]? = some ds[i] := List.getElem?_eq_getElem hi
    rw [List.drop_eq_getElem_cons hi] at w3
    obtain ⟨go, yl⟩ := w_go i _ hd
    refine ⟨go, fun H' => ds.length - (i + 1) < m ∧ ∃ acc h3, Step (put h1 t (.lst [])) (upd H1 t (.lst [])) h3 H' ∧ Rel K h3 H' ∧ h3 t = some (.lst acc) ∧ gComp gtg gc ge (wipeG s vs) t P (ds.drop (i + 1)) acc h3, fun H' ⟨q1, q2⟩ => ⟨_, q1, rfl, q2⟩, fun x H4 hy => ?_⟩
    obtain ⟨st4, re4, dx⟩ := yl x H4 hy
    have l4 := l2.mono (st3.trans st4)
    refine hg x σ H4 _ s h3 _ _ re4 l4 dx w3 fun σ5 H5 s5 h5 ew st5 re5 l5 q5 => ⟨ew, ?_⟩
    refine hc σ5 H5 _ ⟨s5, h5, _, re5, l5, q5, fun b H6 h6 st6 re6 q6 => ?_⟩
    have st16 := ((st3.trans st4).trans st5).trans st6
    cases b with
    | true =>
      rw [if_pos rfl] at q6
      refine iteT ?_
      refine ⟨s5, h6, _, re6, l5.mono st6, q6, fun y H7 d h7 st7 re7 dy ⟨hz, ho7, q7⟩ => ?_⟩
      obtain ⟨xs, hx, rs⟩ := re7 t _ ho7
      refine ⟨xs, hx, by rw [rs.length]; exact hz, by omega, acc ++ [d], _, (st16.trans st7).trans (Step.set (g := GO.lst (acc ++ [d])) (by rw [ho7]; simp)), ?_, put_same, q7⟩
      have st8 : Step h7 H7 (put h7 t (GO.lst (acc ++ [d]))) (upd H7 t (.lst (xs ++ [y]))) := Step.set (by rw [ho7]; simp)
      exact re7.put st8 ⟨_, upd_same, (rs.mono st8).append (.cons (dy.mono st8) .nil)⟩
    | false =>
      rw [if_neg Bool.false_ne_true] at q6
      refine iteF ?_
      exact ⟨by omega, acc, h6, st16, re6, q6.1, q6.2⟩
  · refine .inl ⟨w_stop i (by omega), ?_⟩
    rw [List.drop_eq_nil_of_le (by omega)] at w3
    have st := (s1.trans s2).trans st3
    have e := put_get ho
    refine k t acc H3 (del h3 t) del_same ?_ ?_ w3
    · rw [e]; exact st
    · rw [e]; exact re3
theorem wipe_set {σ : St} {i : Nat} {v : Option V} : ∀ {vs : List Nat}, i ∈ vs → L2.wipe ((L2.wipe σ vs).set i v) vs = L2.wipe σ vs := by
  intro vs hi
  have len : ∀ us : List Nat, (L2.wipe σ us).length = σ.length := wipe_length σ
  have get : ∀ (us : List Nat) (τ : St) (j : Nat), (L2.wipe τ us)[j]? = if j < τ.length then (if j ∈ us then some none else τ[j]?) else none := by
    intro us τ j
    induction us with
    | nil =>
      unfold L2.wipe
      by_cases hj : j < τ.length
      · rw [if_pos hj]; simp
      · rw [if_neg hj]; exact List.getElem?_eq_none (by omega)
    | cons u us ih =>
      unfold L2.wipe
      by_cases hj : j < τ.length
      · rw [if_pos hj]
        by_cases hu : u = j
        · subst hu
          rw [List.getElem?_set_self (by rw [wipe_length]; exact hj), if_pos List.mem_cons_self]
        · rw [List.getElem?_set_ne hu, ih, if_pos hj]
          by_cases hm : j ∈ us
          · rw [if_pos hm, if_pos (List.mem_cons_of_mem _ hm)]
          · rw [if_neg hm, if_neg (by simp; exact ⟨fun z => hu z.symm, hm⟩)]
      · rw [if_neg hj]
        exact List.getElem?_eq_none (by rw [List.length_set, wipe_length]; omega)
  apply List.ext_getElem?
  intro j
  rw [get, get, List.length_set, len]
  by_cases hj : j < σ.length
  · rw [if_pos hj, if_pos hj]
    by_cases hm : j ∈ vs
    · rw [if_pos hm, if_pos hm]
    · rw [if_neg hm, if_neg hm, List.getElem?_set_ne (fun z => hm (by rw [← z]; exact hi)), get, if_pos hj, if_neg hm]
  · rw [if_neg hj, if_neg hj]
theorem tgOk_name {K : Fg} {An : AN} {i : Nat} {vs : List Nat} (hi : i ∈ vs) : TgOk K An vs (gName i) (tgName i) := fun v σ H d s h P Q re l dv g k => k _ H _ h (wipe_set hi) (Step.refl h H) re (l.set dv) g
/-- [elt for x in iter] -/
theorem f_lc {elt : Expr} {scope : Scope} {x : Str} {i : Nat} {px : Pos} {gi : gTA} {ge : gTE} (hc : X.calm = true) (hN : X.N.Nodup) (hi : PI X (.Name x px) iter (gI X.K An gi)) (ok : BlkOk X.N X.env.scope scope [(x, i)])
    (hg : ∀ (s : Shared) (H : Hp) (C : Addr) (cl : List (Str × Addr)) (fp : List Addr), PG (X.blk s H scope (compEnvC scope cl C X.env) fp) (.Name x px) (gName i))
    (he : ∀ (s : Shared) (H : Hp) (C : Addr) (cl : List (Str × Addr)) (fp : List Addr), PE (X.blk s H scope (compEnvC scope cl C X.env) fp) elt (gE X.K An ge)) (hs : ∀ x, foldedSetIterable iter X.env x = pure x := by intro _; rfl) :
    PE X (.ListComp elt [⟨.Name x px, iter, [], 0⟩] scope pos) (gF X.K An (fLc gi (tgName i) gYes ge [i])) :=
  (pe_lc (own := [(x, i)]) hc hN hi ok hg (fun _ _ _ _ _ => pts_nil) he hs).imp (lc_of (tgOk_name (by simp)) fun σ H Q ⟨s, h, P, re, l, g, k⟩ => k true H h (Step.refl h H) re g)
/-- [elt for x in iter if t] -/
theorem f_lcIf {elt t : Expr} {scope : Scope} {x : Str} {i : Nat} {px : Pos} {gi : gTA} {ge : gTE} {gc : gTT} (hc : X.calm = true) (hN : X.N.Nodup) (hi : PI X (.Name x px) iter (gI X.K An gi)) (ok : BlkOk X.N X.env.scope scope [(x, i)])
    (hg : ∀ (s : Shared) (H : Hp) (C : Addr) (cl : List (Str × Addr)) (fp : List Addr), PG (X.blk s H scope (compEnvC scope cl C X.env) fp) (.Name x px) (gName i))
    (ht : ∀ (s : Shared) (H : Hp) (C : Addr) (cl : List (Str × Addr)) (fp : List Addr), PT (X.blk s H scope (compEnvC scope cl C X.env) fp) t (gT X.K An gc))
    (he : ∀ (s : Shared) (H : Hp) (C : Addr) (cl : List (Str × Addr)) (fp : List Addr), PE (X.blk s H scope (compEnvC scope cl C X.env) fp) elt (gE X.K An ge)) (hs : ∀ x, foldedSetIterable iter X.env x = pure x := by intro _; rfl) :
    PE X (.ListComp elt [⟨.Name x px, iter, [t], 0⟩] scope pos) (gF X.K An (fLc gi (tgName i) gc ge [i])) :=
  (pe_lc (own := [(x, i)]) hc hN hi ok hg (fun s H C cl fp => pts_one (ht s H C cl fp)) he hs).imp (lc_of (tgOk_name (by simp)) fun _ _ _ q => q)
theorem frz_of {K : Fg} {An : AN} {g : gTA} (σ : St) (H : Hp) (Q : VK) (q : gE K An (gFr g) σ H Q) : gF K An g σ H Q := by
  obtain ⟨s, h, P, re, l, g, k⟩ := q
  refine ⟨s, h, _, re, l, g, fun p ds H' h1 n s1 re1 pp => ?_⟩
  have d := re1.letgo put_same
  have re2 := re1.del (p := p)
  have s2 : Step h H (Gh.del (Gh.put h1 p (GO.lst ds)) p) H' := s1.trans Step.del
  rw [put_del n] at d re2 s2
  exact k _ H' _ h1 s2 re2 d pp
theorem setF_of {K : Fg} {An : AN} {i : Nat} (De : Ends) (σ : St) (H : Hp) (q : gS K An (sSet i (gFr gas)) De σ H) : tAsg (gF K An gas) (gName i) De σ H := frz_of σ H _ (set_of De σ H q)
/-- y = [elt for x in iter], y a local -/
theorem s_lc {elt : Expr} {scope : Scope} {x y : Str} {i j : Nat} {px py spos : Pos} {gi : gTA} {ge : gTE} (hc : X.calm = true) (hN : X.N.Nodup) (hy : X.N[j]? = some y) (hyl : X.env.scope.names.lookup y = some .local)
    (hsw : swapsWith (.ListComp elt [⟨.Name x px, iter, [], 0⟩] scope pos) (some (.Name y py)) spos.line X.env = pure true) (hi : PI X (.Name x px) iter (gI X.K An gi)) (ok : BlkOk X.N X.env.scope scope [(x, i)])
    (hg : ∀ (s : Shared) (H : Hp) (C : Addr) (cl : List (Str × Addr)) (fp : List Addr), PG (X.blk s H scope (compEnvC scope cl C X.env) fp) (.Name x px) (gName i))
    (he : ∀ (s : Shared) (H : Hp) (C : Addr) (cl : List (Str × Addr)) (fp : List Addr), PE (X.blk s H scope (compEnvC scope cl C X.env) fp) elt (gE X.K An ge)) (hs : ∀ x, foldedSetIterable iter X.env x = pure x := by intro _; rfl) :
    PS X (.Assign [.Name y py] (.ListComp elt [⟨.Name x px, iter, [], 0⟩] scope pos) spos) (gS X.K An (sOwn j (fLc gi (tgName i) gYes ge [i]))) :=
  (ps_setLc (own := [(x, i)]) hc hN hy hyl hsw hi ok hg (fun _ _ _ _ _ => pts_nil) he hs).imp fun De σ H q => lc_of (tgOk_name (by simp)) (fun σ H Q ⟨s, h, P, re, l, g, k⟩ => k true H h (Step.refl h H) re g) σ H _ (own_of De σ H q)
theorem s_lcIf {elt t : Expr} {scope : Scope} {x y : Str} {i j : Nat} {px py spos : Pos} {gi : gTA} {ge : gTE} {gc : gTT} (hc : X.calm = true) (hN : X.N.Nodup) (hy : X.N[j]? = some y) (hyl : X.env.scope.names.lookup y = some .local)
    (hsw : swapsWith (.ListComp elt [⟨.Name x px, iter, [t], 0⟩] scope pos) (some (.Name y py)) spos.line X.env = pure true) (hi : PI X (.Name x px) iter (gI X.K An gi)) (ok : BlkOk X.N X.env.scope scope [(x, i)])
    (hg : ∀ (s : Shared) (H : Hp) (C : Addr) (cl : List (Str × Addr)) (fp : List Addr), PG (X.blk s H scope (compEnvC scope cl C X.env) fp) (.Name x px) (gName i))
    (ht : ∀ (s : Shared) (H : Hp) (C : Addr) (cl : List (Str × Addr)) (fp : List Addr), PT (X.blk s H scope (compEnvC scope cl C X.env) fp) t (gT X.K An gc))
    (he : ∀ (s : Shared) (H : Hp) (C : Addr) (cl : List (Str × Addr)) (fp : List Addr), PE (X.blk s H scope (compEnvC scope cl C X.env) fp) elt (gE X.K An ge)) (hs : ∀ x, foldedSetIterable iter X.env x = pure x := by intro _; rfl) :
    PS X (.Assign [.Name y py] (.ListComp elt [⟨.Name x px, iter, [t], 0⟩] scope pos) spos) (gS X.K An (sOwn j (fLc gi (tgName i) gc ge [i]))) :=
  (ps_setLc (own := [(x, i)]) hc hN hy hyl hsw hi ok hg (fun s H C cl fp => pts_one (ht s H C cl fp)) he hs).imp fun De σ H q => lc_of (tgOk_name (by simp)) (fun _ _ _ q => q) σ H _ (own_of De σ H q)
theorem s_lcF {elt : Expr} {scope : Scope} {x y : Str} {i j : Nat} {px py spos : Pos} {gi : gTA} {ge : gTE} (hc : X.calm = true) (hN : X.N.Nodup) (hy : X.N[j]? = some y) (hyl : X.env.scope.names.lookup y = some .local)
    (hsw : swapsWith (.ListComp elt [⟨.Name x px, iter, [], 0⟩] scope pos) (some (.Name y py)) spos.line X.env = pure true) (hi : PI X (.Name x px) iter (gI X.K An gi)) (ok : BlkOk X.N X.env.scope scope [(x, i)])
    (hg : ∀ (s : Shared) (H : Hp) (C : Addr) (cl : List (Str × Addr)) (fp : List Addr), PG (X.blk s H scope (compEnvC scope cl C X.env) fp) (.Name x px) (gName i))
    (he : ∀ (s : Shared) (H : Hp) (C : Addr) (cl : List (Str × Addr)) (fp : List Addr), PE (X.blk s H scope (compEnvC scope cl C X.env) fp) elt (gE X.K An ge)) (hs : ∀ x, foldedSetIterable iter X.env x = pure x := by intro _; rfl) :
    PS X (.Assign [.Name y py] (.ListComp elt [⟨.Name x px, iter, [], 0⟩] scope pos) spos) (gS X.K An (sSet j (gFr (fLc gi (tgName i) gYes ge [i])))) :=
  (ps_setLc (own := [(x, i)]) hc hN hy hyl hsw hi ok hg (fun _ _ _ _ _ => pts_nil) he hs).imp fun De σ H q => lc_of (tgOk_name (by simp)) (fun σ H Q ⟨s, h, P, re, l, g, k⟩ => k true H h (Step.refl h H) re g) σ H _ (setF_of De σ H q)
theorem s_lcIfF {elt t : Expr} {scope : Scope} {x y : Str} {i j : Nat} {px py spos : Pos} {gi : gTA} {ge : gTE} {gc : gTT} (hc : X.calm = true) (hN : X.N.Nodup) (hy : X.N[j]? = some y) (hyl : X.env.scope.names.lookup y = some .local)
    (hsw : swapsWith (.ListComp elt [⟨.Name x px, iter, [t], 0⟩] scope pos) (some (.Name y py)) spos.line X.env = pure true) (hi : PI X (.Name x px) iter (gI X.K An gi)) (ok : BlkOk X.N X.env.scope scope [(x, i)])
    (hg : ∀ (s : Shared) (H : Hp) (C : Addr) (cl : List (Str × Addr)) (fp : List Addr), PG (X.blk s H scope (compEnvC scope cl C X.env) fp) (.Name x px) (gName i))
    (ht : ∀ (s : Shared) (H : Hp) (C : Addr) (cl : List (Str × Addr)) (fp : List Addr), PT (X.blk s H scope (compEnvC scope cl C X.env) fp) t (gT X.K An gc))
    (he : ∀ (s : Shared) (H : Hp) (C : Addr) (cl : List (Str × Addr)) (fp : List Addr), PE (X.blk s H scope (compEnvC scope cl C X.env) fp) elt (gE X.K An ge)) (hs : ∀ x, foldedSetIterable iter X.env x = pure x := by intro _; rfl) :
    PS X (.Assign [.Name y py] (.ListComp elt [⟨.Name x px, iter, [t], 0⟩] scope pos) spos) (gS X.K An (sSet j (gFr (fLc gi (tgName i) gc ge [i])))) :=
  (ps_setLc (own := [(x, i)]) hc hN hy hyl hsw hi ok hg (fun s H C cl fp => pts_one (ht s H C cl fp)) he hs).imp fun De σ H q => lc_of (tgOk_name (by simp)) (fun _ _ _ q => q) σ H _ (setF_of De σ H q)
end
end Gh

namespace Gh
open PySem PySem.Spec PyProof.Rows L2
/-! ### methods that change an owned list -/
abbrev RM := GH → List D → List D → List D → D → Prop
def MTL (K : Fg) (r : V → List V → Hp → VK → Prop) (R : RM) : Prop := ∀ (p : Addr) (xs vs : List V) (ds es ds' : List D) (c : D) (H : Hp) (h : GH) (Q : VK), Rel K h H → H p = some (.lst xs) → Dvs K h H xs ds → Dvs K h H vs es → R h ds es ds' c →
  (∀ v xs', Dvs K h H xs' ds' → Dv K h H v c → Q v (upd H p (.lst xs'))) → r (.ref p) vs H Q
def gMl (R : RM) (go : gTE) (ga : gTA) : gTE := fun s h P => go s h fun o h1 => ∃ p ds0, o = .ref p ∧ h1 p = some (.lst ds0) ∧ ga s h1 fun es h2 => ∃ ds ds' c, h2 p = some (.lst ds) ∧ R h2 ds es ds' c ∧ P c (put h2 p (.lst ds'))
section
variable {X : Cx} {An : AN} {a b e o tg iter : Expr} {es : List Expr} {ga gb go : gTE} {gas : gTA} {gt : gTT} {pos p : Pos} {st : Stmt} {sts : List Stmt} {g g1 g2 : gTS}
theorem ml_fin {K : Fg} {r : V → List V → Hp → VK → Prop} {R : RM} (m : MTL K r R) {q : Addr} {vs : List V} {ds es ds' : List D} {c : D} {H : Hp} {h : GH} {Q : VK} (re : Rel K h H) (ho : h q = some (.lst ds)) (dv : Dvs K h H vs es) (hr : R h ds es ds' c)
    (k : ∀ v H', Step h H (put h q (.lst ds')) H' → Rel K (put h q (.lst ds')) H' → Dv K (put h q (.lst ds')) H' v c → Q v H') : r (.ref q) vs H Q := by
  obtain ⟨xs, hx, rs⟩ := re q _ ho
  refine m q xs vs ds es ds' c H h Q re hx rs dv hr fun v xs' rs' dv' => ?_
  have st : Step h H (put h q (GO.lst ds')) (upd H q (.lst xs')) := Step.set (by rw [ho]; simp)
  exact k v _ st (re.put st ⟨xs', upd_same, rs'.mono st⟩) (dv'.mono st)
theorem e_ml {name : Str} {id : String} {r : V → List V → Hp → VK → Prop} {R : RM} {apos cpos : Pos} (m : MTL X.K r R)
    (raw : ∀ {to : TE} {t : TA}, PE X o to → PA X (e :: es) t → PE X (.Call (.Attribute o name apos) (e :: es) [] cpos) (tBM X.K "list" r to t)) (ho : PE X o (gE X.K An go)) (ha : PA X (e :: es) (gA X.K An gas)) :
    PE X (.Call (.Attribute o name apos) (e :: es) [] cpos) (gE X.K An (gMl R go gas)) := (raw ho ha).imp fun σ H Q ⟨s, h, P, re, l, g, k⟩ => by
  refine ⟨s, h, _, re, l, g, fun x H1 d h1 s1 re1 dx ⟨q, ds0, ed, ho1, g1⟩ => ?_⟩
  subst ed
  cases dx
  obtain ⟨xs, hx, rs⟩ := re1 q _ ho1
  refine ⟨Or.inl ⟨rfl, xs, .inl (.inl hx)⟩, s, h1, _, re1, l.mono s1, g1, fun vs H2 es h2 s2 re2 dv ⟨ds, ds', c, ho2, hr, pp⟩ => ?_⟩
  exact ml_fin m re2 ho2 dv hr fun v H' st re3 dv3 => k v H' c _ ((s1.trans s2).trans st) re3 dv3 pp
theorem e_ml0 {name : Str} {id : String} {r : V → List V → Hp → VK → Prop} {R : RM} {apos cpos : Pos} (m : MTL X.K r R)
    (raw : ∀ {to : TE}, PE X o to → PE X (.Call (.Attribute o name apos) [] [] cpos) (tBM0 X.K "list" r to)) (ho : PE X o (gE X.K An go)) :
    PE X (.Call (.Attribute o name apos) [] [] cpos) (gE X.K An (gMl R go aNil)) := (raw ho).imp fun σ H Q ⟨s, h, P, re, l, g, k⟩ => by
  refine ⟨s, h, _, re, l, g, fun x H1 d h1 s1 re1 dx ⟨q, ds0, ed, ho1, g1⟩ => ?_⟩
  subst ed
  cases dx
  obtain ⟨xs, hx, rs⟩ := re1 q _ ho1
  obtain ⟨ds, ds', c, ho2, hr, pp⟩ := g1
  exact ⟨Or.inl ⟨rfl, xs, .inl (.inl hx)⟩, ml_fin m re1 ho2 .nil hr fun v H' st re3 dv3 => k v H' c _ (s1.trans st) re3 dv3 pp⟩
def RApp : RM := fun _ ds es ds' c => ∃ d, es = [d] ∧ ds.length < sizeLine ∧ ds' = ds ++ [d] ∧ c = .non
theorem mApp {K : Fg} : MTL K rAppend RApp := by
  intro q xs vs ds es ds' c H h Q re hx rs dvx hr k
  obtain ⟨d, rfl, hz, rfl, rfl⟩ := hr
  obtain ⟨v, rfl, dv⟩ := dvs1 dvx
  exact ⟨q, xs, v, rfl, rfl, hx, by rw [rs.length]; exact hz, k _ _ (rs.append (.cons dv .nil)) .non⟩
theorem e_append {apos cpos : Pos} (ho : PE X o (gE X.K An go)) (ha : PA X [e] (gA X.K An gas)) (raw : ∀ {to : TE} {t : TA}, PE X o to → PA X [e] t → PE X (.Call (.Attribute o "append" apos) [e] [] cpos) (tBM X.K "list" rAppend to t) := by
      intro to t h1 h2; exact pe_bm PySem.F.plainAttrs_list PySem.F.slot_list_append PySem.F.type_list_append mt_append h1 h2) : PE X (.Call (.Attribute o "append" apos) [e] [] cpos) (gE X.K An (gMl RApp go gas)) := e_ml (id := "list.append") mApp raw ho ha
def RExt : RM := fun h ds es ds' c => ∃ d zs, es = [d] ∧ vw h d = .lst zs ∧ ds.length + zs.length ≤ sizeLine ∧ ds' = ds ++ zs ∧ c = .non
theorem mExt {K : Fg} : MTL K rExtend RExt := by
  intro q xs vs ds es ds' c H h Q re hx rs dvx hr k
  obtain ⟨d, zs, rfl, ev, hz, rfl, rfl⟩ := hr
  obtain ⟨v, rfl, dv⟩ := dvs1 dvx
  obtain ⟨b, ys, rfl, hb, rb⟩ := vw_lst re dv ev
  exact ⟨q, b, xs, ys, rfl, rfl, hx, hb, by rw [rs.length, rb.length]; exact hz, k _ _ (rs.append rb) .non⟩
theorem e_extend {apos cpos : Pos} (ho : PE X o (gE X.K An go)) (ha : PA X [e] (gA X.K An gas)) (raw : ∀ {to : TE} {t : TA}, PE X o to → PA X [e] t → PE X (.Call (.Attribute o "extend" apos) [e] [] cpos) (tBM X.K "list" rExtend to t) := by
      intro to t h1 h2; exact pe_bm PySem.F.plainAttrs_list PySem.F.slot_list_extend PySem.F.type_list_extend mt_extend h1 h2) : PE X (.Call (.Attribute o "extend" apos) [e] [] cpos) (gE X.K An (gMl RExt go gas)) := e_ml (id := "list.extend") mExt raw ho ha
theorem Dvs.eraseIdx {K : Fg} {h : GH} {H : Hp} : ∀ {vs : List V} {ds : List D} (i : Nat), Dvs K h H vs ds → Dvs K h H (vs.eraseIdx i) (ds.eraseIdx i)
  | _, _, _, .nil => .nil
  | _, _, 0, .cons _ t => t
  | _, _, i + 1, .cons r t => .cons r (Dvs.eraseIdx i t)
/-- xs.pop(i), 0 ≤ i -/
def RPopAt : RM := fun _ ds es ds' c => ∃ i : Nat, es = [.int (i : Int)] ∧ ds[i]? = some c ∧ i < 1000000 ∧ ds' = ds.eraseIdx i
theorem mPopAt {K : Fg} : MTL K rPopAt RPopAt := by
  intro q xs vs ds es ds' c H h Q re hx rs dvx hr k
  obtain ⟨i, rfl, hi, hb, rfl⟩ := hr
  obtain ⟨v, rfl, dv⟩ := dvs1 dvx
  cases dv
  obtain ⟨v, hv, dv⟩ := rs.get hi
  have hl : i < xs.length := (List.getElem?_eq_some_iff.mp hv).1
  refine ⟨q, xs, i, i, v, rfl, rfl, hx, by omega, by omega, ?_, hv, k _ _ (rs.eraseIdx i) dv⟩
  unfold seqIndex?
  simp
  omega
theorem e_popAt {apos cpos : Pos} (ho : PE X o (gE X.K An go)) (ha : PA X [e] (gA X.K An gas)) (raw : ∀ {to : TE} {t : TA}, PE X o to → PA X [e] t → PE X (.Call (.Attribute o "pop" apos) [e] [] cpos) (tBM X.K "list" rPopAt to t) := by
      intro to t h1 h2; exact pe_bm PySem.F.plainAttrs_list PySem.F.slot_list_pop PySem.F.type_list_pop mt_popAt h1 h2) : PE X (.Call (.Attribute o "pop" apos) [e] [] cpos) (gE X.K An (gMl RPopAt go gas)) := e_ml (id := "list.pop") mPopAt raw ho ha
def RClear : RM := fun _ ds es ds' c => es = [] ∧ ds' = [] ∧ c = .non
theorem mClear {K : Fg} : MTL K rClear RClear := by
  intro q xs vs ds es ds' c H h Q re hx rs dvx hr k
  obtain ⟨rfl, rfl, rfl⟩ := hr
  cases dvx
  exact ⟨q, xs, rfl, rfl, hx, k _ _ .nil .non⟩
theorem e_clear {apos cpos : Pos} (ho : PE X o (gE X.K An go)) (raw : ∀ {to : TE}, PE X o to → PE X (.Call (.Attribute o "clear" apos) [] [] cpos) (tBM0 X.K "list" rClear to) := by
      intro to h1; exact pe_bm0 PySem.F.plainAttrs_list PySem.F.slot_list_clear PySem.F.type_list_clear mt_clear h1) : PE X (.Call (.Attribute o "clear" apos) [] [] cpos) (gE X.K An (gMl RClear go aNil)) := e_ml0 (id := "list.clear") mClear raw ho
/-- o[i] = e, o an owned list -/
def tgSub (go gi : gTE) : gTG := fun d s h P => go s h fun o h1 => ∃ q, o = .ref q ∧ gi s h1 fun i h2 => ∃ ds k j, i = .int k ∧ h2 q = some (.lst ds) ∧ ixN ds.length k = some j ∧ P s (put h2 q (.lst (ds.set j d)))
theorem g_sub {i : Expr} {gi : gTE} (ho : PE X o (gE X.K An go)) (hi : PE X i (gE X.K An gi))
    (ha : ∀ v, assign (.Subscript o i pos) X.env v = (do
      let ov ← holding [v] (eval o X.env)
      let iv ← holding [v, ov] (eval i X.env)
      standAt pos
      holding [v, ov, iv] (setItem ov iv v)
      release [v, ov, iv] []) := by intro _; rfl) : PG X (.Subscript o i pos) (gG X.K An (tgSub go gi)) := (pg_sub ho hi set_list ha).imp fun v σ H Q ⟨d, s, h, P, re, l, dv, g, k⟩ => by
  refine ⟨s, h, _, re, l, g, fun x H1 a h1 s1 re1 dx ⟨q, ea, g1⟩ => ?_⟩
  subst ea
  cases dx
  refine ⟨s, h1, _, re1, l.mono s1, g1, fun y H2 b h2 s2 re2 dy ⟨ds, kk, j, eb, ho2, hj, pp⟩ => ?_⟩
  subst eb
  cases dy
  obtain ⟨xs, hx, rs⟩ := re2 q _ ho2
  have st : Step h2 H2 (put h2 q (GO.lst (ds.set j d))) (upd H2 q (.lst (xs.set j v))) := Step.set (by rw [ho2]; simp)
  have dv2 := (dv.mono (s1.trans s2)).mono st
  refine ⟨q, xs, kk, j, rfl, rfl, hx, by rw [rs.length]; exact hj, ?_⟩
  exact k σ _ s _ ((s1.trans s2).trans st) (re2.put st ⟨_, upd_same, Dvs.set dv2 j (rs.mono st)⟩) (l.mono ((s1.trans s2).trans st)) pp
/-! ### list(e), tuple(e) -/
theorem vals_get : ∀ {xs : List V} {us : List Value}, xs.length = us.length → (∀ (i : Nat) (v : V), xs[i]? = some v → ∃ u, us[i]? = some u ∧ RelV v u) → Vals xs us
  | [], [], _, _ => .nil
  | x :: xs, u :: us, e, h => by
    refine .cons ?_ (vals_get (by simpa using e) fun i v hv => h (i + 1) v (by simpa using hv))
    obtain ⟨u', e1, r⟩ := h 0 x rfl
    cases e1
    exact r
  | [], _ :: _, e, _ => by cases e
  | _ :: _, [], e, _ => by cases e
theorem signs_vals {x : Str} {acc : Array Value} (h : ItemsOf (SignAt x) acc x.cps.size) : Vals (x.cps.toList.map fun c => V.str ⟨#[c]⟩) acc.toList := by
  refine vals_get (by rw [List.length_map, Array.length_toList, Array.length_toList, h.1]) fun i v hv => ?_
  rw [List.getElem?_map] at hv
  obtain ⟨c, hc, rfl⟩ := Option.map_eq_some_iff.mp hv
  have hi : i < x.cps.size := by
    have := (List.getElem?_eq_some_iff.mp hc).1
    simpa using this
  have hj : i < acc.size := by rw [h.1]; exact hi
  refine ⟨acc[i], by simp [hj], ?_⟩
  obtain ⟨c', t, e1, e2⟩ := h.2 i acc[i] (by simp [hj])
  rw [Array.getElem?_toList] at hc
  rw [hc] at e1
  cases e1
  exact ⟨t, e2⟩
theorem call_list_txt (hc : X.calm = true) : CallR X (.type "list") (fun xs H Q => ∃ x : Str, xs = [.str x] ∧ x.length ≤ sizeLine ∧ ∀ l, H l = none → Q (.ref l) (upd H l (.lst (x.cps.toList.map fun c => V.str ⟨#[c]⟩)))) := by
  intro pins s σ H xs us Q I r h
  obtain ⟨x, rfl, hz, q⟩ := h
  obtain ⟨u, rfl, rx⟩ := vals1 r
  obtain ⟨t, rfl⟩ := rx
  refine PySem.call_list_str (I.ok.hd hc) x t (fun h' tk acc' c' kp e ia => ?_) hz
  have rv := signs_vals ia
  exact ⟨.ref s.heap.objs.size, _, I.laid (t' := tk) kp (Nat.le_refl _) (show ObjOk X.prog X.w _ h' _ (.lst _) from ⟨by rw [List.length_map, Array.length_toList]; exact hz, acc'.toList, c', rv, by simpa using e⟩), rfl, q _ (I.hok.fresh (Nat.le_refl _))⟩
theorem Dvs.signs {K : Fg} {h : GH} {H : Hp} : ∀ cs : List Nat, Dvs K h H (cs.map fun c => V.str ⟨#[c]⟩) (cs.map fun c => D.str ⟨#[c]⟩)
  | [] => .nil
  | _ :: r => .cons (.str _) (Dvs.signs r)
def fList (ga : gTA) : gTA := fun s h P => ga s h fun es h1 => ∃ d ds, es = [d] ∧ (vw h1 d = .lst ds ∨ vw h1 d = .tup ds ∨ ∃ x : Str, d = .str x ∧ x.length ≤ sizeLine ∧ ds = x.cps.toList.map fun c => D.str ⟨#[c]⟩) ∧ P ds h1
theorem f_list (hm : X.mg "list" = none) (ha : PA X [e] (gA X.K An gas)) (hg : Gl X "list" := by rfl) (he : starEach [e] X.env = [(false, eval e X.env)] := by rfl) (hc : X.calm = true := by rfl) : PE X (.Call (.Name "list" p) [e] [] pos) (gF X.K An (fList gas)) :=
  (pe_callTy (crOr call_list_of (call_list_txt hc)) hg hm (by decide +kernel) ha (by decide) (by decide) he (by rfl)).imp fun σ H Q ⟨s, h, P, re, l, g, k⟩ => by
    refine ⟨s, h, _, re, l, g, fun vs H1 es h1 s1 re1 dvx ⟨d, ds, ee, hv, pp⟩ => ?_⟩
    subst ee
    obtain ⟨v, rfl, dv⟩ := dvs1 dvx
    rcases hv with hv | hv | ⟨x, hv, hz, hd⟩
    · obtain ⟨q, xs, rfl, hx, rs⟩ := vw_lst re1 dv hv
      exact .inl ⟨q, xs, rfl, .inl (.inl (.inl hx)), fun t n => k t ds _ h1 (re1.free n) (s1.trans (Step.newO n)) (re1.newO n rs) pp⟩
    · obtain ⟨q, xs, rfl, hx, rs⟩ := vw_tup dv hv
      exact .inl ⟨q, xs, rfl, .inr hx.sq, fun t n => k t ds _ h1 (re1.free n) (s1.trans (Step.newO n)) (re1.newO n rs) pp⟩
    · subst hv hd
      cases dv
      exact .inr ⟨x, rfl, hz, fun t n => k t _ _ h1 (re1.free n) (s1.trans (Step.newO n)) (re1.newO n (Dvs.signs _)) pp⟩
def RTuple : RC2 := fun h ds c => ∃ d xs, ds = [d] ∧ (vw h d = .lst xs ∨ vw h d = .tup xs) ∧ c = .tup xs
theorem e_tuple (hm : X.mg "tuple" = none) (ha : PA X [e] (gA X.K An gas)) (hg : Gl X "tuple" := by rfl) (he : starEach [e] X.env = [(false, eval e X.env)] := by rfl) : PE X (.Call (.Name "tuple" p) [e] [] pos) (gE X.K An (gCB RTuple gas)) :=
  e_ct call_tuple_of (by
    intro vs H h ds c Q re dvx hr k
    obtain ⟨d, xs, rfl, hv, rfl⟩ := hr
    obtain ⟨v, rfl, dv⟩ := dvs1 dvx
    rcases hv with hv | hv
    · obtain ⟨q, ys, rfl, hx, rs⟩ := vw_lst re dv hv
      exact ⟨q, ys, rfl, .inl ⟨.inl (.inl hx), fun t n => k _ _ (Step.new n) (re.new n) (rs.tup_new re n)⟩⟩
    · obtain ⟨q, ys, rfl, hx, rs⟩ := vw_tup dv hv
      exact ⟨q, ys, rfl, .inr ⟨hx.sq, k _ H (Step.refl h H) re (.tup hx rs)⟩⟩) hm (by decide +kernel) ha hg (by decide) (by decide) he (by rfl)
/-! ### x op= e -/
def sAug (i : Nat) (R : R3) (ga : gTE) : gTS := fun N s h => ∃ x, s[i]? = some (some x) ∧ ga s h fun y h1 => ∃ c, R h1 x y c ∧ N.nx (s.set i (some c)) h1
theorem s_aug {i : Nat} {x : Str} {op : Operator} {ti : TIp} {R : R3} {pos' : Pos} (o : OPL X.K ti R) (hp : PIp X op ti) (hN : X.N.Nodup) (he : PE X e (gE X.K An ga)) (hi : X.N[i]? = some x := by rfl) (hx : Loc X.env.scope x := by first | exact Or.inl rfl | exact Or.inr rfl) (hf : X.fn x = true ∨ X.env.scope.names.lookup x = some .local := by first | exact .inl rfl | exact .inr rfl) :
    PS X (.AugAssign (.Name x pos') op e pos) (gS X.K An (sAug i R ga)) := (ps_aug hN hi hx he hp hf).imp fun De σ H ⟨s, h, N, re, l, ⟨x, ex, g⟩, m⟩ => by
  obtain ⟨v, hv, dv⟩ := l.2 i x ex
  refine ⟨v, hv, s, h, _, re, l, g, fun y H1 b h1 s1 re1 dy ⟨c, hr, pp⟩ => ?_⟩
  exact o v y H1 h1 x b c _ re1 (dv.mono s1) dy hr fun z H2 st re2 dz => m.nx _ H2 _ h1 (s1.trans st) re2 ((l.mono (s1.trans st)).set dz) pp
theorem s_augAdd {i : Nat} {x : Str} {pos' : Pos} (hN : X.N.Nodup) (he : PE X e (gE X.K An ga)) (hi : X.N[i]? = some x := by rfl) (hx : Loc X.env.scope x := by first | exact Or.inl rfl | exact Or.inr rfl) (hf : X.fn x = true ∨ X.env.scope.names.lookup x = some .local := by first | exact .inl rfl | exact .inr rfl) :
    PS X (.AugAssign (.Name x pos') .Add e pos) (gS X.K An (sAug i (fun h a b c => match vw h a, vw h b with
    | .int i, .int j => c = .int (i + j)
    | _, _ => False) ga)) := s_aug (ti := rI0 fun i j => .int (i + j)) (opl_int0 fun _ _ _ _ => .int _) iop_add hN he hi hx hf
theorem iop_mulA : OpR X (inplaceOp .Mult) (rI (fun i j => CMul i j ∨ CMulW i j) fun i j => .int (i * j)) := opI fun _ _ _ _ _ _ _ hc q => imul_int q (hc.elim (fun z => z.ok) (fun z => z.ok))
theorem s_augMul {i : Nat} {x : Str} {pos' : Pos} (hN : X.N.Nodup) (he : PE X e (gE X.K An ga)) (hi : X.N[i]? = some x := by rfl) (hx : Loc X.env.scope x := by first | exact Or.inl rfl | exact Or.inr rfl) (hf : X.fn x = true ∨ X.env.scope.names.lookup x = some .local := by first | exact .inl rfl | exact .inr rfl) :
    PS X (.AugAssign (.Name x pos') .Mult e pos) (gS X.K An (sAug i (fun h a b c => match vw h a, vw h b with
    | .int i, .int j => (CMul i j ∨ CMulW i j) ∧ c = .int (i * j)
    | _, _ => False) ga)) := s_aug (ti := rI (fun i j => CMul i j ∨ CMulW i j) fun i j => .int (i * j)) (opl_int fun _ _ _ _ => .int _) iop_mulA hN he hi hx hf
end
/-! ### a def by its body -/
section
variable {P : Program} {w : World} {K : Fg} {mg : Str → Option Value} {base : Heap}
theorem gfun {x : Str} {st : Stmt} {f : Addr} {fd : FuncData} {N ps : List Str} {k : Nat} {S : GSpec} {g : gTS} (F : Fun K x x st f fd) (hm : mg x = some (.ref f)) (b : Binds K fd ps []) (sc : FnScope N ps (defScope st)) (len : ∀ ds h P, S ds h P → ds.length = ps.length)
    (hd : ∀ (cdv : Value) (A : Around) (outer : List Env) (s : Shared) (H : Hp) (E : XK), Room k (A.deeper (envOfC x (defScope st) s.heap.objs.size f cdv)) → PSs (cxOf CX0 P w K mg base N x (defScope st) f cdv A outer s H E).nox (defBody st) (gS K AN.top g))
    (hg : ∀ ds h P, S ds h P → g { nx := fun _ h' => P .non h', rt := P } (startG N ds) h) : Fc P w K mg base (k + 1) x S := by
  refine ⟨f, ?_, hm, F.kp⟩
  have ok : FnOk P w K mg base CX0 (k + 1) f fd ps (GSP K S) := by
    refine F.ok sc (fun vs H Q E ⟨ds, h, P, re, dv, s, _⟩ => by rw [dv.length]; exact len _ _ _ s) (fun cdv A outer s H vs Q E hr ⟨ds, h, P, re, dv, hs, kk⟩ => ⟨_, hd cdv A outer s H E hr, ?_⟩)
    exact ⟨startG N ds, h, _, re, Sl.begin dv trivial, hg ds h P hs, fun σ' H' s' h' st re' l' p => kk _ H' _ h' st re' .non p, fun v H' d h' st re' dv' p => kk v H' d h' st re' dv' p, fun _ _ _ _ _ _ _ z => z.elim, fun _ _ _ _ _ _ _ z => z.elim⟩
  have r := ok.raw b .nil
  exact r.imp fun vs H Q E q => by rw [List.append_nil]; exact q
end
end Gh

namespace Gh
open PySem L2
/-! ### comparisons as tests -/
section
variable {X : Cx} {An : AN} {a b c e : Expr} {es : List Expr} {ga gb gc : gTE} {gas : gTA} {pos p : Pos}
theorem tTest_of {K : Fg} {An : AN} {r : R2} {R : R3} (o : OPL K r R) (σ : St) (H : Hp) (Q : Bool → Hp → Prop) (q : gT K An (gB (gBin R ga gb)) σ H Q) : tTest (tOp r (gE K An ga) (gE K An gb)) σ H Q := by
  obtain ⟨s, h, P, re, l, g, k⟩ := q
  refine two o σ H _ ⟨s, h, _, re, l, g, fun v H1 d h1 s1 re1 dv ⟨z, e, p⟩ => ?_⟩
  subst e
  exact ⟨z, dv_bl dv, k z H1 h1 s1 re1 p⟩
theorem t_cmp {op : CmpOp} {r : R2} {R : R3} (ho : OpR X (compareOp op) r) (o : OPL X.K r R) (ha : PE X a (gE X.K An ga)) (hb : PE X b (gE X.K An gb)) (hm : behindInMarks op b = false) : PT X (.Compare a [op] [b] pos) (gT X.K An (gB (gBin R ga gb))) :=
  (pt_cmpR ho ha hb hm).imp fun σ H Q q => tTest_of o σ H Q q
theorem t_eq {k : Nat} (hr : Room k X.A) (ha : PE X a (gE X.K An ga)) (hb : PE X b (gE X.K An gb)) : PT X (.Compare a [.Eq] [b] pos) (gT X.K An (gB (gBin (REq false) ga gb))) := t_cmp (op_eq.or (op_eqD hr.units)) lEq ha hb (nomark _)
theorem t_ne {k : Nat} (hr : Room k X.A) (ha : PE X a (gE X.K An ga)) (hb : PE X b (gE X.K An gb)) : PT X (.Compare a [.NotEq] [b] pos) (gT X.K An (gB (gBin (REq true) ga gb))) := t_cmp (op_ne.or (op_neD hr.units)) lNe ha hb (nomark _)
theorem t_lt (ha : PE X a (gE X.K An ga)) (hb : PE X b (gE X.K An gb)) : PT X (.Compare a [.Lt] [b] pos) (gT X.K An (gB (gBin (RCmp fun i j => decide (i < j)) ga gb))) := t_cmp op_lt lCmp ha hb (nomark _)
theorem t_le (ha : PE X a (gE X.K An ga)) (hb : PE X b (gE X.K An gb)) : PT X (.Compare a [.LtE] [b] pos) (gT X.K An (gB (gBin (RCmp fun i j => decide (i ≤ j)) ga gb))) := t_cmp op_le lCmp ha hb (nomark _)
theorem t_gt (ha : PE X a (gE X.K An ga)) (hb : PE X b (gE X.K An gb)) : PT X (.Compare a [.Gt] [b] pos) (gT X.K An (gB (gBin (RCmp fun i j => decide (j < i)) ga gb))) := t_cmp op_gt lCmp ha hb (nomark _)
theorem t_ge (ha : PE X a (gE X.K An ga)) (hb : PE X b (gE X.K An gb)) : PT X (.Compare a [.GtE] [b] pos) (gT X.K An (gB (gBin (RCmp fun i j => decide (j ≤ i)) ga gb))) := t_cmp op_ge lCmp ha hb (nomark _)
theorem t_isN {j} {p : Pos} (ha : PE X a (gE X.K An ga)) : PT X (.Compare a [.Is] [.Constant .none j p] pos) (gT X.K An (gB (gUn (RIsN false) ga))) :=
  (pt_cmpR op_isN ha pe_non (nomark _)).imp fun σ H Q ⟨s, h, P, re, l, g, k⟩ => ⟨s, h, _, re, l, g, fun x H1 a h1 s1 re1 dx ⟨c, hr, z, e, p⟩ => by
    subst hr
    cases e
    refine ⟨rfl, _, rfl, ?_⟩
    rw [dv_isN dx]
    exact k _ H1 h1 s1 re1 p⟩
theorem t_notN {j} {p : Pos} (ha : PE X a (gE X.K An ga)) : PT X (.Compare a [.IsNot] [.Constant .none j p] pos) (gT X.K An (gB (gUn (RIsN true) ga))) :=
  (pt_cmpR op_notN ha pe_non (nomark _)).imp fun σ H Q ⟨s, h, P, re, l, g, k⟩ => ⟨s, h, _, re, l, g, fun x H1 a h1 s1 re1 dx ⟨c, hr, z, e, p⟩ => by
    subst hr
    cases e
    refine ⟨rfl, _, rfl, ?_⟩
    rw [dv_isN dx]
    exact k _ H1 h1 s1 re1 p⟩
theorem t_chain {op op' : CmpOp} {r r' : R2} {R R' : R3} (ho : OpR X (compareOp op) r) (ho' : OpR X (compareOp op') r') (o : OPL X.K r R) (o' : OPL X.K r' R') (ha : PE X a (gE X.K An ga)) (hb : PE X b (gE X.K An gb)) (hc : PE X c (gE X.K An gc)) (hm : lastMarks [op, op'] [b, c] = false) :
    PT X (.Compare a [op, op'] [b, c] pos) (gT X.K An (gB (gChain R R' ga gb gc))) := (pt_chain ho ho' ha hb hc hm).imp fun σ H Q ⟨s, h, P, re, l, g, k⟩ => by
  refine ⟨s, h, _, re, l, g, fun x H1 a h1 s1 re1 dx g1 => ?_⟩
  refine ⟨s, h1, _, re1, l.mono s1, g1, fun y H2 b h2 s2 re2 dy ⟨z, hz, g2⟩ => ?_⟩
  refine o x y H2 h2 a b (.bl z) _ re2 (dx.mono s2) dy hz fun v H3 s3 re3 dv => ⟨z, dv_bl dv, ?_⟩
  have s13 := (s1.trans s2).trans s3
  cases z with
  | true =>
    rw [if_pos rfl] at g2
    rw [if_pos rfl]
    refine ⟨s, h2, _, re3, l.mono s13, g2, fun y' H4 c h4 s4 re4 dy' ⟨y2, hy, zz, ez, p⟩ => ?_⟩
    subst ez
    exact o' y y' H4 h4 b c _ _ re4 (dy.mono (s3.trans s4)) dy' hy fun v H5 s5 re5 dv => ⟨zz, dv_bl dv, k zz H5 h4 ((s13.trans s4).trans s5) re5 p⟩
  | false =>
    rw [if_neg Bool.false_ne_true] at g2
    rw [if_neg Bool.false_ne_true]
    obtain ⟨zz, ez, p⟩ := g2
    cases ez
    exact ⟨false, rfl, k _ H3 h2 s13 re3 p⟩
/-! ### in -/
def atomV : D → Option V
  | .non => some .non
  | .bl b => some (.bl b)
  | .int i => some (.int i)
  | .str x => some (.str x)
  | _ => none
def atomVs : List D → Option (List V)
  | [] => some []
  | d :: r => (atomV d).bind fun x => (atomVs r).map (x :: ·)
theorem Dv.atom {K : Fg} {h : GH} {H : Hp} {v x : V} {d : D} (k : Dv K h H v d) (e : atomV d = some x) : v = x ∧ flatV x = true := by
  cases k <;> cases e <;> exact ⟨rfl, rfl⟩
theorem Dvs.atoms {K : Fg} {h : GH} {H : Hp} : ∀ {vs xs : List V} {ds : List D}, Dvs K h H vs ds → atomVs ds = some xs → vs = xs ∧ xs.all flatV = true
  | _, _, _, .nil, e => by cases e; exact ⟨rfl, rfl⟩
  | _, _, _, .cons (d := d) (ds := ds) a r, e => by
    rw [atomVs] at e
    cases q : atomV d with
    | none => rw [q] at e; cases e
    | some x =>
      cases q2 : atomVs ds with
      | none => rw [q, q2] at e; cases e
      | some xs =>
        rw [q, q2] at e
        cases e
        obtain ⟨rfl, h1⟩ := a.atom q
        obtain ⟨rfl, h2⟩ := Dvs.atoms r q2
        exact ⟨rfl, by rw [List.all_cons, h1, h2]; rfl⟩
/-- x in (a, b ..), of atoms; c in a text, c one sign -/
def RIn (neg : Bool) : R3 := fun h a b c => match vw h b with
  | .lst ds => ∃ x xs, atomV a = some x ∧ atomVs ds = some xs ∧ c = .bl (if neg then !inV x xs else inV x xs)
  | .tup ds => ∃ x xs, atomV a = some x ∧ atomVs ds = some xs ∧ c = .bl (if neg then !inV x xs else inV x xs)
  | .str y => ∃ k : Nat, a = .str ⟨#[k]⟩ ∧ c = .bl (if neg then !decide (k ∈ y.cps.toList) else decide (k ∈ y.cps.toList))
  | _ => False
def rInA (K : Fg) : R2 := fun x y H Q => rIn K false x y H Q ∨ ∃ (c : Nat) (z : Str), x = .str ⟨#[c]⟩ ∧ y = .str z ∧ Q (.bl (decide (c ∈ z.cps.toList))) H
def rNotInA (K : Fg) : R2 := fun x y H Q => rIn K true x y H Q ∨ ∃ (c : Nat) (z : Str), x = .str ⟨#[c]⟩ ∧ y = .str z ∧ Q (.bl (!decide (c ∈ z.cps.toList))) H
theorem lIn {K : Fg} : OPL K (rInA K) (RIn false) := by
  intro x y H h a b c Q re dx dy hr k
  unfold RIn at hr
  split at hr
  · rename_i ds eb
    obtain ⟨x', xs, e1, e2, rfl⟩ := hr
    obtain ⟨p, ys, e3, q, rs⟩ := vw_lst re dy eb
    obtain ⟨rfl, f1⟩ := dx.atom e1
    obtain ⟨rfl, f2⟩ := rs.atoms e2
    exact .inl ⟨p, ys, e3, .inl (.inl (.inl q)), f1, f2, k _ H (Step.refl h H) re (.bl _)⟩
  · rename_i ds eb
    obtain ⟨x', xs, e1, e2, rfl⟩ := hr
    obtain ⟨p, ys, e3, q, rs⟩ := vw_tup dy eb
    obtain ⟨rfl, f1⟩ := dx.atom e1
    obtain ⟨rfl, f2⟩ := rs.atoms e2
    exact .inl ⟨p, ys, e3, .inr q.sq, f1, f2, k _ H (Step.refl h H) re (.bl _)⟩
  · rename_i y' eb
    obtain ⟨kk, rfl, rfl⟩ := hr
    cases dx
    exact .inr ⟨kk, y', rfl, vw_str dy eb, k _ H (Step.refl h H) re (.bl _)⟩
  · exact hr.elim
theorem lNotIn {K : Fg} : OPL K (rNotInA K) (RIn true) := by
  intro x y H h a b c Q re dx dy hr k
  unfold RIn at hr
  split at hr
  · rename_i ds eb
    obtain ⟨x', xs, e1, e2, rfl⟩ := hr
    obtain ⟨p, ys, e3, q, rs⟩ := vw_lst re dy eb
    obtain ⟨rfl, f1⟩ := dx.atom e1
    obtain ⟨rfl, f2⟩ := rs.atoms e2
    exact .inl ⟨p, ys, e3, .inl (.inl (.inl q)), f1, f2, k _ H (Step.refl h H) re (.bl _)⟩
  · rename_i ds eb
    obtain ⟨x', xs, e1, e2, rfl⟩ := hr
    obtain ⟨p, ys, e3, q, rs⟩ := vw_tup dy eb
    obtain ⟨rfl, f1⟩ := dx.atom e1
    obtain ⟨rfl, f2⟩ := rs.atoms e2
    exact .inl ⟨p, ys, e3, .inr q.sq, f1, f2, k _ H (Step.refl h H) re (.bl _)⟩
  · rename_i y' eb
    obtain ⟨kk, rfl, rfl⟩ := hr
    cases dx
    exact .inr ⟨kk, y', rfl, vw_str dy eb, k _ H (Step.refl h H) re (.bl _)⟩
  · exact hr.elim
theorem e_in (ha : PE X a (gE X.K An ga)) (hb : PE X b (gE X.K An gb)) (hm : behindInMarks .In b = false := by rfl) : PE X (.Compare a [.In] [b] pos) (gE X.K An (gBin (RIn false) ga gb)) := e_cmp (op_in_seq.or op_in_sign) lIn ha hb hm
theorem e_notIn (ha : PE X a (gE X.K An ga)) (hb : PE X b (gE X.K An gb)) (hm : behindInMarks .NotIn b = false := by rfl) : PE X (.Compare a [.NotIn] [b] pos) (gE X.K An (gBin (RIn true) ga gb)) := e_cmp (op_notIn_seq.or op_notIn_sign) lNotIn ha hb hm
theorem t_in (ha : PE X a (gE X.K An ga)) (hb : PE X b (gE X.K An gb)) (hm : behindInMarks .In b = false := by rfl) : PT X (.Compare a [.In] [b] pos) (gT X.K An (gB (gBin (RIn false) ga gb))) := t_cmp (op_in_seq.or op_in_sign) lIn ha hb hm
theorem t_notIn (ha : PE X a (gE X.K An ga)) (hb : PE X b (gE X.K An gb)) (hm : behindInMarks .NotIn b = false := by rfl) : PT X (.Compare a [.NotIn] [b] pos) (gT X.K An (gB (gBin (RIn true) ga gb))) := t_cmp (op_notIn_seq.or op_notIn_sign) lNotIn ha hb hm
/-- return a new list that is owned by whoever gets it -/
def sRetO (g : gTA) : gTS := fun N s h => g s h fun ds h1 => ∀ p, h1 p = none → N.rt (.ref p) (put h1 p (.lst ds))
theorem s_retO (he : PE X e (gF X.K An gas)) : PS X (.Return (some e) pos) (gS X.K An (sRetO gas)) := (ps_ret he).imp fun De σ H ⟨s, h, N, re, l, g, m⟩ => by
  refine ⟨s, h, _, re, l, g, fun t ds H1 h1 n s1 re1 p => ?_⟩
  exact m.rt _ H1 _ _ s1 re1 (.ref t) (p t n)
def sRetN : gTS := fun N _ h => N.rt .non h
theorem s_retN : PS X (.Return none pos) (gS X.K An sRetN) := ps_retN.imp fun De σ H ⟨s, h, N, re, l, g, m⟩ => m.rt _ H _ h (Step.refl h H) re .non g
end
abbrev RAddI : R3 := fun h a b c => match vw h a, vw h b with
    | .int i, .int j => c = .int (i + j)
    | _, _ => False
abbrev RMulI : R3 := fun h a b c => match vw h a, vw h b with
    | .int i, .int j => (CMul i j ∨ CMulW i j) ∧ c = .int (i * j)
    | _, _ => False
end Gh

namespace Gh
open PySem PySem.Spec PyProof.Rows L2
section
variable {X : Cx} {An : AN} {a b c e : Expr} {es : List Expr} {ga gb gc : gTE} {gas : gTA} {pos p : Pos}
/-- a, b = a list -/
def tgUnl (n : Nat) (t : gTGs) : gTG := fun d s h P => ∃ ds, d = .lst ds ∧ ds.length = n ∧ t ds s h P
theorem g_unl {t : gTGs} {k n : Nat} (hc : X.calm = true) (h : PGs X es (gGs X.K An t)) (hn : (assignEach es X.env).length = n := by rfl) (hst : (assignEach es X.env).findIdx? (·.1) = none := by rfl) : PG X (.Tuple es k pos) (gG X.K An (tgUnl n t)) := (pg_unl hc h hn hst).imp fun v σ H Q ⟨d, s, h, P, re, l, dv, ⟨ds, e, hl, g⟩, k⟩ => by
  subst e
  cases dv with
  | lst nn t rs => exact ⟨_, _, rfl, .inl (.inl t), by rw [rs.length]; exact hl, ds, s, h, P, re, l, rs, g, k⟩
end
section
variable {P : Program} {w : World} {K : Fg} {mg : Str → Option Value} {base : Heap}
/-- def f(*v) -/
theorem gfunStar {x pv : Str} {st : Stmt} {f : Addr} {fd : FuncData} {N : List Str} {k : Nat} {S : GSpec} {g : gTS} (F : Fun K x x st f fd) (hm : mg x = some (.ref f)) (sc : FnScope N [pv] (defScope st))
    (hb : ∀ (kV doc pm : Value) (an : Option Addr) (cdv ct : Value) (rest : List Value), bindArgs (PySem.W.fnOf x x (defArgs st) (defBody st) (defScope st) .none kV doc pm an cdv ct) ⟨rest, []⟩ = (newTuple rest >>= fun t => pure [(pv, t)]))
    (len : ∀ ds h P, S ds h P → ds.length ≤ sizeLine)
    (hd : ∀ (cdv : Value) (A : Around) (outer : List Env) (s : Shared) (H : Hp) (E : XK), Room k (A.deeper (envOfC x (defScope st) s.heap.objs.size f cdv)) → PSs (cxOf CX0 P w K mg base N x (defScope st) f cdv A outer s H E).nox (defBody st) (gS K AN.top g))
    (hg : ∀ ds h P, S ds h P → g { nx := fun _ h' => P .non h', rt := P } (startG N [.tup ds]) h) : Fc P w K mg base (k + 1) x S := by
  refine ⟨f, ?_, hm, F.kp⟩
  obtain ⟨oc, od, kV, doc, pm, an, cdv, ct, osl, rfl, lk, hcd⟩ := F.ex
  have r : FnR P w K mg base CX0 (k + 1) f _ := StX.fn_star (ps := []) (pv := pv) (sp := GSP K fun ds h P => ∃ ds', ds = [.tup ds'] ∧ S ds' h P) lk hcd sc StX.cxUp_none (fun us rest hl => by
      have e : us = [] := List.eq_nil_of_length_eq_zero hl
      subst e
      exact hb kV doc pm an cdv ct rest) (fun A outer s H vs Q E hr ⟨ds, h, P, re, dv, ⟨ds', e, hs⟩, kk⟩ => by
      subst e
      refine ⟨_, (hd cdv A outer s H E hr).nox, ?_⟩
      exact ⟨startG N [.tup ds'], h, _, re, Sl.begin dv trivial, hg ds' h P hs, fun σ' H' s' h' st re' l' p => kk _ H' _ h' st re' .non p, fun v H' d h' st re' dv' p => kk v H' d h' st re' dv' p, fun _ _ _ _ _ _ _ z => z.elim, fun _ _ _ _ _ _ _ z => z.elim⟩)
  refine r.imp fun vs H Q E ⟨ds, h, P, re, dv, hs, kk⟩ => ⟨[], vs, rfl, rfl, by rw [dv.length]; exact len _ _ _ hs, fun p n => ?_⟩
  exact ⟨[.tup ds], h, P, re.new n, .cons (dv.tup_new re n) .nil, ⟨ds, rfl, hs⟩, fun v H' d h' st re' dv' p => kk v H' d h' ((Step.new n).trans st) re' dv' p⟩
end
end Gh

namespace Gh
open PySem PySem.Spec PyProof.Rows L2
section
variable {X : Cx} {An : AN} {a b c e o : Expr} {es : List Expr} {ga gb gc go : gTE} {gas : gTA} {pos p : Pos}
/-- a new list that is owned -/
def gOw (g : gTA) : gTE := fun s h P => g s h fun ds h1 => ∀ p, h1 p = none → P (.ref p) (put h1 p (.lst ds))
theorem e_ow {g : gTA} (he : PE X e (gF X.K An g)) : PE X e (gE X.K An (gOw g)) := he.imp fun σ H Q ⟨s, h, P, re, l, g, k⟩ => ⟨s, h, _, re, l, g, fun p ds H' h1 n s1 re1 pp => k _ H' _ _ s1 re1 (.ref p) (pp p n)⟩

/-! ### methods of texts -/
def M1L (K : Fg) (r : V → List V → Hp → VK → Prop) (R : GH → Str → D → D → Prop) : Prop := ∀ z y H h b c Q, Rel K h H → Dv K h H y b → R h z b c → (∀ v H', Step h H h H' → Rel K h H' → Dv K h H' v c → Q v H') → r (.str z) [y] H Q
def gM1 (R : GH → Str → D → D → Prop) (go gb : gTE) : gTE := fun s h P => go s h fun a h1 => ∃ z, a = .str z ∧ gb s h1 fun b h2 => ∃ c, R h2 z b c ∧ P c h2
theorem m1_of {K : Fg} {An : AN} {r : V → List V → Hp → VK → Prop} {R : GH → Str → D → D → Prop} (o : M1L K r R) (σ : L2.St) (H : Hp) (Q : VK) (q : gE K An (gM1 R go gb) σ H Q) : tM1 r (gE K An go) (gE K An gb) σ H Q := by
  obtain ⟨s, h, P, re, l, g, k⟩ := q
  refine ⟨s, h, _, re, l, g, fun x H1 a h1 s1 re1 dx ⟨z, ea, g1⟩ => ?_⟩
  subst ea
  cases dx
  refine ⟨⟨z, rfl⟩, s, h1, _, re1, l.mono s1, g1, fun y H2 b h2 s2 re2 dy ⟨c, hc, p⟩ => ?_⟩
  exact o z y H2 h2 b c Q re2 dy hc fun v H' st re3 dv => k v H' c h2 ((s1.trans s2).trans st) re3 dv p
theorem Dvs.strs {K : Fg} {h : GH} {H : Hp} : ∀ {ys : List Str} {vs : List V}, Dvs K h H vs (ys.map D.str) → vs = ys.map V.str
  | [], _, k => by cases k; rfl
  | n :: r, _, k => by
    cases k with
    | cons a t =>
      cases a
      rw [Dvs.strs t]
      rfl
theorem Dvs.of_strs {K : Fg} {h : GH} {H : Hp} : ∀ ys : List Str, Dvs K h H (ys.map V.str) (ys.map D.str)
  | [] => .nil
  | n :: r => .cons (.str n) (Dvs.of_strs r)
def RJoin : GH → Str → D → D → Prop := fun h a b c => ∃ ys : List Str, (vw h b = .lst (ys.map .str) ∨ vw h b = .tup (ys.map .str)) ∧ (ys.map (·.length)).sum + ys.length * a.length ≤ 16777216 ∧ c = .str (Txt.join a ys)
theorem e_join {apos : Pos} (ho : PE X o (gE X.K An go)) (he : PE X e (gE X.K An gb)) (hs : starEach [e] X.env = [(false, eval e X.env)] := by rfl) (hbase : attributeBase o "join" X.env (eval o X.env) = eval o X.env := by rfl) (hline : (apos.endLine == pos.line) = true := by rfl) :
    PE X (.Call (.Attribute o "join" apos) [e] [] pos) (gE X.K An (gM1 RJoin go gb)) := (pe_join ho he hs hbase hline).imp (m1_of (R := RJoin) (by
  intro z y H h b c Q re dy hr k
  obtain ⟨ys, hv, hz, rfl⟩ := hr
  rcases hv with hv | hv
  · obtain ⟨p, xs, rfl, hx, rs⟩ := vw_lst re dy hv
    have e := rs.strs
    subst e
    exact ⟨z, p, ys, rfl, rfl, .inl (.inl (.inl hx)), hz, k _ H (Step.refl h H) re (.str _)⟩
  · obtain ⟨p, xs, rfl, hx, rs⟩ := vw_tup dy hv
    have e := rs.strs
    subst e
    exact ⟨z, p, ys, rfl, rfl, .inr hx.sq, hz, k _ H (Step.refl h H) re (.str _)⟩))
def RPart : GH → Str → D → D → Prop := fun _ a b c => ∃ y, b = .str y ∧ (y.length == 0) = false ∧ a.length ≤ sizeLine ∧ c = .tup [.str (Txt.partition a y).1, .str (Txt.partition a y).2.1, .str (Txt.partition a y).2.2]
theorem e_partition {apos : Pos} (ho : PE X o (gE X.K An go)) (he : PE X e (gE X.K An gb)) (hs : starEach [e] X.env = [(false, eval e X.env)] := by rfl) (hbase : attributeBase o "partition" X.env (eval o X.env) = eval o X.env := by rfl) (hline : (apos.endLine == pos.line) = true := by rfl) :
    PE X (.Call (.Attribute o "partition" apos) [e] [] pos) (gE X.K An (gM1 RPart go gb)) := (pe_partition ho he hs hbase hline).imp (m1_of (R := RPart) (by
  intro z y H h b c Q re dy hr k
  obtain ⟨y', rfl, h1, h2, rfl⟩ := hr
  cases dy
  exact ⟨z, y', rfl, rfl, h1, h2, fun p n => k _ _ (Step.new n) (re.new n) (Dvs.tup_new re (.cons (.str _) (.cons (.str _) (.cons (.str _) .nil))) n)⟩))
def RStarts : GH → Str → D → D → Prop := fun _ a b c => ∃ y, b = .str y ∧ c = .bl (Txt.startswith a y)
def REnds : GH → Str → D → D → Prop := fun _ a b c => ∃ y, b = .str y ∧ c = .bl (Txt.endswith a y)
theorem e_startswith {apos : Pos} (ho : PE X o (gE X.K An go)) (he : PE X e (gE X.K An gb)) (hs : starEach [e] X.env = [(false, eval e X.env)] := by rfl) (hbase : attributeBase o "startswith" X.env (eval o X.env) = eval o X.env := by rfl) (hline : (apos.endLine == pos.line) = true := by rfl) :
    PE X (.Call (.Attribute o "startswith" apos) [e] [] pos) (gE X.K An (gM1 RStarts go gb)) := (pe_m1 F.slot_str_startswith F.type_str_startswith mt_startswith ho he hs hbase hline).imp (m1_of (R := RStarts) (by
  intro z y H h b c Q re dy hr k
  obtain ⟨y', rfl, rfl⟩ := hr
  cases dy
  exact ⟨z, y', rfl, rfl, k _ H (Step.refl h H) re (.bl _)⟩))
theorem e_endswith {apos : Pos} (ho : PE X o (gE X.K An go)) (he : PE X e (gE X.K An gb)) (hs : starEach [e] X.env = [(false, eval e X.env)] := by rfl) (hbase : attributeBase o "endswith" X.env (eval o X.env) = eval o X.env := by rfl) (hline : (apos.endLine == pos.line) = true := by rfl) :
    PE X (.Call (.Attribute o "endswith" apos) [e] [] pos) (gE X.K An (gM1 REnds go gb)) := (pe_m1 F.slot_str_endswith F.type_str_endswith mt_endswith ho he hs hbase hline).imp (m1_of (R := REnds) (by
  intro z y H h b c Q re dy hr k
  obtain ⟨y', rfl, rfl⟩ := hr
  cases dy
  exact ⟨z, y', rfl, rfl, k _ H (Step.refl h H) re (.bl _)⟩))
def fSplit (go gb : gTE) : gTA := fun s h P => go s h fun a h1 => ∃ z, a = .str z ∧ gb s h1 fun b h2 => ∃ y, b = .str y ∧ (y.length == 0) = false ∧ z.length + 2 ≤ sizeLine ∧ P ((Txt.split z y).map .str) h2
theorem f_split {apos : Pos} (ho : PE X o (gE X.K An go)) (he : PE X e (gE X.K An gb)) (hs : starEach [e] X.env = [(false, eval e X.env)] := by rfl) (hbase : attributeBase o "split" X.env (eval o X.env) = eval o X.env := by rfl) (hline : (apos.endLine == pos.line) = true := by rfl) :
    PE X (.Call (.Attribute o "split" apos) [e] [] pos) (gF X.K An (fSplit go gb)) := (pe_split ho he hs hbase hline).imp fun σ H Q ⟨s, h, P, re, l, g, k⟩ => by
  refine ⟨s, h, _, re, l, g, fun x H1 a h1 s1 re1 dx ⟨z, ea, g1⟩ => ?_⟩
  subst ea
  cases dx
  refine ⟨⟨z, rfl⟩, s, h1, _, re1, l.mono s1, g1, fun y H2 b h2 s2 re2 dy ⟨y', eb, h3, h4, p⟩ => ?_⟩
  subst eb
  cases dy
  exact ⟨z, y', rfl, rfl, h3, h4, fun t n => k t _ _ h2 (re2.free n) ((s1.trans s2).trans (Step.newO n)) (re2.newO n (Dvs.of_strs _)) p⟩
/-! ### str(n), max, min -/
def RStr : RC2 := fun h ds c => ∃ i : Int, ds = [.int i] ∧ i.natAbs.log2 < 1920 ∧ c = .str (toString i)
theorem e_strc (hm : X.mg "str" = none) (ha : PA X [e] (gA X.K An gas)) (hg : Gl X "str" := by rfl) (he : starEach [e] X.env = [(false, eval e X.env)] := by rfl) : PE X (.Call (.Name "str" p) [e] [] pos) (gE X.K An (gCB RStr gas)) :=
  e_ct call_str_int (by
    intro vs H h ds c Q re dvx hr k
    obtain ⟨i, rfl, hz, rfl⟩ := hr
    obtain ⟨v, rfl, dv⟩ := dvs1 dvx
    cases dv
    exact ⟨i, rfl, hz, k _ H (Step.refl h H) re (.str _)⟩) hm (by decide +kernel) ha hg (by decide) (by decide) he (by rfl)
def RMax : RC2 := fun h ds c => ∃ i j : Int, ds = [.int i, .int j] ∧ c = .int (if j > i then j else i)
def RMin : RC2 := fun h ds c => ∃ i j : Int, ds = [.int i, .int j] ∧ c = .int (if j < i then j else i)
theorem e_max (hc : X.calm = true) (hm : X.mg "max" = none) (ha : PA X [a, b] (gA X.K An gas)) (hg : Gl X "max" := by rfl) (he : starEach [a, b] X.env = (false, eval a X.env) :: starEach [b] X.env := by rfl) (hpl : (backTo pos (starEach [b] X.env)).any (·.1) = false := by rfl) : PE X (.Call (.Name "max" p) [a, b] [] pos) (gE X.K An (gCB RMax gas)) :=
  e_cb (call_max2 hc) (by
    intro vs H h ds c Q re dvx hr k
    obtain ⟨i, j, rfl, rfl⟩ := hr
    obtain ⟨v, v', rfl, dv, dw⟩ := dvs2 dvx
    cases dv
    cases dw
    exact ⟨i, j, rfl, k _ H (Step.refl h H) re (.int _)⟩) hm (by decide +kernel) ha hg (by decide) (by decide) he hpl
theorem e_min (hc : X.calm = true) (hm : X.mg "min" = none) (ha : PA X [a, b] (gA X.K An gas)) (hg : Gl X "min" := by rfl) (he : starEach [a, b] X.env = (false, eval a X.env) :: starEach [b] X.env := by rfl) (hpl : (backTo pos (starEach [b] X.env)).any (·.1) = false := by rfl) : PE X (.Call (.Name "min" p) [a, b] [] pos) (gE X.K An (gCB RMin gas)) :=
  e_cb (call_min2 hc) (by
    intro vs H h ds c Q re dvx hr k
    obtain ⟨i, j, rfl, rfl⟩ := hr
    obtain ⟨v, v', rfl, dv, dw⟩ := dvs2 dvx
    cases dv
    cases dw
    exact ⟨i, j, rfl, k _ H (Step.refl h H) re (.int _)⟩) hm (by decide +kernel) ha hg (by decide) (by decide) he hpl
/-! ### list(text) -/
/-! ### comprehensions with several names -/
theorem wipe_at : ∀ (us : List Nat) (τ : L2.St) (j : Nat), (L2.wipe τ us)[j]? = if j < τ.length then (if j ∈ us then some none else τ[j]?) else none
  | [], τ, j => by
    unfold L2.wipe
    by_cases hj : j < τ.length
    · rw [if_pos hj]; simp
    · rw [if_neg hj]; exact List.getElem?_eq_none (by omega)
  | u :: us, τ, j => by
    unfold L2.wipe
    by_cases hj : j < τ.length
    · rw [if_pos hj]
      by_cases hu : u = j
      · subst hu
        rw [List.getElem?_set_self (by rw [wipe_length]; exact hj), if_pos List.mem_cons_self]
      · rw [List.getElem?_set_ne hu, wipe_at us τ j, if_pos hj]
        by_cases hm : j ∈ us
        · rw [if_pos hm, if_pos (List.mem_cons_of_mem _ hm)]
        · rw [if_neg hm, if_neg (by simp; exact ⟨fun z => hu z.symm, hm⟩)]
    · rw [if_neg hj]
      exact List.getElem?_eq_none (by rw [List.length_set, wipe_length]; omega)
theorem wipe_set2 {τ : L2.St} {i : Nat} {v : Option V} {vs : List Nat} (hi : i ∈ vs) : L2.wipe (τ.set i v) vs = L2.wipe τ vs := by
  apply List.ext_getElem?
  intro j
  rw [wipe_at, wipe_at, List.length_set]
  by_cases hj : j < τ.length
  · rw [if_pos hj, if_pos hj]
    by_cases hm : j ∈ vs
    · rw [if_pos hm, if_pos hm]
    · rw [if_neg hm, if_neg hm, List.getElem?_set_ne (fun z => hm (by rw [← z]; exact hi))]
  · rw [if_neg hj, if_neg hj]
theorem wipe_wipe (τ : L2.St) (vs : List Nat) : L2.wipe (L2.wipe τ vs) vs = L2.wipe τ vs := by
  apply List.ext_getElem?
  intro j
  rw [wipe_at, wipe_length]
  by_cases hj : j < τ.length
  · rw [if_pos hj, wipe_at, if_pos hj]
    by_cases hm : j ∈ vs
    · rw [if_pos hm, if_pos hm]
    · rw [if_neg hm]
  · rw [if_neg hj, wipe_at, if_neg hj]
def TgsOk (K : Fg) (An : AN) (vs : List Nat) (g : TGs) (gt : gTGs) : Prop := ∀ vl τ H ds s h (P : GS → GH → Prop) (Q : L2.St → Hp → Prop) σ, Rel K h H → Sl K An h H τ s → L2.wipe τ vs = L2.wipe σ vs → Dvs K h H vl ds → gt ds s h P →
  (∀ σ' H' s' h', L2.wipe σ' vs = L2.wipe σ vs → Step h H h' H' → Rel K h' H' → Sl K An h' H' σ' s' → P s' h' → Q σ' H') → g vl τ H Q
theorem tgsOk_nil {K : Fg} {An : AN} {vs : List Nat} : TgsOk K An vs gNil tgNil := fun vl τ H ds s h P Q σ re l ew dv ⟨e, g⟩ k => by
  subst e
  cases dv
  exact ⟨rfl, k _ H _ h ew (Step.refl h H) re l g⟩
theorem tgsOk_cons {K : Fg} {An : AN} {vs : List Nat} {i : Nat} {g : TGs} {gt : gTGs} (hi : i ∈ vs) (r : TgsOk K An vs g gt) : TgsOk K An vs (gCons (gName i) g) (tgCons (tgName i) gt) := fun vl τ H ds s h P Q σ re l ew dv ⟨d, rr, e, gg⟩ k => by
  subst e
  cases dv with
  | cons a t => exact ⟨_, _, rfl, r _ _ H _ _ h P Q σ re (l.set a) (by rw [wipe_set2 hi]; exact ew) t gg k⟩
theorem tgOk_tup {K : Fg} {An : AN} {vs : List Nat} {n : Nat} {g : TGs} {gt : gTGs} (r : TgsOk K An vs g gt) : TgOk K An vs (L2.gTup K n g) (tgTup n gt) := fun v σ H d s h P Q re l dv ⟨ds, e, hl, gg⟩ k => by
  subst e
  cases dv with
  | tup t rs => exact ⟨_, _, rfl, t.sq, by rw [rs.length]; exact hl, r _ _ H _ _ h P Q σ re l (wipe_wipe σ vs) rs gg k⟩
/-- [elt for (x, y, ..) in iter], with a test or none -/
theorem f_lcT {tg iter elt : Expr} {ifs : List Expr} {scope : Scope} {own : List (Str × Nat)} {n : Nat} {g : TGs} {gt : gTGs} {gi : gTA} {tt : TT} {gct : gTT} {ge : gTE} (hc : X.calm = true) (hN : X.N.Nodup) (hi : PI X tg iter (gI X.K An gi)) (ok : BlkOk X.N X.env.scope scope own) (tok : TgsOk X.K An (own.map (·.2)) g gt)
    (hg : ∀ (s : Shared) (H : Hp) (C : Addr) (cl : List (Str × Addr)) (fp : List Addr), PG (X.blk s H scope (compEnvC scope cl C X.env) fp) tg (L2.gTup X.K n g))
    (ht : ∀ (s : Shared) (H : Hp) (C : Addr) (cl : List (Str × Addr)) (fp : List Addr), PTs (X.blk s H scope (compEnvC scope cl C X.env) fp) ifs (gT X.K An gct))
    (he : ∀ (s : Shared) (H : Hp) (C : Addr) (cl : List (Str × Addr)) (fp : List Addr), PE (X.blk s H scope (compEnvC scope cl C X.env) fp) elt (gE X.K An ge)) (hs : ∀ x, foldedSetIterable iter X.env x = pure x := by intro _; rfl) :
    PE X (.ListComp elt [⟨tg, iter, ifs, 0⟩] scope pos) (gF X.K An (fLc gi (tgTup n gt) gct ge (own.map (·.2)))) :=
  (pe_lc (own := own) hc hN hi ok hg ht he hs).imp (lc_of (tgOk_tup tok) fun _ _ _ q => q)
theorem ts_yes {ifs : Unit} : PTs X [] (gT X.K An gYes) := ⟨fun pins s σ H Q I ⟨sl, h, P, re, l, g, k⟩ => pts_nil.run pins s σ H Q I (k true H h (Step.refl h H) re g)⟩
end
end Gh

namespace Gh
open PySem PySem.Spec PyProof.Rows L2
section
variable {prog : Program} {w : World} {A : Around} {E : Value → Shared → Prop} {s : Shared}
theorem walksFrom (hh : A.handled = none) (I ax : Addr) (hne : ax ≠ I) (items : Array Value) (j : Nat) (hj : j ≤ items.size) :
    Walks prog w A I [I, ax] [I] (items.size - j) (fun i v => items[j + i]? = some v) (fun i h => h.IsListIter I ax (j + i) ∧ h.IsList ax items) where
  sub := fun b hb => by simp at hb; simp [hb]
  frame := fun _ _ _ st hk => ⟨st.1.at fun o e => hk I (by simp) o e, st.2.at fun o e => hk ax (by simp) o e⟩
  item := fun i s Q E hi st hQ => by
    have hlt : j + i < items.size := by omega
    refine wpAny_pyNext_list_item st.1 st.2 (x := items[j + i]) (by simp [hlt]) fun h' hit' hs' => ?_
    exact hQ _ h' s.toks (by simp [hlt]) ⟨hit', st.2.extBut hs'.extBut hne⟩ fun b o hb e => hs'.extBut b o (fun h => hb (by simp [h])) e
  done := fun s Q E st hQ => wpAny_pyNext_list_end hh st.1 st.2 (by simp; omega) fun h' he' => hQ h' s.toks fun b o hb e => he' b o (fun h => hb (by simp [h])) e
  self := fun _ _ _ _ st hQ => wpAny_pyIter_listiter st.1 hQ
theorem star_items {l : Addr} {its : List Value} {i : Nat} {Q : List Value → Shared → Prop} (hh : A.handled = none) (hl : s.heap.IsList l its.toArray) (hi : i ≤ its.length) (hz : its.length ≤ sizeLine)
    (hQ : ∀ (h' : Heap) (tk : Nat), (∀ b o, s.heap.get? b = some o → h'.get? b = some o) → Q (its.take i ++ [.ref h'.objs.size]) { s with heap := h'.push { cls := .type "list", data := .seq (its.drop i).toArray }, toks := tk }) :
    wpAny (model prog w) A (unpackItems (.ref l) (i + 1) (some i)) Q E s := by
  have hlt : l ≠ s.heap.objs.size := by obtain ⟨o, ho, _⟩ := hl; exact Nat.ne_of_lt (Heap.lt_size ho)
  have hsz : its.toArray.size = its.length := by simp
  unfold unpackItems
  refine wpAny_bind ?_
  unfold notIterableAtAll
  refine wpAny_bind (wpAny_specialOf hl.typeIs slot_list_iter.lookup ?_)
  refine wpAny_pure ?_
  simp only [Bool.false_eq_true, if_false]
  refine wpAny_bind (wpAny_holding (wpAny_pyIter_list hl ?_))
  refine wpAny_bind (wpAny_holding (PySem.W.kun_draw hlt i 0 _ _ ⟨_, Heap.get?_push_size _ rfl, rfl, rfl⟩ (hl.push _) (by omega) fun h₁ hit₁ hs₁ => ?_))
  have hall : List.take i (List.drop 0 its.toArray.toList) = its.take i := by rw [List.drop_zero]
  rw [hall]
  rw [if_neg (by rw [List.length_take]; omega)]
  have hl₁ : h₁.IsList l its.toArray := (hl.push _).extBut hs₁.extBut hlt
  have k1 : ∀ b o, s.heap.get? b = some o → h₁.get? b = some o := fun b o e => hs₁.extBut b o (Nat.ne_of_lt (Heap.lt_size e)) (Heap.get?_push_of_some _ e)
  have W := (walksFrom (prog := prog) (w := w) (A := A.in1) hh s.heap.objs.size l hlt its.toArray i (by omega)).toS
  have hit₁' : h₁.IsListIter s.heap.objs.size l (i + 0) := by have := hit₁; rw [Nat.zero_add] at this; exact this
  have hb0 : ∀ b ∈ [s.heap.objs.size, l], b < h₁.objs.size := fun b hb => by
    rcases List.mem_cons.mp hb with z | z
    · subst z
      obtain ⟨o, ho, _⟩ := hit₁
      exact Heap.lt_size ho
    · rcases List.mem_cons.mp z with z | z
      · subst z
        obtain ⟨o, ho, _⟩ := hl₁
        exact Heap.lt_size ho
      · cases z
  refine wpAny_bind (wpAny_holding (wpAny_collect_iter (T := "list_iterator") (by simp) W (fun k st hs => hs.1.typeIs) ⟨hit₁', hl₁⟩ hb0 (by simp) (fun s' acc mv ia => ?_) (by omega)))
  have ea : acc.toList = its.drop i := by
    apply List.ext_getElem?
    intro k
    have h1 : acc.toList.length = its.length - i := by rw [Array.length_toList, ia.1, hsz]
    by_cases hk : k < its.length - i
    · have h2 : k < acc.size := by rw [ia.1, hsz]; exact hk
      have h3 := ia.2 k acc[k] (by simp [h2])
      rw [List.getElem?_drop, Array.getElem?_toList]
      rw [Array.getElem?_eq_getElem h2]
      simpa using h3.symm
    · rw [List.getElem?_eq_none (by omega), List.getElem?_eq_none (by rw [List.length_drop]; omega)]
  rw [ea]
  have e0 : i + 1 - 1 - i = 0 := by omega
  simp only [e0]
  rw [if_neg (by omega)]
  have e1 : (its.drop i).take ((its.drop i).length - 0) = its.drop i := by rw [Nat.sub_zero]; exact List.take_of_length_le (Nat.le_refl _)
  have e2 : (its.drop i).drop ((its.drop i).length - 0) = [] := by rw [Nat.sub_zero]; exact List.drop_eq_nil_of_le (Nat.le_refl _)
  rw [e1, e2]
  refine wpAny_bind (wpAny_newList ?_ (by rw [List.length_drop]; omega))
  refine wpAny_pure ?_
  rw [List.append_nil]
  obtain ⟨hp, hg, hd, ho, ht⟩ := mv
  obtain ⟨h2, g2, d2, t2, o2⟩ := s'
  simp only at hp hg hd ho ht ⊢
  subst hg hd ho
  exact hQ h2 t2 fun b o e => hp b o (by simp; exact Nat.ne_of_lt (Heap.lt_size e)) (k1 b o e)
end
section
variable {X : Cx} {An : AN} {e : Expr} {es : List Expr} {pos p : Pos}
/-- a, .., *r = a list -/
def gStarL (K : Fg) (i : Nat) (t : TGs) : TG := fun v σ H Q => ∃ a xs, v = .ref a ∧ SqL K H a xs ∧ i ≤ xs.length ∧ ∀ l, H l = none → t (xs.take i ++ [.ref l]) σ (upd H l (.lst (xs.drop i))) Q
theorem pg_starL {k i : Nat} {t : TGs} (hc : X.calm = true) (h : PGs X es t) (hn : (assignEach es X.env).length = i + 1 := by rfl) (hst : (assignEach es X.env).findIdx? (·.1) = some i := by rfl) : PG X (.Tuple es k pos) (gStarL X.K i t) := by
  refine ⟨fun pins s σ H v u Q I r hw => ?_⟩
  obtain ⟨a, xs, e1, hq, hl, hw⟩ := hw
  subst e1
  cases r
  obtain ⟨its, rv, pl, hz⟩ := I.list hq
  have hlen := rv.length
  have hl' : s.heap.IsList a its.toArray := by
    obtain ⟨o, m, e, c, d, q⟩ := pl
    exact ⟨o, e, c, m, q⟩
  rw [PyProof.Rows.assign_Tuple]
  refine wpAny_bind (wpAny_standAt ?_)
  unfold unpack
  rw [hn, hst]
  refine wpAny_bind (wpAny_holding (star_items (I.ok.hd hc) hl' (by omega) (by omega) fun h' tk hk => ?_))
  have I1 : Inv X pins σ H { s with heap := h', toks := tk } := I.kept (t' := tk) hk
  have I2 := I1.lnew (t' := tk) (rv.drop i) (by rw [List.length_drop]; omega)
  exact h.run pins _ σ _ _ _ Q I2 ((rv.take i).append (.cons (show RelV (.ref h'.objs.size) (.ref h'.objs.size) from rfl) .nil)) (hw _ I1.fresh)
theorem gs_star {t : gTG} {u : gTGs} (h1 : PG X e (gG X.K An t)) (h2 : PGs X es (gGs X.K An u)) (hs : (assignEach (.Starred e p :: es) X.env).map (·.2) = assign e X.env :: (assignEach es X.env).map (·.2) := by rfl) : PGs X (.Starred e p :: es) (gGs X.K An (tgCons t u)) := by
  have r : PGs X (.Starred e p :: es) (gCons (gG X.K An t) (gGs X.K An u)) := by
    refine ⟨fun pins s σ H vs us Q I r h => ?_⟩
    obtain ⟨v, vr, e1, h⟩ := h
    subst e1
    cases r with
    | cons r rr =>
      rw [hs]
      refine assignInOrder_cons (thn (h1.run pins s σ H _ _ _ I r h) fun _ s1 ⟨σ1, H1, I1, q1⟩ => ?_)
      exact h2.run pins s1 σ1 H1 _ _ Q I1 rr q1
  exact r.imp fun v σ H Q ⟨d, s, h, P, re, l, dv, ⟨d0, r0, e, g⟩, k⟩ => by
    subst e
    cases dv with
    | cons a r =>
      refine ⟨_, _, rfl, d0, s, h, _, re, l, a, g, fun σ' H' s' h' st re' l' q => ?_⟩
      exact ⟨r0, s', h', P, re', l', r.mono st, q, fun σ2 H2 s2 h2 st2 re2 l2 p => k σ2 H2 s2 h2 (st.trans st2) re2 l2 p⟩
def tgStarL (i : Nat) (t : gTGs) : gTG := fun d s h P => ∃ ds, vw h d = .lst ds ∧ i ≤ ds.length ∧ t (ds.take i ++ [.lst (ds.drop i)]) s h P
theorem Dvs.app {K : Fg} {h : GH} {H : Hp} : ∀ {vs : List V} {ds : List D} {us : List V} {es : List D}, Dvs K h H vs ds → Dvs K h H us es → Dvs K h H (vs ++ us) (ds ++ es)
  | _, _, _, _, .nil, k => k
  | _, _, _, _, .cons a r, k => .cons a (Dvs.app r k)
theorem g_starL {t : gTGs} {k i : Nat} (hc : X.calm = true) (h : PGs X es (gGs X.K An t)) (hn : (assignEach es X.env).length = i + 1 := by rfl) (hst : (assignEach es X.env).findIdx? (·.1) = some i := by rfl) : PG X (.Tuple es k pos) (gG X.K An (tgStarL i t)) := (pg_starL hc h hn hst).imp fun v σ H Q ⟨d, s, h, P, re, l, dv, ⟨ds, e, hl, g⟩, k⟩ => by
  obtain ⟨q, xs, rfl, hx, rs⟩ := vw_lst re dv e
  refine ⟨q, xs, rfl, .inl (.inl hx), by rw [rs.length]; exact hl, fun lp n => ?_⟩
  have st : Step h H h (upd H lp (.lst (xs.drop i))) := Step.new n
  have dl : Dv X.K h (upd H lp (.lst (xs.drop i))) (.ref lp) (.lst (ds.drop i)) := by
    have r1 := (re.newO n (Dvs.drop i rs)).letgo put_same
    rw [put_del (re.free n)] at r1
    exact r1
  exact ⟨ds.take i ++ [.lst (ds.drop i)], s, h, P, re.new n, l.mono st, Dvs.app ((Dvs.take i rs).mono st) (.cons dl .nil), g, fun σ2 H2 s2 h2 st2 re2 l2 p => k σ2 H2 s2 h2 (st.trans st2) re2 l2 p⟩
end
end Gh

namespace Gh
open PySem PySem.Spec PyProof.Rows L2
/-- some owned objects are let go -/
def dels (h : GH) : List Addr → GH
  | [] => h
  | p :: ps => dels (del h p) ps
theorem Step.dels {h : GH} {H : Hp} : ∀ ps : List Addr, Step h H (Gh.dels h ps) H
  | [] => Step.refl h H
  | p :: ps => (Step.del (p := p)).trans (Step.dels ps)
theorem Rel.dels {K : Fg} {h : GH} {H : Hp} (r : Rel K h H) : ∀ ps : List Addr, Rel K (Gh.dels h ps) H
  | [] => r
  | p :: ps => Rel.dels (r.del (p := p)) ps
theorem del_put2 {h : GH} {p q : Addr} {a b : GO} (hp : h p = none) (hq : h q = none) (ne : q ≠ p) : dels (del (put (put h p a) q b) q) [p] = h := by
  show del (del (put (put h p a) q b) q) p = h
  funext c
  by_cases z : c = p
  · subst z; rw [del_same, hp]
  · rw [del_ne z]
    by_cases y : c = q
    · subst y; rw [del_same, hq]
    · rw [del_ne y, put_ne y, put_ne z]
section
variable {X : Cx} {An : AN} {e : Expr} {ga : gTE} {pos : Pos}
/-- return; owned lists may be let go -/
def sRetX (ga : gTE) : gTS := fun N s h => ga s h fun d h1 => ∃ ps : List Addr, N.rt d (dels h1 ps) ∨ ∃ p ds, d = .ref p ∧ h1 p = some (.lst ds) ∧ N.rt (.lst ds) (dels (del h1 p) ps)
theorem s_retX (he : PE X e (gE X.K An ga)) : PS X (.Return (some e) pos) (gS X.K An (sRetX ga)) := (ps_ret he).imp fun De σ H ⟨s, h, N, re, l, g, m⟩ => by
  refine ⟨s, h, _, re, l, g, fun v H1 d h1 s1 re1 dv ⟨ps, pp⟩ => ?_⟩
  rcases pp with pp | ⟨q, ds, rfl, e, pp⟩
  · exact m.rt v H1 d _ (s1.trans (Step.dels ps)) (re1.dels ps) (dv.mono (Step.dels ps)) pp
  · cases dv
    exact m.rt _ H1 _ _ ((s1.trans Step.del).trans (Step.dels ps)) (re1.del.dels ps) ((re1.letgo e).mono (Step.dels ps)) pp
/-- [elt for (x, y, ..) in iter], with a test or none -/
theorem f_lcU {tg iter elt : Expr} {ifs : List Expr} {scope : Scope} (own : List (Str × Nat)) {n : Nat} {g : TGs} {gt : gTGs} {gi : gTA} {gct : gTT} {ge : gTE} (hc : X.calm = true) (hN : X.N.Nodup) (hi : PI X tg iter (gI X.K An gi)) (ok : BlkOk X.N X.env.scope scope own) (tok : TgsOk X.K An (own.map (·.2)) g gt)
    (hg : ∀ (s : Shared) (H : Hp) (C : Addr) (cl : List (Str × Addr)) (fp : List Addr), PG (X.blk s H scope (compEnvC scope cl C X.env) fp) tg (L2.gTup X.K n g))
    (ht : ∀ (s : Shared) (H : Hp) (C : Addr) (cl : List (Str × Addr)) (fp : List Addr), PTs (X.blk s H scope (compEnvC scope cl C X.env) fp) ifs (gT X.K An gct))
    (he : ∀ (s : Shared) (H : Hp) (C : Addr) (cl : List (Str × Addr)) (fp : List Addr), PE (X.blk s H scope (compEnvC scope cl C X.env) fp) elt (gE X.K An ge)) (hs : ∀ x, foldedSetIterable iter X.env x = pure x := by intro _; rfl) :
    PE X (.ListComp elt [⟨tg, iter, ifs, 0⟩] scope pos) (gF X.K An (fLc gi (tgTup n gt) gct ge (own.map (·.2)))) :=
  (pe_lc (own := own) hc hN hi ok hg ht he hs).imp (lc_of (tgOk_tup tok) fun _ _ _ q => q)
theorem s_lcU {tg iter elt : Expr} {ifs : List Expr} {scope : Scope} {y : Str} {j : Nat} {py spos : Pos} (own : List (Str × Nat)) {n : Nat} {g : TGs} {gt : gTGs} {gi : gTA} {gct : gTT} {ge : gTE} (hc : X.calm = true) (hN : X.N.Nodup) (hy : X.N[j]? = some y) (hyl : X.env.scope.names.lookup y = some .local)
    (hsw : swapsWith (.ListComp elt [⟨tg, iter, ifs, 0⟩] scope pos) (some (.Name y py)) spos.line X.env = pure true) (hi : PI X tg iter (gI X.K An gi)) (ok : BlkOk X.N X.env.scope scope own) (tok : TgsOk X.K An (own.map (·.2)) g gt)
    (hg : ∀ (s : Shared) (H : Hp) (C : Addr) (cl : List (Str × Addr)) (fp : List Addr), PG (X.blk s H scope (compEnvC scope cl C X.env) fp) tg (L2.gTup X.K n g))
    (ht : ∀ (s : Shared) (H : Hp) (C : Addr) (cl : List (Str × Addr)) (fp : List Addr), PTs (X.blk s H scope (compEnvC scope cl C X.env) fp) ifs (gT X.K An gct))
    (he : ∀ (s : Shared) (H : Hp) (C : Addr) (cl : List (Str × Addr)) (fp : List Addr), PE (X.blk s H scope (compEnvC scope cl C X.env) fp) elt (gE X.K An ge)) (hs : ∀ x, foldedSetIterable iter X.env x = pure x := by intro _; rfl) :
    PS X (.Assign [.Name y py] (.ListComp elt [⟨tg, iter, ifs, 0⟩] scope pos) spos) (gS X.K An (sOwn j (fLc gi (tgTup n gt) gct ge (own.map (·.2))))) :=
  (ps_setLc (own := own) hc hN hy hyl hsw hi ok hg ht he hs).imp fun De σ H q => lc_of (tgOk_tup tok) (fun _ _ _ q => q) σ H _ (own_of De σ H q)
theorem s_lcUF {tg iter elt : Expr} {ifs : List Expr} {scope : Scope} {y : Str} {j : Nat} {py spos : Pos} (own : List (Str × Nat)) {n : Nat} {g : TGs} {gt : gTGs} {gi : gTA} {gct : gTT} {ge : gTE} (hc : X.calm = true) (hN : X.N.Nodup) (hy : X.N[j]? = some y) (hyl : X.env.scope.names.lookup y = some .local)
    (hsw : swapsWith (.ListComp elt [⟨tg, iter, ifs, 0⟩] scope pos) (some (.Name y py)) spos.line X.env = pure true) (hi : PI X tg iter (gI X.K An gi)) (ok : BlkOk X.N X.env.scope scope own) (tok : TgsOk X.K An (own.map (·.2)) g gt)
    (hg : ∀ (s : Shared) (H : Hp) (C : Addr) (cl : List (Str × Addr)) (fp : List Addr), PG (X.blk s H scope (compEnvC scope cl C X.env) fp) tg (L2.gTup X.K n g))
    (ht : ∀ (s : Shared) (H : Hp) (C : Addr) (cl : List (Str × Addr)) (fp : List Addr), PTs (X.blk s H scope (compEnvC scope cl C X.env) fp) ifs (gT X.K An gct))
    (he : ∀ (s : Shared) (H : Hp) (C : Addr) (cl : List (Str × Addr)) (fp : List Addr), PE (X.blk s H scope (compEnvC scope cl C X.env) fp) elt (gE X.K An ge)) (hs : ∀ x, foldedSetIterable iter X.env x = pure x := by intro _; rfl) :
    PS X (.Assign [.Name y py] (.ListComp elt [⟨tg, iter, ifs, 0⟩] scope pos) spos) (gS X.K An (sSet j (gFr (fLc gi (tgTup n gt) gct ge (own.map (·.2)))))) :=
  (ps_setLc (own := own) hc hN hy hyl hsw hi ok hg ht he hs).imp fun De σ H q => lc_of (tgOk_tup tok) (fun _ _ _ q => q) σ H _ (setF_of De σ H q)
end
end Gh

namespace Gh
open PySem PySem.Spec PyProof.Rows L2
section
variable {X : Cx} {An : AN} {a b e : Expr} {ga gb : gTE} {gas : gTA} {pos : Pos}
/-- an owned list is let go -/
def gLet (ga : gTE) : gTE := fun s h P => ga s h fun d h1 => ∃ p ds, d = .ref p ∧ h1 p = some (.lst ds) ∧ P (.lst ds) (del h1 p)
theorem e_let (he : PE X e (gE X.K An ga)) : PE X e (gE X.K An (gLet ga)) := he.imp fun σ H Q ⟨s, h, P, re, l, g, k⟩ => by
  refine ⟨s, h, _, re, l, g, fun v H1 d h1 s1 re1 dv ⟨p, ds, ed, ep, pp⟩ => ?_⟩
  subst ed
  cases dv
  exact k _ H1 _ _ (s1.trans Step.del) re1.del (re1.letgo ep) pp
/-- list + list, owned -/
def fAdd (ga gb : gTE) : gTA := fun s h P => ga s h fun a h1 => gb s h1 fun b h2 => ∃ xs ys, vw h2 a = .lst xs ∧ vw h2 b = .lst ys ∧ xs.length + ys.length ≤ sizeLine ∧ P (xs ++ ys) h2
theorem f_add (ha : PE X a (gE X.K An ga)) (hb : PE X b (gE X.K An gb)) : PE X (.BinOp a .Add b pos) (gF X.K An (fAdd ga gb)) := (pe_op op_cat ha hb).imp fun σ H Q ⟨s, h, P, re, l, g, k⟩ => by
  refine ⟨s, h, _, re, l, g, fun x H1 d1 h1 s1 re1 dx g1 => ?_⟩
  refine ⟨s, h1, _, re1, l.mono s1, g1, fun y H2 d2 h2 s2 re2 dy ⟨xs, ys, e1, e2, hz, pp⟩ => ?_⟩
  obtain ⟨p, us, rfl, hp, rs⟩ := vw_lst re2 (dx.mono s2) e1
  obtain ⟨q, vs, rfl, hq, rt⟩ := vw_lst re2 dy e2
  refine ⟨p, q, us, vs, rfl, rfl, hp, hq, by rw [rs.length, rt.length]; exact hz, fun t n => ?_⟩
  exact k t _ _ h2 (re2.free n) ((s1.trans s2).trans (Step.newO n)) (re2.newO n (rs.append rt)) pp
/-- f'..' -/
def gFmt (ga : gTE) : gTE := fun s h P => ga s h fun d h1 => (∃ y, d = .str y ∧ y.length ≤ sizeLine ∧ P (.str y) h1) ∨ ∃ i : Int, d = .int i ∧ i.natAbs.log2 < 1920 ∧ P (.str (toString i)) h1
theorem j_fmt (he : PE X e (gE X.K An ga)) : PE X (.FormattedValue e (-1) none pos) (gE X.K An (gFmt ga)) := (pe_fmt he).imp fun σ H Q ⟨s, h, P, re, l, g, k⟩ => by
  refine ⟨s, h, _, re, l, g, fun v H1 d h1 s1 re1 dv p => ?_⟩
  rcases p with ⟨y, rfl, hz, p⟩ | ⟨i, rfl, hz, p⟩
  · cases dv
    exact .inl ⟨y, rfl, hz, k _ H1 _ h1 s1 re1 (.str _) p⟩
  · cases dv
    exact .inr ⟨i, rfl, hz, k _ H1 _ h1 s1 re1 (.str _) p⟩
def gJs : List gTE → Str → GS → GH → (Str → GH → Prop) → Prop
  | [], acc, _, h, P => P acc h
  | g :: gs, acc, s, h, P => g s h fun d h1 => ∃ y : Str, d = .str y ∧ (acc ++ y).length ≤ sizeLine ∧ gJs gs (acc ++ y) s h1 P
def gJoined (gs : List gTE) : gTE := fun s h P => gJs gs Str.empty s h fun x h1 => P (.str x) h1
theorem js_of {K : Fg} {An : AN} : ∀ (gs : List gTE) (acc : Str) (σ : L2.St) (H : Hp) (Q : Str → Hp → Prop) (s : GS) (h : GH) (P : Str → GH → Prop), Rel K h H → Sl K An h H σ s → gJs gs acc s h P → (∀ x H' h', Step h H h' H' → Rel K h' H' → P x h' → Q x H') → tJs (gs.map (gE K An)) acc σ H Q
  | [], acc, σ, H, Q, s, h, P, re, l, g, k => k acc H h (Step.refl h H) re g
  | g0 :: gs, acc, σ, H, Q, s, h, P, re, l, g, k => by
    refine ⟨s, h, _, re, l, g, fun v H1 d h1 s1 re1 dv ⟨y, ed, hz, g1⟩ => ?_⟩
    subst ed
    cases dv
    exact ⟨y, rfl, hz, js_of gs (acc ++ y) σ H1 Q s h1 P re1 (l.mono s1) g1 fun x H' h' s2 re2 p => k x H' h' (s1.trans s2) re2 p⟩
theorem j_nil : PJ X [] (([] : List gTE).map (gE X.K An)) := .nil
theorem j_cons {es : List Expr} {gs : List gTE} (h : PE X e (gE X.K An ga)) (r : PJ X es (gs.map (gE X.K An))) : PJ X (e :: es) ((ga :: gs).map (gE X.K An)) := .cons h r
theorem e_joined {v1 v2 : Expr} {rest : List Expr} {gs : List gTE} (h : PJ X (v1 :: v2 :: rest) (gs.map (gE X.K An))) : PE X (.JoinedStr (v1 :: v2 :: rest) pos) (gE X.K An (gJoined gs)) := (pe_joined h).imp fun σ H Q ⟨s, h, P, re, l, g, k⟩ =>
  js_of gs Str.empty σ H _ s h _ re l g fun x H' h' s1 re1 p => k _ H' _ h' s1 re1 (.str x) p
end
end Gh
namespace Gh
open PySem PySem.Spec PyProof.Rows L2
section
variable {X : Cx} {An : AN} {pos : Pos}
theorem e_globI {x : Str} {i : Int} (hm : ∃ t, X.mg x = some (.int i t)) (hg : Gl X x := by rfl) (hd : (x == ("__debug__" : Str)) = false := by decide) : PE X (.Name x pos) (gE X.K An (gC (.int i))) := by
  obtain ⟨t, hm⟩ := hm
  exact e_glob (v := .int i) hm ⟨t, rfl⟩ (fun _ _ => .int i) hg hd
theorem e_globS {x z : Str} (hm : ∃ t, X.mg x = some (.str z t)) (hg : Gl X x := by rfl) (hd : (x == ("__debug__" : Str)) = false := by decide) : PE X (.Name x pos) (gE X.K An (gC (.str z))) := by
  obtain ⟨t, hm⟩ := hm
  exact e_glob (v := .str z) hm ⟨t, rfl⟩ (fun _ _ => .str z) hg hd
end
end Gh

set_option maxHeartbeats 1000000
namespace Gh
open PySem L2
/-! ## numbers -/
theorem fmod_lt (a : Int) {b : Int} (h : b ≠ 0) : (a.fmod b).natAbs < b.natAbs := by
  rcases Int.lt_or_gt_of_ne h with hb | hb
  · have e1 := Int.fmod_eq_emod (a := a) (b := b)
    have e2 := Int.emod_nonneg a h
    have e3 : a % b < (b.natAbs : Nat) := Int.emod_lt a h
    rw [e1]
    split
    · rename_i hc
      rcases hc with hc | hc
      · omega
      · have := Int.emod_eq_zero_of_dvd hc
        rw [this]
        omega
    · rename_i hc
      have : a % b ≠ 0 := fun z => hc (.inr (Int.dvd_of_emod_eq_zero z))
      omega
  · have e1 := Int.fmod_nonneg_of_pos a hb
    have e2 := Int.fmod_lt_of_pos a hb
    omega
theorem gcd_fmod (a b : Int) : Int.gcd b (a.fmod b) = Int.gcd a b := by
  rw [Int.fmod_def, Int.gcd_sub_mul_left_right, Int.gcd_comm]
/-- bits -/
theorem log2_of {n b : Nat} (h : n < 2 ^ b) (h0 : 0 < b) : n.log2 < b := PySem.Flt.log2_lt_of h0 h
theorem pow_mono {a b : Nat} (h : a ≤ b) : 2 ^ a ≤ 2 ^ b := Nat.pow_le_pow_right (by decide) h
theorem lt_pow_mono {n a b : Nat} (hn : n < 2 ^ a) (h : a ≤ b) : n < 2 ^ b := Nat.lt_of_lt_of_le hn (pow_mono h)
/-! ## the gcd -/
def S_law_gcd : GSpec := fun ds h P => ∃ a b : Int, ds = [.int a, .int b] ∧ P (.int (Int.gcd a b : Nat)) h
def g_law_gcd : gTS := (sSeq (sWhile (gB (gBin (REq true) (gVar 1) (gC (.int 0))))
  (sPar 0 1 (aCons (gVar 1) (aCons (gBin RMod (gVar 0) (gVar 1)) aNil))))
 (sRet (gCB RAbs (aCons (gVar 0) aNil))))
theorem pure_law_gcd (ds : List D) (h : GH) (P : GP) (hs : S_law_gcd ds h P) : g_law_gcd { nx := fun _ h' => P .non h', rt := P } (startG ["_law_a", "_law_b"] ds) h := by
  obtain ⟨a, b, rfl, hp⟩ := hs
  show sWhile _ _ _ [some (.int a), some (.int b)] h
  refine ⟨fun m s h' => h' = h ∧ ∃ x y : Int, s = [some (.int x), some (.int y)] ∧ Int.gcd x y = Int.gcd a b ∧ m = y.natAbs, ⟨_, rfl, a, b, rfl, rfl, rfl⟩, fun m s h' ⟨eh, x, y, es, hg, em⟩ => ?_⟩
  subst eh es em
  refine ⟨_, rfl, _, rfl, _, rfl, ?_⟩
  refine ite2 (fun c => ?_) (fun c => ?_)
  · have hy : y ≠ 0 := by simpa using c
    refine ⟨_, rfl, _, rfl, _, rfl, _, ⟨hy, rfl⟩, _, _, rfl, _, fmod_lt x hy, rfl, y, x.fmod y, rfl, ?_, rfl⟩
    rw [gcd_fmod, hg]
  · have hy : y = 0 := by simpa using c
    subst hy
    refine ⟨_, rfl, _, ⟨_, rfl, rfl⟩, .inl ?_⟩
    have e : x.natAbs = Int.gcd a b := by rw [← hg]; simp
    show P (.int (x.natAbs : Nat)) h'
    rw [e]
    exact hp
theorem len_law_gcd (ds : List D) (h : GH) (P : GP) (hs : S_law_gcd ds h P) : ds.length = 2 := by obtain ⟨a, b, rfl, _⟩ := hs; rfl

/-! ## lowest terms -/
def low (a b : Int) : Int × Int := (a / (Int.gcd a b : Nat), b / (Int.gcd a b : Nat))
def fr (p : Int × Int) : D := .tup [.int p.1, .int p.2]
theorem gcd_div {a b : Int} (hb : b ≠ 0) (hz : b.natAbs < 2 ^ 9000) : ((Int.gcd a b : Nat) : Int) ≠ 0 ∧ ((Int.gcd a b : Nat) : Int).natAbs.log2 < 9000 := by
  have h1 := Int.gcd_pos_of_ne_zero_right a hb
  have h2 := Int.gcd_le_natAbs_right a hb
  refine ⟨by omega, ?_⟩
  rw [Int.natAbs_natCast]
  exact log2_of (Nat.lt_of_le_of_lt h2 hz) (by decide)
def S_law_low : GSpec := fun ds h P => ∃ a b : Int, ds = [.int a, .int b] ∧ b ≠ 0 ∧ b.natAbs < 2 ^ 9000 ∧ P (fr (low a b)) h
def g_law_low : gTS := (sSeq (sSet 2 (gCall S_law_gcd (aCons (gVar 0) (aCons (gVar 1) aNil))))
 (sRet (gTup (aCons (gBin RFdiv (gVar 0) (gVar 2)) (aCons (gBin RFdiv (gVar 1) (gVar 2)) aNil)))))
theorem two_le : (2 : Nat) ≤ sizeLine := by decide
theorem pure_law_low (ds : List D) (h : GH) (P : GP) (hs : S_law_low ds h P) : g_law_low { nx := fun _ h' => P .non h', rt := P } (startG ["_law_a", "_law_b", "_law_by"] ds) h := by
  obtain ⟨a, b, rfl, hb, hz, hp⟩ := hs
  have hg := gcd_div (a := a) hb hz
  refine ⟨_, rfl, _, rfl, a, b, rfl, ?_⟩
  refine ⟨_, rfl, _, rfl, _, ⟨hg, rfl⟩, _, rfl, _, rfl, _, ⟨hg, rfl⟩, two_le, .inl ?_⟩
  rw [Int.fdiv_eq_ediv_of_nonneg _ (by omega), Int.fdiv_eq_ediv_of_nonneg _ (by omega)]
  exact hp
theorem len_law_low (ds : List D) (h : GH) (P : GP) (hs : S_law_low ds h P) : ds.length = 2 := by obtain ⟨a, b, rfl, _⟩ := hs; rfl
/-! ## the bag -/
theorem RIx_own {h : GH} {p : Addr} {ds : List D} {i : Int} {c : D} (e : h p = some (.lst ds)) (a : atI ds i = some c) : RIx h (.ref p) (.int i) c := by
  unfold RIx
  rw [vw_own e]
  exact a
theorem RLen_own {h : GH} {p : Addr} {ds : List D} (e : h p = some (.lst ds)) : RLen h [.ref p] (.int (ds.length : Nat)) := by
  refine ⟨_, rfl, ?_⟩
  rw [vw_own e]
def S_law_pull : GSpec := fun ds h P => ∃ (b : Addr) (m : Int), ds = [.ref b, .int m] ∧ h b = some .bag ∧ 0 < m ∧ m.natAbs.log2 < 9000 ∧ ∀ k : Int, 0 ≤ k → k < m → P (.int k) h
def g_law_pull : gTS := (sSeq (sIf (gAnd (gB (gBin (REq false) (gBin RIx (gVar 0) (gC (.int 2))) (gC (.int 0)))) (gB (gBin (RCmp fun i j => decide (i < j)) (gBin RIx (gVar 0) (gC (.int 1))) (gCB RLen (aCons (gBin RIx (gVar 0) (gC (.int 0))) aNil)))))
  (sSeq (sSet 2 (gBin RIx (gBin RIx (gVar 0) (gC (.int 0))) (gBin RIx (gVar 0) (gC (.int 1)))))
 (sSeq (sAsg (gBin RAdd (gBin RIx (gVar 0) (gC (.int 1))) (gC (.int 1))) (tgSub (gVar 0) (gC (.int 1))))
 (sIf (gB (gBin (RCmp fun i j => decide (j ≤ i)) (gVar 2) (gBin RPow (gC (.int 10)) (gC (.int 18)))))
  (sAsg (gVar 2) (tgSub (gVar 0) (gC (.int 2))))
  (sAsg (gBin RMod (gBin RAdd (gBin RAdd (gBin RMul (gBin RIx (gVar 0) (gC (.int 3))) (gC (.int 40014))) (gBin RMul (gBin RMod (gVar 2) (gC (.int 2147483549))) (gC (.int 31)))) (gC (.int 11))) (gC (.int 2147483647))) (tgSub (gVar 0) (gC (.int 3)))))))
  sNext)
 (sSeq (sIf (gB (gBin (RCmp fun i j => decide (j < i)) (gBin RIx (gVar 0) (gC (.int 2))) (gC (.int 0))))
  (sSeq (sSet 3 (gBin RMod (gBin RIx (gVar 0) (gC (.int 2))) (gVar 1)))
 (sSeq (sAsg (gBin RFdiv (gBin RIx (gVar 0) (gC (.int 2))) (gVar 1)) (tgSub (gVar 0) (gC (.int 2))))
 (sRet (gVar 3))))
  sNext)
 (sSeq (sAsg (gBin RAdd (gBin RIx (gVar 0) (gC (.int 4))) (gC (.int 1))) (tgSub (gVar 0) (gC (.int 4))))
 (sSeq (sSet 4 (gBin RMod (gBin RAdd (gBin RIx (gVar 0) (gC (.int 3))) (gBin RMul (gBin RIx (gVar 0) (gC (.int 4))) (gC (.int 7919)))) (gC (.int 2147483647))))
 (sSeq (sAsg (gBin RMod (gBin RAdd (gBin RAdd (gBin RMul (gBin RMod (gBin RMul (gVar 4) (gVar 4)) (gC (.int 2147483629))) (gVar 4)) (gBin RMul (gC (.int 30029)) (gVar 4))) (gC (.int 1013))) (gC (.int 2147483647))) (tgSub (gVar 0) (gC (.int 3))))
 (sRet (gBin RMod (gBin RAdd (gBin RFdiv (gBin RIx (gVar 0) (gC (.int 3))) (gC (.int 67))) (gBin RMul (gBin RMod (gBin RIx (gVar 0) (gC (.int 3))) (gC (.int 8191))) (gC (.int 59)))) (gVar 1))))))))
def bagL (ns : List Int) (i g s c : Int) : GO := .lst [.lst (ns.map .int), .int i, .int g, .int s, .int c]
def BagIn (ns : List Int) (i g s c : Int) : Prop := ns.length ≤ 63 ∧ 0 ≤ i ∧ i ≤ (ns.length : Int) ∧ 0 ≤ g ∧ 0 ≤ s ∧ s < 2147483647 ∧ 0 ≤ c
theorem atI_ok {ns : List Int} {i : Int} (h0 : 0 ≤ i) (h1 : i < (ns.length : Int)) : ∃ v : Int, atI (ns.map D.int) i = some (.int v) := by
  have hi : i.toNat < ns.length := by omega
  have e : ((i.toNat : Nat) : Int) = i := by omega
  have q : atI (ns.map D.int) ((i.toNat : Nat) : Int) = some (.int ns[i.toNat]) := atI_nat (by rw [List.getElem?_map, List.getElem?_eq_getElem hi]; rfl)
  rw [e] at q
  exact ⟨_, q⟩
theorem fmod_in (a : Int) {b : Int} (h : 0 < b) : 0 ≤ a.fmod b ∧ a.fmod b < b := ⟨Int.fmod_nonneg_of_pos a h, Int.fmod_lt_of_pos a h⟩
theorem mulR {i j : Int} (h1 : -(2 ^ 64) < j) (h2 : j < 2 ^ 64) : CMul i j ∨ CMulW i j := .inl (.inr ⟨h1, h2⟩)
theorem mulL {i j : Int} (h1 : -(2 ^ 64) < i) (h2 : i < 2 ^ 64) : CMul i j ∨ CMulW i j := .inl (.inl ⟨h1, h2⟩)
/-- behind the first if -/
theorem pull_tail (b : Addr) (m : Int) (h : GH) (ns : List Int) (i g s c : Int) (hm : 0 < m) (hz : m.natAbs.log2 < 9000) (B : BagIn ns i g s c) (o2 : Option D) (N : GEnds)
    (hN : ∀ (i g s c k : Int), BagIn ns i g s c → 0 ≤ k → k < m → N.rt (.int k) (put h b (bagL ns i g s c))) :
    (sSeq (sIf (gB (gBin (RCmp fun i j => decide (j < i)) (gBin RIx (gVar 0) (gC (.int 2))) (gC (.int 0))))
  (sSeq (sSet 3 (gBin RMod (gBin RIx (gVar 0) (gC (.int 2))) (gVar 1)))
 (sSeq (sAsg (gBin RFdiv (gBin RIx (gVar 0) (gC (.int 2))) (gVar 1)) (tgSub (gVar 0) (gC (.int 2))))
 (sRet (gVar 3))))
  sNext)
 (sSeq (sAsg (gBin RAdd (gBin RIx (gVar 0) (gC (.int 4))) (gC (.int 1))) (tgSub (gVar 0) (gC (.int 4))))
 (sSeq (sSet 4 (gBin RMod (gBin RAdd (gBin RIx (gVar 0) (gC (.int 3))) (gBin RMul (gBin RIx (gVar 0) (gC (.int 4))) (gC (.int 7919)))) (gC (.int 2147483647))))
 (sSeq (sAsg (gBin RMod (gBin RAdd (gBin RAdd (gBin RMul (gBin RMod (gBin RMul (gVar 4) (gVar 4)) (gC (.int 2147483629))) (gVar 4)) (gBin RMul (gC (.int 30029)) (gVar 4))) (gC (.int 1013))) (gC (.int 2147483647))) (tgSub (gVar 0) (gC (.int 3))))
 (sRet (gBin RMod (gBin RAdd (gBin RFdiv (gBin RIx (gVar 0) (gC (.int 3))) (gC (.int 67))) (gBin RMul (gBin RMod (gBin RIx (gVar 0) (gC (.int 3))) (gC (.int 8191))) (gC (.int 59)))) (gVar 1)))))))
    N [some (.ref b), some (.int m), o2, none, none] (put h b (bagL ns i g s c)) := by
  obtain ⟨b1, b2, b3, b4, b5, b6, b7⟩ := B
  refine ⟨_, rfl, _, RIx_own put_same rfl, _, rfl, _, rfl, ?_⟩
  refine ite2 (fun cg => ?_) (fun cg => ?_)
  · have hg : 0 < g := by simpa using cg
    have hk := fmod_in g hm
    refine ⟨_, rfl, _, RIx_own put_same rfl, _, rfl, _, ⟨by omega, rfl⟩, ?_⟩
    refine ⟨_, rfl, _, RIx_own put_same rfl, _, rfl, _, ⟨⟨by omega, hz⟩, rfl⟩, ?_⟩
    refine ⟨_, rfl, _, rfl, _, _, _, rfl, put_same, rfl, ?_⟩
    refine ⟨_, rfl, .inl ?_⟩
    rw [put_put]
    refine hN i (g.fdiv m) s c _ ⟨b1, b2, b3, ?_, b5, b6, b7⟩ hk.1 hk.2
    rw [Int.fdiv_eq_ediv_of_nonneg _ (by omega)]
    exact Int.ediv_nonneg b4 (by omega)
  · refine ⟨_, rfl, _, RIx_own put_same rfl, _, rfl, ?_⟩
    refine ⟨_, rfl, _, rfl, _, _, _, rfl, put_same, rfl, ?_⟩
    rw [put_put]
    refine ⟨_, rfl, _, RIx_own put_same rfl, _, rfl, _, RIx_own put_same rfl, _, ⟨mulR (by decide) (by decide), rfl⟩, _, rfl, _, ⟨by decide, rfl⟩, ?_⟩
    have hsd := fmod_in (s + (c + 1) * 7919) (show (0 : Int) < 2147483647 by decide)
    generalize (s + (c + 1) * 7919).fmod 2147483647 = sd at hsd
    have hq := fmod_in (sd * sd) (show (0 : Int) < 2147483629 by decide)
    refine ⟨_, rfl, _, rfl, _, ⟨mulR (by omega) (by omega), rfl⟩, _, ⟨by decide, rfl⟩, _, rfl, _, ⟨mulR (by omega) (by omega), rfl⟩, _, rfl, _, ⟨mulL (by decide) (by decide), rfl⟩, _, rfl, _, rfl, _, ⟨by decide, rfl⟩, ?_⟩
    refine ⟨_, rfl, _, rfl, _, _, _, rfl, put_same, rfl, ?_⟩
    rw [put_put]
    generalize hw : ((sd * sd).fmod 2147483629 * sd + 30029 * sd + 1013) = w
    have hs2 := fmod_in w (show (0 : Int) < 2147483647 by decide)
    refine ⟨_, rfl, _, RIx_own put_same rfl, _, ⟨⟨by decide, by decide +kernel⟩, rfl⟩, _, rfl, _, RIx_own put_same rfl, _, ⟨by decide, rfl⟩, _, ⟨mulR (by decide) (by decide), rfl⟩, _, rfl, _, rfl, _, ⟨by omega, rfl⟩, .inl ?_⟩
    have hk := fmod_in ((w.fmod 2147483647).fdiv 67 + (w.fmod 2147483647).fmod 8191 * 59) hm
    exact hN i g (w.fmod 2147483647) (c + 1) _ ⟨b1, b2, b3, b4, hs2.1, hs2.2, by omega⟩ hk.1 hk.2

theorem RLen_lst {h : GH} {ds : List D} : RLen h [.lst ds] (.int (ds.length : Nat)) := ⟨_, rfl, rfl⟩
theorem pure_law_pull0 (b : Addr) (m : Int) (h : GH) (ns : List Int) (i g s c : Int) (hm : 0 < m) (hz : m.natAbs.log2 < 9000) (B : BagIn ns i g s c) (N : GEnds)
    (hN : ∀ (i g s c k : Int), BagIn ns i g s c → 0 ≤ k → k < m → N.rt (.int k) (put h b (bagL ns i g s c))) :
    g_law_pull N [some (.ref b), some (.int m), none, none, none] (put h b (bagL ns i g s c)) := by
  have B0 := B
  obtain ⟨b1, b2, b3, b4, b5, b6, b7⟩ := B
  refine ⟨_, rfl, _, RIx_own put_same rfl, _, rfl, _, rfl, ?_⟩
  refine ite2 (fun c1 => ?_) (fun c1 => ?_)
  · refine ⟨_, rfl, _, RIx_own put_same rfl, _, rfl, _, RIx_own put_same rfl, _, RLen_lst, _, rfl, _, rfl, ?_⟩
    refine ite2 (fun c2 => ?_) (fun c2 => ?_)
    · have hi : i < (ns.length : Int) := by simpa using c2
      obtain ⟨v, hv⟩ := atI_ok b2 hi
      refine ⟨_, rfl, _, RIx_own put_same rfl, _, rfl, _, RIx_own put_same rfl, _, hv, ?_⟩
      refine ⟨_, rfl, _, RIx_own put_same rfl, _, rfl, ?_⟩
      refine ⟨_, rfl, _, rfl, _, _, _, rfl, put_same, rfl, ?_⟩
      rw [put_put]
      refine ⟨_, rfl, _, ⟨⟨by decide, by decide, by decide⟩, rfl⟩, _, rfl, _, rfl, ?_⟩
      refine ite2 (fun c3 => ?_) (fun c3 => ?_)
      · have hv : (10 : Int) ^ 18 ≤ v := by simpa using c3
        refine ⟨_, rfl, _, rfl, _, rfl, _, _, _, rfl, put_same, rfl, ?_⟩
        rw [put_put]
        exact pull_tail b m h ns (i + 1) v s c hm hz ⟨b1, by omega, by omega, by omega, b5, b6, b7⟩ _ N hN
      · refine ⟨_, rfl, _, RIx_own put_same rfl, _, ⟨mulR (by decide) (by decide), rfl⟩, _, rfl, _, ⟨by decide, rfl⟩, _, ⟨mulR (by decide) (by decide), rfl⟩, _, rfl, _, rfl, _, ⟨by decide, rfl⟩, ?_⟩
        refine ⟨_, rfl, _, rfl, _, _, _, rfl, put_same, rfl, ?_⟩
        rw [put_put]
        have hs2 := fmod_in (s * 40014 + v.fmod 2147483549 * 31 + 11) (show (0 : Int) < 2147483647 by decide)
        exact pull_tail b m h ns (i + 1) g _ c hm hz ⟨b1, by omega, by omega, b4, hs2.1, hs2.2, b7⟩ _ N hN
    · exact pull_tail b m h ns i g s c hm hz B0 _ N hN
  · refine iteF ?_
    exact pull_tail b m h ns i g s c hm hz B0 _ N hN
theorem len_law_pull (ds : List D) (h : GH) (P : GP) (hs : S_law_pull ds h P) : ds.length = 2 := by obtain ⟨a, b, rfl, _⟩ := hs; rfl
/-- the same domain -/
theorem Step.dom {h h1 : GH} {H : Hp} (e : ∀ a, h a = none → h1 a = none) : Step h H h1 H := ⟨fun _ _ _ _ q => q, fun a z => .inl fun y => z (e a y)⟩
theorem put_none {h : GH} {b : Addr} {g : GO} (e : h b ≠ none) (a : Addr) : h a = none ↔ put h b g a = none := by
  by_cases z : a = b
  · subst z
    rw [put_same]
    exact ⟨fun y => absurd y e, fun y => nomatch y⟩
  · rw [put_ne z]
theorem Dvs.ints {K : Fg} {h : GH} {H : Hp} : ∀ ns : List Int, Dvs K h H (ns.map V.int) (ns.map D.int)
  | [] => .nil
  | n :: r => .cons (.int n) (Dvs.ints r)
theorem Dvs.of_ints {K : Fg} {h : GH} {H : Hp} : ∀ {ns : List Int} {vs : List V}, Dvs K h H vs (ns.map D.int) → vs = ns.map V.int
  | [], _, k => by cases k; rfl
  | n :: r, _, k => by
    cases k with
    | cons a t =>
      cases a
      rw [Dvs.of_ints t]
      rfl
/-- the bag is opened -/
theorem bag_open {K : Fg} {h : GH} {H : Hp} {b : Addr} (re : Rel K h H) (e : h b = some .bag) : ∃ ns i g s c, BagIn ns i g s c ∧ Rel K (put h b (bagL ns i g s c)) H := by
  obtain ⟨l, ns, i, g, s, c, q, nl, ql, r⟩ := re b _ e
  refine ⟨ns, i, g, s, c, r, fun a u z => ?_⟩
  have st : Step h H (put h b (bagL ns i g s c)) H := Step.dom fun a y => (put_none (by rw [e]; simp) a).mp y
  by_cases hb : a = b
  · subst hb
    rw [put_same] at z
    cases z
    refine ⟨_, q, .cons (.lst (st.free nl ql) ql (Dvs.ints ns)) (.cons (.int i) (.cons (.int g) (.cons (.int s) (.cons (.int c) .nil))))⟩
  · rw [put_ne hb] at z
    exact (re a u z).mono st fun o q => q
/-- the bag is shut -/
theorem bag_shut {K : Fg} {h : GH} {H : Hp} {b : Addr} {ns : List Int} {i g s c : Int} (e : h b = some .bag) (B : BagIn ns i g s c) (re : Rel K (put h b (bagL ns i g s c)) H) : Rel K h H := fun a u z => by
  have st : Step (put h b (bagL ns i g s c)) H h H := Step.dom fun a y => (put_none (by rw [e]; simp) a).mpr y
  by_cases hb : a = b
  · subst hb
    rw [e] at z
    cases z
    obtain ⟨xs, q, rs⟩ := re a _ put_same
    cases rs with
    | cons a1 r =>
      cases a1 with
      | lst nl ql rl =>
        cases r with
        | cons a2 r =>
          cases a2
          cases r with
          | cons a3 r =>
            cases a3
            cases r with
            | cons a4 r =>
              cases a4
              cases r with
              | cons a5 r =>
                cases a5
                cases r
                have := Dvs.of_ints rl
                subst this
                exact ⟨_, ns, i, g, s, c, q, st.free nl ql, ql, B⟩
  · exact (re a u (by rw [put_ne hb]; exact z)).mono st fun o q => q
section
variable {P : Program} {w : World} {K : Fg} {mg : Str → Option Value} {base : Heap}
/-- the def that draws -/
theorem gfun_pull {st : Stmt} {f : Addr} {fd : FuncData} {k : Nat} (F : Fun K "_law_pull" "_law_pull" st f fd) (hm : mg "_law_pull" = some (.ref f)) (b : Binds K fd ["_law_bag_here", "_law_many"] []) (sc : FnScope ["_law_bag_here", "_law_many", "_law_cell", "_law_digit", "_law_seed"] ["_law_bag_here", "_law_many"] (defScope st))
    (hd : ∀ (cdv : Value) (A : Around) (outer : List Env) (s : Shared) (H : Hp) (E : XK), Room k (A.deeper (PyProof.Rows.envOfC "_law_pull" (defScope st) s.heap.objs.size f cdv)) → PSs (cxOf CX0 P w K mg base ["_law_bag_here", "_law_many", "_law_cell", "_law_digit", "_law_seed"] "_law_pull" (defScope st) f cdv A outer s H E).nox (defBody st) (gS K AN.top g_law_pull)) :
    Fc P w K mg base (k + 1) "_law_pull" S_law_pull := by
  refine ⟨f, ?_, hm, F.kp⟩
  have ok : FnOk P w K mg base CX0 (k + 1) f fd ["_law_bag_here", "_law_many"] (GSP K S_law_pull) := by
    refine F.ok sc (fun vs H Q E ⟨ds, h, P, re, dv, s, _⟩ => by rw [dv.length]; exact len_law_pull _ _ _ s) (fun cdv A outer s H vs Q E hr ⟨ds, h, P, re, dv, ⟨bb, m, e1, e2, h0, hz, hp⟩, kk⟩ => ⟨_, hd cdv A outer s H E hr, ?_⟩)
    subst e1
    obtain ⟨ns, i, g, sa, c, B, re1⟩ := bag_open re e2
    have st : Step h H (put h bb (bagL ns i g sa c)) H := Step.dom fun a y => (put_none (by rw [e2]; simp) a).mp y
    refine ⟨[some (.ref bb), some (.int m), none, none, none], put h bb (bagL ns i g sa c), { nx := fun _ _ => False, rt := fun d h' => ∃ i g s c k, BagIn ns i g s c ∧ 0 ≤ k ∧ k < m ∧ d = .int k ∧ h' = put h bb (bagL ns i g s c) }, re1, (Sl.begin dv trivial).mono st, pure_law_pull0 bb m h ns i g sa c h0 hz B _ fun i g s c k B' k0 k1 => ⟨i, g, s, c, k, B', k0, k1, rfl, rfl⟩, fun _ _ _ _ _ _ _ z => z.elim, fun v H' d h' st1 re' dv' p => ?_, fun _ _ _ _ _ _ _ z => z.elim, fun _ _ _ _ _ _ _ z => z.elim⟩
    obtain ⟨i', g', s', c', k', B', k0, k1, rfl, rfl⟩ := p
    have st2 : Step (put h bb (bagL ns i' g' s' c')) H' h H' := Step.dom fun a y => (put_none (by rw [e2]; simp) a).mpr y
    cases dv'
    exact kk _ H' _ h ((st.trans st1).trans st2) (bag_shut e2 B' re') (.int _) (hp _ k0 k1)
  exact (ok.raw b .nil).imp fun vs H Q E q => by rw [List.append_nil]; exact q
end
end Gh

set_option maxHeartbeats 1000000
namespace Gh
open PySem L2
/-! ## comprehensions, loops -/
inductive F2 {α β : Type} (R : α → β → Prop) : List α → List β → Prop
  | nil : F2 R [] []
  | cons {a : α} {b : β} {as : List α} {bs : List β} : R a b → F2 R as bs → F2 R (a :: as) (b :: bs)
theorem F2.length {α β : Type} {R : α → β → Prop} : ∀ {as : List α} {bs : List β}, F2 R as bs → as.length = bs.length
  | _, _, .nil => rfl
  | _, _, .cons _ r => by rw [List.length_cons, List.length_cons, F2.length r]
theorem F2.map_eq {α β : Type} {f : α → β} : ∀ {as : List α} {bs : List β}, F2 (fun a b => b = f a) as bs → bs = as.map f
  | _, _, .nil => rfl
  | _, _, .cons e r => by rw [List.map_cons, e, F2.map_eq r]
theorem F2.all {α β : Type} {R : α → β → Prop} {Q : β → Prop} (h : ∀ a b, R a b → Q b) : ∀ {as : List α} {bs : List β}, F2 R as bs → ∀ b ∈ bs, Q b
  | _, _, .nil, _, hb => nomatch hb
  | _, _, .cons e r, b, hb => by
    rcases List.mem_cons.mp hb with z | z
    · subst z; exact h _ _ e
    · exact F2.all h r b z
theorem put_old {h : GH} {p b : Addr} {g g' : GO} (n : h p = none) (e : h b = some g) : put h p g' b = some g := by
  rw [put_ne (fun z => by subst z; rw [n] at e; cases e)]
  exact e
theorem vw_put {h : GH} {p : Addr} {g : GO} {a d : D} (n : h p = none) (e : vw h a = d) (hd : ∀ q, d ≠ .ref q) : vw (put h p g) a = d := by
  cases a with
  | ref q =>
    by_cases z : q = p
    · subst z
      exfalso
      refine hd q ?_
      rw [← e]
      simp only [vw, n]
    · have : put h p g q = h q := put_ne z
      simp only [vw, this] at e ⊢
      exact e
  | _ => exact e
theorem comp_rel {i : Nat} {ge : gTE} {s : GS} {p : Addr} {P : List D → GH → Prop} {R : D → D → Prop} {h : GH} (n : h p = none) : ∀ (ds acc : List D),
    (∀ d ∈ ds, ∀ acc Q, (∀ y, R d y → Q y (put h p (.lst acc))) → ge (s.set i (some d)) (put h p (.lst acc)) Q) → acc.length + ds.length ≤ sizeLine → (∀ ys, F2 R ds ys → P (acc ++ ys) h) → gComp (tgName i) gYes ge s p P ds acc (put h p (.lst acc))
  | [], acc, _, _, k => by
    show P acc (del (put h p (.lst acc)) p)
    rw [put_del n]
    have := k [] .nil
    rwa [List.append_nil] at this
  | d :: r, acc, he, hz, k => by
    refine he d List.mem_cons_self acc _ fun y hy => ⟨by rw [List.length_cons] at hz; omega, put_same, ?_⟩
    rw [put_put]
    refine comp_rel n r (acc ++ [y]) (fun d' hd' => he d' (List.mem_cons_of_mem _ hd')) (by rw [List.length_append, List.length_singleton]; rw [List.length_cons] at hz; omega) fun ys hys => ?_
    rw [List.append_assoc]
    exact k (y :: ys) (.cons hy hys)
/-- a comprehension with a test -/
theorem comp_relIf {i : Nat} {ge : gTE} {gc : gTT} {s : GS} {p : Addr} {P : List D → GH → Prop} {R : D → D → Prop} {t : D → Bool} {h : GH} (n : h p = none) : ∀ (ds acc : List D),
    (∀ d ∈ ds, ∀ acc Q, Q (t d) (put h p (.lst acc)) → gc (s.set i (some d)) (put h p (.lst acc)) Q) →
    (∀ d ∈ ds, t d = true → ∀ acc Q, (∀ y, R d y → Q y (put h p (.lst acc))) → ge (s.set i (some d)) (put h p (.lst acc)) Q) → acc.length + ds.length ≤ sizeLine → (∀ ys, F2 R (ds.filter t) ys → P (acc ++ ys) h) → gComp (tgName i) gc ge s p P ds acc (put h p (.lst acc))
  | [], acc, _, _, _, k => by
    show P acc (del (put h p (.lst acc)) p)
    rw [put_del n]
    have := k [] .nil
    rwa [List.append_nil] at this
  | d :: r, acc, hc, he, hz, k => by
    refine hc d List.mem_cons_self acc _ ?_
    cases ht : t d with
    | true =>
      refine iteT (he d List.mem_cons_self ht acc _ fun y hy => ⟨by rw [List.length_cons] at hz; omega, put_same, ?_⟩)
      rw [put_put]
      refine comp_relIf n r (acc ++ [y]) (fun d' hd' => hc d' (List.mem_cons_of_mem _ hd')) (fun d' hd' => he d' (List.mem_cons_of_mem _ hd')) (by rw [List.length_append, List.length_singleton]; rw [List.length_cons] at hz; omega) fun ys hys => ?_
      rw [List.append_assoc]
      refine k (y :: ys) ?_
      rw [List.filter_cons, if_pos ht]
      exact .cons hy hys
    | false =>
      refine iteF ⟨put_same, ?_⟩
      refine comp_relIf n r acc (fun d' hd' => hc d' (List.mem_cons_of_mem _ hd')) (fun d' hd' => he d' (List.mem_cons_of_mem _ hd')) (by rw [List.length_cons] at hz; omega) fun ys hys => ?_
      refine k ys ?_
      rw [List.filter_cons, if_neg (by rw [ht]; exact Bool.false_ne_true)]
      exact hys
/-! ## the same data -/
def okD : Nat → D → Prop
  | _, .non => True
  | _, .bl _ => True
  | _, .int _ => True
  | _, .str _ => True
  | n + 1, .tup ds => ds.length ≤ sizeLine ∧ ∀ x ∈ ds, okD n x
  | n + 1, .lst ds => ds.length ≤ sizeLine ∧ ∀ x ∈ ds, okD n x
  | _, _ => False
def S_law_same (n : Nat) : GSpec := fun ds h P => ∃ a b d, ds = [a, b] ∧ vw h a = d ∧ vw h b = d ∧ okD n d ∧ P (.bl true) h
def S_prev (S : Nat → GSpec) : Nat → GSpec
  | 0 => fun _ _ _ => False
  | n + 1 => S n
theorem isN_vw {h : GH} {a d : D} (e : vw h a = d) : isN a = isN d := by
  subst e
  cases a with
  | ref p =>
    cases z : h p with
    | none => simp only [vw, z]
    | some g => cases g <;> simp only [vw, z] <;> rfl
  | _ => rfl
theorem kt1 : kitB "list" "list" = some true := by decide +kernel
theorem kt2 : kitB "list" "tuple" = some false := by decide +kernel
theorem kt3 : kitB "tuple" "list" = some false := by decide +kernel
theorem kt4 : kitB "tuple" "tuple" = some true := by decide +kernel
theorem kt5 : kitB "bool" "list" = some false := by decide +kernel
theorem kt6 : kitB "bool" "tuple" = some false := by decide +kernel
theorem kt7 : kitB "int" "list" = some false := by decide +kernel
theorem kt8 : kitB "int" "tuple" = some false := by decide +kernel
theorem kt9 : kitB "str" "list" = some false := by decide +kernel
theorem kt10 : kitB "str" "tuple" = some false := by decide +kernel
theorem kt11 : kitB "bool" "bool" = some true := by decide +kernel
theorem kt12 : kitB "bool" "int" = some true := by decide +kernel
theorem kt13 : kitB "bool" "str" = some false := by decide +kernel
theorem kt14 : kitB "int" "bool" = some false := by decide +kernel
theorem kt15 : kitB "int" "int" = some true := by decide +kernel
theorem kt16 : kitB "int" "str" = some false := by decide +kernel
theorem kt17 : kitB "str" "bool" = some false := by decide +kernel
theorem kt18 : kitB "str" "int" = some false := by decide +kernel
theorem kt19 : kitB "str" "str" = some true := by decide +kernel
theorem isi_of {h : GH} {a d : D} {n t : String} {r : Bool} (e : vw h a = d) (et : tyN d = some t) (ek : kitB t n = some r) : RIsi h [a, .ty n] (.bl r) := ⟨a, n, t, r, rfl, by rw [e]; exact et, ek, rfl⟩
theorem isi2_of {h : GH} {a d : D} {n m t : String} {r1 r2 : Bool} (e : vw h a = d) (et : tyN d = some t) (e1 : kitB t n = some r1) (e2 : kitB t m = some r2) : RIsi2 n m h a (.bl (r1 || r2)) := ⟨t, r1, r2, by rw [e]; exact et, e1, e2, rfl⟩
theorem eq_bl {h : GH} {neg a b : Bool} : REq neg h (.bl a) (.bl b) (.bl (if neg then !(a == b) else (a == b))) := ⟨_, _, rfl, rfl, rfl, rfl, rfl⟩
theorem len_of {h : GH} {a : D} {ds : List D} (e : vw h a = .lst ds ∨ vw h a = .tup ds) : RLen h [a] (.int (ds.length : Nat)) := by
  refine ⟨a, rfl, ?_⟩
  rcases e with e | e <;> rw [e]
theorem ix_of {h : GH} {a : D} {ds : List D} {i : Int} {c : D} (e : vw h a = .lst ds ∨ vw h a = .tup ds) (hc : atI ds i = some c) : RIx h a (.int i) c := by
  unfold RIx
  rcases e with e | e <;> rw [e] <;> exact hc
def g_law_same (S' : GSpec) : gTS := (sSeq (sIf (gOr (gB (gUn (RIsN false) (gVar 1))) (gB (gUn (RIsN false) (gVar 0))))
  (sRet (gAndV (gUn (RIsN false) (gVar 0)) (gUn (RIsN false) (gVar 1))))
  sNext)
 (sSeq (sIf (gB (gUn (RIsi2 "list" "tuple") (gVar 1)))
  (sSeq (sIf (gOr (gB (gBin (REq true) (gCB RIsi (aCons (gVar 0) (aCons (gC (.ty "list")) aNil))) (gCB RIsi (aCons (gVar 1) (aCons (gC (.ty "list")) aNil))))) (gB (gBin (REq true) (gCB RIsi (aCons (gVar 0) (aCons (gC (.ty "tuple")) aNil))) (gCB RIsi (aCons (gVar 1) (aCons (gC (.ty "tuple")) aNil))))))
  (sRet (gC (.bl false)))
  sNext)
 (sRet (gAndV (gBin (REq false) (gCB RLen (aCons (gVar 0) aNil)) (gCB RLen (aCons (gVar 1) aNil))) (gCB (RAll false) (aCons (gFr (fLc (iRg1 (aCons (gCB RLen (aCons (gVar 1) aNil)) aNil)) (tgName 2) gYes (gCall S' (aCons (gBin RIx (gVar 0) (gVar 2)) (aCons (gBin RIx (gVar 1) (gVar 2)) aNil))) [2])) aNil)))))
  sNext)
 (sSeq (sIf (gOr (gB (gBin (REq true) (gCB RIsi (aCons (gVar 1) (aCons (gC (.ty "bool")) aNil))) (gCB RIsi (aCons (gVar 0) (aCons (gC (.ty "bool")) aNil))))) (gB (gBin (REq true) (gCB RIsi (aCons (gVar 1) (aCons (gC (.ty "int")) aNil))) (gCB RIsi (aCons (gVar 0) (aCons (gC (.ty "int")) aNil))))))
  (sRet (gC (.bl false)))
  sNext)
 (sRet (gAndV (gBin (REq false) (gCB RIsi (aCons (gVar 1) (aCons (gC (.ty "str")) aNil))) (gCB RIsi (aCons (gVar 0) (aCons (gC (.ty "str")) aNil)))) (gBin (REq false) (gVar 0) (gVar 1)))))))
theorem un_isN {h : GH} {a : D} {b : Bool} (e : isN a = b) : RIsN false h a (.bl b) := by
  subst e
  rfl
theorem bls_true : ∀ {α : Type} (l : List α), bls (l.map fun _ => D.bl true) = some (l.map fun _ => true)
  | _, [] => rfl
  | _, a :: r => by
    show (bls (r.map fun _ => D.bl true)).map (true :: ·) = _
    rw [bls_true r]
    rfl
theorem same_seq {n : Nat} {a b : D} {xs : List D} {h : GH} {P : GP} {N : GEnds} (h2 : (vw h a = .lst xs ∧ vw h b = .lst xs) ∨ (vw h a = .tup xs ∧ vw h b = .tup xs)) (hz : xs.length ≤ sizeLine) (ho : ∀ x ∈ xs, okD n x) (hN : N.rt (.bl true) h) :
    (sRet (gAndV (gBin (REq false) (gCB RLen (aCons (gVar 0) aNil)) (gCB RLen (aCons (gVar 1) aNil))) (gCB (RAll false) (aCons (gFr (fLc (iRg1 (aCons (gCB RLen (aCons (gVar 1) aNil)) aNil)) (tgName 2) gYes (gCall (S_law_same n) (aCons (gBin RIx (gVar 0) (gVar 2)) (aCons (gBin RIx (gVar 1) (gVar 2)) aNil))) [2])) aNil)))) N [some a, some b, none] h := by
  have ha : vw h a = .lst xs ∨ vw h a = .tup xs := h2.elim (fun z => .inl z.1) (fun z => .inr z.1)
  have hb : vw h b = .lst xs ∨ vw h b = .tup xs := h2.elim (fun z => .inl z.2) (fun z => .inr z.2)
  have hs : sizeLine = 16777216 := sizeLine_eq
  refine ⟨_, rfl, _, len_of ha, _, rfl, _, len_of hb, _, rfl, _, rfl, ?_⟩
  refine ite2 (fun _ => ?_) (fun c => absurd (decide_eq_true rfl) c)
  refine ⟨_, rfl, _, len_of hb, _, rfl, ⟨by omega, by omega⟩, fun p hp => ?_⟩
  have ha2 : ∀ g, vw (put h p g) a = .lst xs ∨ vw (put h p g) a = .tup xs := fun g => ha.elim (fun z => .inl (vw_put hp z (fun _ q => nomatch q))) (fun z => .inr (vw_put hp z (fun _ q => nomatch q)))
  have hb2 : ∀ g, vw (put h p g) b = .lst xs ∨ vw (put h p g) b = .tup xs := fun g => hb.elim (fun z => .inl (vw_put hp z (fun _ q => nomatch q))) (fun z => .inr (vw_put hp z (fun _ q => nomatch q)))
  refine comp_rel (R := fun _ y => y = .bl true) hp _ [] (fun d hd acc Q hq => ?_) (by rw [rangeD_length, List.length_nil]; omega) fun ys hys => ?_
  · obtain ⟨i, hi, rfl⟩ : ∃ i : Nat, i < xs.length ∧ d = .int (0 + (i : Nat)) := by
      obtain ⟨i, hi⟩ := List.mem_iff_getElem?.mp hd
      have := rangeD_get hi
      exact ⟨i, by have := this.1; omega, this.2⟩
    have hx : atI xs (0 + (i : Nat)) = some xs[i] := by
      rw [Int.zero_add]
      exact atI_nat (List.getElem?_eq_getElem hi)
    have hox := ho xs[i] (List.getElem_mem hi)
    refine ⟨_, rfl, _, rfl, _, ix_of (ha2 _) hx, _, rfl, _, rfl, _, ix_of (hb2 _) hx, _, _, vw (put h p (.lst acc)) xs[i], rfl, rfl, rfl, ?_, hq _ rfl⟩
    cases hxi : xs[i] with
    | ref q => rw [hxi] at hox; cases n <;> exact hox.elim
    | _ => rw [hxi] at hox; exact hox
  · have e := F2.map_eq hys
    subst e
    rw [List.nil_append]
    refine ⟨_, ⟨_, _, _, rfl, rfl, bls_true _, rfl⟩, .inl ?_⟩
    have : ∀ l : List D, ((l.map fun _ => true).all id) = true := fun l => by
      rw [List.all_eq_true]
      intro x hx
      obtain ⟨_, _, rfl⟩ := List.mem_map.mp hx
      rfl
    show N.rt (.bl ((List.map (fun _ => true) _).all id)) h
    rw [this]
    exact hN
theorem pure_law_same (n : Nat) (ds : List D) (h : GH) (P : GP) (hs : S_law_same n ds h P) : g_law_same (S_prev S_law_same n) { nx := fun _ h' => P .non h', rt := P } (startG ["_law_found", "_law_due", "_law_k"] ds) h := by
  obtain ⟨a, b, d, rfl, ea, eb, ho, hp⟩ := hs
  show g_law_same _ _ [some a, some b, none] h
  have ia := isN_vw ea
  have ib := isN_vw eb
  cases d with
  | non =>
    refine ⟨_, rfl, _, un_isN ib, _, rfl, ?_⟩
    refine iteT (iteT ?_)
    refine ⟨_, rfl, _, un_isN ia, _, rfl, ?_⟩
    refine iteT ⟨_, rfl, _, un_isN ib, .inl hp⟩
  | ref p => cases n <;> exact ho.elim
  | ty p => cases n <;> exact ho.elim
  | fro p => cases n <;> exact ho.elim
  | exc p q r => cases n <;> exact ho.elim
  | bl x =>
    refine ⟨_, rfl, _, un_isN ib, _, rfl, iteF ⟨_, rfl, _, un_isN ia, _, rfl, iteF ?_⟩⟩
    refine ⟨_, rfl, _, isi2_of eb rfl kt5 kt6, _, rfl, iteF ?_⟩
    refine ⟨_, rfl, _, isi_of eb rfl kt11, _, rfl, _, isi_of ea rfl kt11, _, eq_bl, _, rfl, iteF ⟨_, rfl, _, isi_of eb rfl kt12, _, rfl, _, isi_of ea rfl kt12, _, eq_bl, _, rfl, iteF ?_⟩⟩
    refine ⟨_, rfl, _, isi_of eb rfl kt13, _, rfl, _, isi_of ea rfl kt13, _, eq_bl, _, rfl, iteT ⟨_, rfl, _, rfl, .bl true, ?_, .inl hp⟩⟩
    unfold REq
    rw [ea, eb]
    exact ⟨_, _, rfl, rfl, rfl, rfl, by cases x <;> rfl⟩
  | int x =>
    refine ⟨_, rfl, _, un_isN ib, _, rfl, iteF ⟨_, rfl, _, un_isN ia, _, rfl, iteF ?_⟩⟩
    refine ⟨_, rfl, _, isi2_of eb rfl kt7 kt8, _, rfl, iteF ?_⟩
    refine ⟨_, rfl, _, isi_of eb rfl kt14, _, rfl, _, isi_of ea rfl kt14, _, eq_bl, _, rfl, iteF ⟨_, rfl, _, isi_of eb rfl kt15, _, rfl, _, isi_of ea rfl kt15, _, eq_bl, _, rfl, iteF ?_⟩⟩
    refine ⟨_, rfl, _, isi_of eb rfl kt16, _, rfl, _, isi_of ea rfl kt16, _, eq_bl, _, rfl, iteT ⟨_, rfl, _, rfl, .bl true, ?_, .inl hp⟩⟩
    unfold REq
    rw [ea, eb]
    simp
  | str x =>
    refine ⟨_, rfl, _, un_isN ib, _, rfl, iteF ⟨_, rfl, _, un_isN ia, _, rfl, iteF ?_⟩⟩
    refine ⟨_, rfl, _, isi2_of eb rfl kt9 kt10, _, rfl, iteF ?_⟩
    refine ⟨_, rfl, _, isi_of eb rfl kt17, _, rfl, _, isi_of ea rfl kt17, _, eq_bl, _, rfl, iteF ⟨_, rfl, _, isi_of eb rfl kt18, _, rfl, _, isi_of ea rfl kt18, _, eq_bl, _, rfl, iteF ?_⟩⟩
    refine ⟨_, rfl, _, isi_of eb rfl kt19, _, rfl, _, isi_of ea rfl kt19, _, eq_bl, _, rfl, iteT ⟨_, rfl, _, rfl, .bl true, ?_, .inl hp⟩⟩
    unfold REq
    rw [ea, eb]
    simp
  | tup xs =>
    cases n with
    | zero => exact ho.elim
    | succ n =>
      refine ⟨_, rfl, _, un_isN ib, _, rfl, iteF ⟨_, rfl, _, un_isN ia, _, rfl, iteF ?_⟩⟩
      refine ⟨_, rfl, _, isi2_of eb rfl kt3 kt4, _, rfl, iteT ?_⟩
      refine ⟨_, rfl, _, isi_of ea rfl kt3, _, rfl, _, isi_of eb rfl kt3, _, eq_bl, _, rfl, iteF ⟨_, rfl, _, isi_of ea rfl kt4, _, rfl, _, isi_of eb rfl kt4, _, eq_bl, _, rfl, iteF ?_⟩⟩
      exact same_seq (P := P) (.inr ⟨ea, eb⟩) ho.1 ho.2 hp
  | lst xs =>
    cases n with
    | zero => exact ho.elim
    | succ n =>
      refine ⟨_, rfl, _, un_isN ib, _, rfl, iteF ⟨_, rfl, _, un_isN ia, _, rfl, iteF ?_⟩⟩
      refine ⟨_, rfl, _, isi2_of eb rfl kt1 kt2, _, rfl, iteT ?_⟩
      refine ⟨_, rfl, _, isi_of ea rfl kt1, _, rfl, _, isi_of eb rfl kt1, _, eq_bl, _, rfl, iteF ⟨_, rfl, _, isi_of ea rfl kt2, _, rfl, _, isi_of eb rfl kt2, _, eq_bl, _, rfl, iteF ?_⟩⟩
      exact same_seq (P := P) (.inl ⟨ea, eb⟩) ho.1 ho.2 hp
theorem len_law_same (n : Nat) (ds : List D) (h : GH) (P : GP) (hs : S_law_same n ds h P) : ds.length = 2 := by obtain ⟨a, b, _, rfl, _⟩ := hs; rfl
end Gh

set_option maxHeartbeats 1000000
namespace Gh
open PySem L2
/-! ## fractions -/
def isLow (p : Int × Int) : Prop := 0 < p.2 ∧ Int.gcd p.1 p.2 = 1
def Bf (B : Nat) (p : Int × Int) : Prop := 0 < p.2 ∧ p.1.natAbs < 2 ^ B ∧ p.2.natAbs < 2 ^ B
theorem low_low {a b : Int} (hb : 0 < b) : isLow (low a b) := by
  have hg := Int.gcd_pos_of_ne_zero_right a (show b ≠ 0 by omega)
  refine ⟨?_, Int.gcd_ediv_gcd_ediv_gcd hg⟩
  have hd := Int.gcd_dvd_right a b
  obtain ⟨c, hc⟩ := hd
  show 0 < b / (Int.gcd a b : Nat)
  generalize hgg : ((Int.gcd a b : Nat) : Int) = g at *
  rw [hc, Int.mul_ediv_cancel_left _ (by omega)]
  have hg0 : 0 < g := by omega
  rw [hc] at hb
  exact Int.pos_of_mul_pos_right hb (by omega)
theorem low_self {p : Int × Int} (h : isLow p) : low p.1 p.2 = p := by
  unfold low
  rw [h.2]
  show (p.1 / 1, p.2 / 1) = p
  rw [Int.ediv_one, Int.ediv_one]
theorem ediv_natAbs_le (a : Int) (g : Nat) : (a / (g : Nat)).natAbs ≤ a.natAbs := by
  exact Int.natAbs_ediv_le_natAbs a g
theorem low_bits {a b : Int} {k : Nat} (hb : 0 < b) (h1 : a.natAbs < 2 ^ k) (h2 : b.natAbs < 2 ^ k) : Bf k (low a b) :=
  ⟨(low_low hb).1, Nat.lt_of_le_of_lt (ediv_natAbs_le _ _) h1, Nat.lt_of_le_of_lt (ediv_natAbs_le _ _) h2⟩
def addF (p q : Int × Int) : Int × Int := low (p.1 * q.2 + q.1 * p.2) (p.2 * q.2)
def mulF (p q : Int × Int) : Int × Int := low (p.1 * q.1) (p.2 * q.2)
def sumF (ps : List (Int × Int)) : Int × Int := ps.foldl addF (0, 1)
def prodF (ps : List (Int × Int)) : Int × Int := ps.foldl mulF (1, 1)

theorem mulW {i j : Int} {a b : Nat} (ha : i.natAbs < 2 ^ a) (hb : j.natAbs < 2 ^ b) (h0 : 0 < a) (h1 : 0 < b) (h : a + b ≤ 1000000) : CMul i j ∨ CMulW i j := .inr (wide_mul ha hb h0 h1 h)
theorem mul_bits {i j : Int} {a b : Nat} (ha : i.natAbs < 2 ^ a) (hb : j.natAbs < 2 ^ b) : (i * j).natAbs < 2 ^ (a + b) := wide_lt ha hb
theorem add_bits {i j : Int} {a : Nat} (ha : i.natAbs < 2 ^ a) (hb : j.natAbs < 2 ^ a) : (i + j).natAbs < 2 ^ (a + 1) := by
  have := Int.natAbs_add_le i j
  rw [Nat.pow_succ]
  omega
theorem addF_bits {X B : Nat} {p q : Int × Int} (hp : Bf X p) (hq : Bf B q) : Bf (X + B + 1) (addF p q) := by
  refine low_bits (Int.mul_pos hp.1 hq.1) ?_ ?_
  · refine add_bits (mul_bits hp.2.1 hq.2.2) ?_
    rw [Nat.add_comm X B]
    exact mul_bits hq.2.1 hp.2.2
  · exact lt_pow_mono (mul_bits hp.2.2 hq.2.2) (by omega)
theorem mulF_bits {X B : Nat} {p q : Int × Int} (hp : Bf X p) (hq : Bf B q) : Bf (X + B + 1) (mulF p q) :=
  low_bits (Int.mul_pos hp.1 hq.1) (lt_pow_mono (mul_bits hp.2.1 hq.2.1) (by omega)) (lt_pow_mono (mul_bits hp.2.2 hq.2.2) (by omega))
theorem Bf.mono {a b : Nat} {p : Int × Int} (h : Bf a p) (hab : a ≤ b) : Bf b p := ⟨h.1, lt_pow_mono h.2.1 hab, lt_pow_mono h.2.2 hab⟩
/-! the defs of the program -/
def red (n d : Int) : Int × Int := if d < 0 then low (-n) (-d) else low n d
def S_reduced : GSpec := fun ds h P => ∃ n d : Int, ds = [.int n, .int d] ∧ d ≠ 0 ∧ d.natAbs < 2 ^ 9000 ∧ P (fr (red n d)) h
def g_reduced : gTS := (sSeq (sIf (gB (gBin (REq false) (gVar 1) (gC (.int 0))))
  sNever
  sNext)
 (sSeq (sSet 2 (gCall S_law_gcd (aCons (gVar 0) (aCons (gVar 1) aNil))))
 (sSeq (sIf (gB (gBin (RCmp fun i j => decide (i < j)) (gVar 1) (gC (.int 0))))
  (sSet 2 (gUn RNeg (gVar 2)))
  sNext)
 (sRet (gTup (aCons (gBin RFdiv (gVar 0) (gVar 2)) (aCons (gBin RFdiv (gVar 1) (gVar 2)) aNil)))))))
theorem pure_reduced (ds : List D) (h : GH) (P : GP) (hs : S_reduced ds h P) : g_reduced { nx := fun _ h' => P .non h', rt := P } (startG ["numerator", "denominator", "by"] ds) h := by
  obtain ⟨a, b, rfl, hb, hz, hp⟩ := hs
  have hg := gcd_div (a := a) hb hz
  refine ⟨_, rfl, _, rfl, _, rfl, ite2 (fun c => absurd (of_decide_eq_true c) hb) (fun _ => ?_)⟩
  refine ⟨_, rfl, _, rfl, a, b, rfl, ?_⟩
  refine ⟨_, rfl, _, rfl, _, rfl, ite2 (fun c => ?_) (fun c => ?_)⟩
  · have hn : b < 0 := of_decide_eq_true c
    refine ⟨_, rfl, _, rfl, ?_⟩
    have hg' : (-((Int.gcd a b : Nat) : Int)) ≠ 0 ∧ (-((Int.gcd a b : Nat) : Int)).natAbs.log2 < 9000 := ⟨by omega, by rw [Int.natAbs_neg]; exact hg.2⟩
    refine ⟨_, rfl, _, rfl, _, ⟨hg', rfl⟩, _, rfl, _, rfl, _, ⟨hg', rfl⟩, two_le, .inl ?_⟩
    have e : red a b = (a.fdiv (-((Int.gcd a b : Nat) : Int)), b.fdiv (-((Int.gcd a b : Nat) : Int))) := by
      unfold red low
      rw [if_pos hn, Int.gcd_neg, Int.neg_gcd]
      have q : ∀ x : Int, x.fdiv (-((Int.gcd a b : Nat) : Int)) = -x / ((Int.gcd a b : Nat) : Int) := fun x => by
        have := Int.neg_fdiv_neg (-x) ((Int.gcd a b : Nat) : Int)
        rw [Int.neg_neg] at this
        rw [this, Int.fdiv_eq_ediv_of_nonneg _ (by omega)]
      rw [q, q]
    rw [e] at hp
    exact hp
  · have hn : ¬ b < 0 := fun z => c (decide_eq_true z)
    refine ⟨_, rfl, _, rfl, _, ⟨hg, rfl⟩, _, rfl, _, rfl, _, ⟨hg, rfl⟩, two_le, .inl ?_⟩
    have e : red a b = (a.fdiv ((Int.gcd a b : Nat) : Int), b.fdiv ((Int.gcd a b : Nat) : Int)) := by
      unfold red low
      rw [if_neg hn, Int.fdiv_eq_ediv_of_nonneg _ (by omega), Int.fdiv_eq_ediv_of_nonneg _ (by omega)]
    rw [e] at hp
    exact hp
theorem len_reduced (ds : List D) (h : GH) (P : GP) (hs : S_reduced ds h P) : ds.length = 2 := by obtain ⟨a, b, rfl, _⟩ := hs; rfl
theorem red_pos {n d : Int} (h : 0 < d) : red n d = low n d := if_neg (by omega)
/-- parts[0], parts[1] -/
theorem ix0 {h : GH} {p : Int × Int} : RIx h (fr p) (.int 0) (.int p.1) := rfl
theorem ix1 {h : GH} {p : Int × Int} : RIx h (fr p) (.int 1) (.int p.2) := rfl
def S_total : GSpec := fun ds h P => ∃ (ps : List (Int × Int)) (B : Nat), (ds = [.lst (ps.map fr)] ∨ ds = [.tup (ps.map fr)]) ∧ 0 < B ∧ (∀ p ∈ ps, Bf B p) ∧ (ps.length + 1) * (B + 2) ≤ 4000 ∧ P (fr (sumF ps)) h
def b_total : gTS := (sSeq (sSet 1 (gBin RAdd (gBin RMul (gVar 1) (gBin RIx (gVar 3) (gC (.int 1)))) (gBin RMul (gBin RIx (gVar 3) (gC (.int 0))) (gVar 2))))
 (sSeq (sSet 2 (gBin RMul (gVar 2) (gBin RIx (gVar 3) (gC (.int 1)))))
 (sAsg (gCall S_reduced (aCons (gVar 1) (aCons (gVar 2) aNil))) (tgTup 2 (tgCons (tgName 1) (tgCons (tgName 2) tgNil))))))
def g_total : gTS := (sSeq (sAsg (gTup (aCons (gC (.int 0)) (aCons (gC (.int 1)) aNil))) (tgTup 2 (tgCons (tgName 1) (tgCons (tgName 2) tgNil))))
 (sSeq (sFor (iSeq (gVar 0)) (tgName 3)
  b_total)
 (sRet (gTup (aCons (gVar 1) (aCons (gVar 2) aNil))))))
theorem total_loop {d : D} {h : GH} {N : GEnds} {B : Nat} (hB : 0 < B) : ∀ (ps : List (Int × Int)) (X : Nat) (a b : Int) (o : Option D), 0 < X → Bf X (a, b) → (∀ p ∈ ps, Bf B p) → X + ps.length * (B + 2) ≤ 4000 → (∀ o', N.nx [some d, some (.int (ps.foldl addF (a, b)).1), some (.int (ps.foldl addF (a, b)).2), o'] h) →
    gLoop (tgName 3) b_total N (ps.map fr) [some d, some (.int a), some (.int b), o] h
  | [], X, a, b, o, _, _, _, _, k => k o
  | p :: r, X, a, b, o, hX, hab, hp, hz, k => by
    have hpp := hp p List.mem_cons_self
    rw [List.length_cons, Nat.succ_mul] at hz
    have m1 := mul_bits hab.2.1 hpp.2.2
    have m2 := mul_bits hpp.2.1 hab.2.2
    have m3 := mul_bits hab.2.2 hpp.2.2
    show b_total _ [some d, some (.int a), some (.int b), some (fr p)] h
    refine ⟨_, rfl, _, rfl, _, ix1, _, ⟨mulW hab.2.1 hpp.2.2 hX hB (by omega), rfl⟩, _, rfl, _, ix0, _, rfl, _, ⟨mulW hpp.2.1 hab.2.2 hB hX (by omega), rfl⟩, _, rfl, ?_⟩
    refine ⟨_, rfl, _, rfl, _, ix1, _, ⟨mulW hab.2.2 hpp.2.2 hX hB (by omega), rfl⟩, ?_⟩
    have hd : 0 < b * p.2 := Int.mul_pos hab.1 hpp.1
    refine ⟨_, rfl, _, rfl, _, _, rfl, by omega, lt_pow_mono m3 (by omega), ?_⟩
    rw [red_pos hd]
    refine ⟨_, rfl, rfl, _, _, rfl, _, _, rfl, rfl, ?_⟩
    have e : low (a * p.2 + p.1 * b) (b * p.2) = addF (a, b) p := rfl
    rw [e]
    exact total_loop hB r (X + B + 1) (addF (a, b) p).1 (addF (a, b) p).2 _ (by omega) (addF_bits hab hpp) (fun q hq => hp q (List.mem_cons_of_mem _ hq)) (by omega) k
theorem one_bits {B : Nat} (h : 0 < B) : (1 : Int).natAbs < 2 ^ B := by
  show 1 < 2 ^ B
  exact Nat.one_lt_two_pow (by omega)
theorem zero_bits {B : Nat} : (0 : Int).natAbs < 2 ^ B := Nat.pow_pos (by decide)
theorem pure_total (ds : List D) (h : GH) (P : GP) (hs : S_total ds h P) : g_total { nx := fun _ h' => P .non h', rt := P } (startG ["parts", "numerator", "denominator", "part"] ds) h := by
  obtain ⟨ps, B, hd, hB, hp, hz, k⟩ := hs
  have go : ∀ d : D, (∀ Q : List D → GH → Prop, Q (ps.map fr) h → (match d with
  | .lst ds => Q ds h
  | .tup ds => Q ds h
  | .str x => Q (strD x) h
  | _ => False)) → g_total { nx := fun _ h' => P .non h', rt := P } [some d, none, none, none] h := fun d hq => by
    refine ⟨two_le, _, rfl, rfl, _, _, rfl, _, _, rfl, rfl, ?_⟩
    refine ⟨_, rfl, hq _ ?_⟩
    refine total_loop hB ps 1 0 1 none (by decide) ⟨by decide, zero_bits, one_bits (by decide)⟩ hp (by rw [Nat.succ_mul] at hz; omega) fun o' => ?_
    refine ⟨_, rfl, _, rfl, two_le, .inl k⟩
  rcases hd with rfl | rfl
  · exact go _ fun Q q => q
  · exact go _ fun Q q => q
theorem len_total (ds : List D) (h : GH) (P : GP) (hs : S_total ds h P) : ds.length = 1 := by obtain ⟨ps, B, rfl | rfl, _⟩ := hs <;> rfl
def S_plus : GSpec := fun ds h P => ∃ (ps : List (Int × Int)) (B : Nat), ds = ps.map fr ∧ 0 < B ∧ (∀ p ∈ ps, Bf B p) ∧ (ps.length + 1) * (B + 2) ≤ 4000 ∧ P (fr (sumF ps)) h
def g_plus : gTS := (sRet (gCall S_total (aCons (gVar 0) aNil)))
theorem pure_plus (ds : List D) (h : GH) (P : GP) (hs : S_plus ds h P) : g_plus { nx := fun _ h' => P .non h', rt := P } (startG ["parts"] [.tup ds]) h := by
  obtain ⟨ps, B, rfl, hB, hp, hz, k⟩ := hs
  exact ⟨_, rfl, ps, B, .inr rfl, hB, hp, hz, .inl k⟩
theorem len_plus (ds : List D) (h : GH) (P : GP) (hs : S_plus ds h P) : ds.length ≤ sizeLine := by
  obtain ⟨ps, B, rfl, hB, hp, hz, k⟩ := hs
  rw [List.length_map, sizeLine_eq]
  have : ps.length + 1 ≤ (ps.length + 1) * (B + 2) := Nat.le_mul_of_pos_right _ (by omega)
  omega
def S_times : GSpec := fun ds h P => ∃ (ps : List (Int × Int)) (B : Nat), ds = ps.map fr ∧ 0 < B ∧ (∀ p ∈ ps, Bf B p) ∧ (ps.length + 1) * (B + 2) ≤ 4000 ∧ P (fr (prodF ps)) h
def b_times : gTS := (sAsg (gCall S_reduced (aCons (gBin RMul (gVar 1) (gBin RIx (gVar 3) (gC (.int 0)))) (aCons (gBin RMul (gVar 2) (gBin RIx (gVar 3) (gC (.int 1)))) aNil))) (tgTup 2 (tgCons (tgName 1) (tgCons (tgName 2) tgNil))))
def g_times : gTS := (sSeq (sAsg (gTup (aCons (gC (.int 1)) (aCons (gC (.int 1)) aNil))) (tgTup 2 (tgCons (tgName 1) (tgCons (tgName 2) tgNil))))
 (sSeq (sFor (iSeq (gVar 0)) (tgName 3)
  b_times)
 (sRet (gTup (aCons (gVar 1) (aCons (gVar 2) aNil))))))
theorem times_loop {d : D} {h : GH} {N : GEnds} {B : Nat} (hB : 0 < B) : ∀ (ps : List (Int × Int)) (X : Nat) (a b : Int) (o : Option D), 0 < X → Bf X (a, b) → (∀ p ∈ ps, Bf B p) → X + ps.length * (B + 2) ≤ 4000 → (∀ o', N.nx [some d, some (.int (ps.foldl mulF (a, b)).1), some (.int (ps.foldl mulF (a, b)).2), o'] h) →
    gLoop (tgName 3) b_times N (ps.map fr) [some d, some (.int a), some (.int b), o] h
  | [], X, a, b, o, _, _, _, _, k => k o
  | p :: r, X, a, b, o, hX, hab, hp, hz, k => by
    have hpp := hp p List.mem_cons_self
    rw [List.length_cons, Nat.succ_mul] at hz
    have m3 := mul_bits hab.2.2 hpp.2.2
    show b_times _ [some d, some (.int a), some (.int b), some (fr p)] h
    have hd : 0 < b * p.2 := Int.mul_pos hab.1 hpp.1
    refine ⟨_, rfl, _, rfl, _, ix0, _, ⟨mulW hab.2.1 hpp.2.1 hX hB (by omega), rfl⟩, _, rfl, _, rfl, _, ix1, _, ⟨mulW hab.2.2 hpp.2.2 hX hB (by omega), rfl⟩, _, _, rfl, by omega, lt_pow_mono m3 (by omega), ?_⟩
    rw [red_pos hd]
    refine ⟨_, rfl, rfl, _, _, rfl, _, _, rfl, rfl, ?_⟩
    have e : low (a * p.1) (b * p.2) = mulF (a, b) p := rfl
    rw [e]
    exact times_loop hB r (X + B + 1) (mulF (a, b) p).1 (mulF (a, b) p).2 _ (by omega) (mulF_bits hab hpp) (fun q hq => hp q (List.mem_cons_of_mem _ hq)) (by omega) k
theorem pure_times (ds : List D) (h : GH) (P : GP) (hs : S_times ds h P) : g_times { nx := fun _ h' => P .non h', rt := P } (startG ["parts", "numerator", "denominator", "part"] [.tup ds]) h := by
  obtain ⟨ps, B, rfl, hB, hp, hz, k⟩ := hs
  refine ⟨two_le, _, rfl, rfl, _, _, rfl, _, _, rfl, rfl, ?_⟩
  refine ⟨_, rfl, ?_⟩
  refine times_loop hB ps 1 1 1 none (by decide) ⟨by decide, one_bits (by decide), one_bits (by decide)⟩ hp (by rw [Nat.succ_mul] at hz; omega) fun o' => ?_
  exact ⟨_, rfl, _, rfl, two_le, .inl k⟩
theorem len_times (ds : List D) (h : GH) (P : GP) (hs : S_times ds h P) : ds.length ≤ sizeLine := by
  obtain ⟨ps, B, rfl, hB, hp, hz, k⟩ := hs
  rw [List.length_map, sizeLine_eq]
  have : ps.length + 1 ≤ (ps.length + 1) * (B + 2) := Nat.le_mul_of_pos_right _ (by omega)
  omega
def negF (p : Int × Int) : Int × Int := (-p.1, p.2)
def S_negative : GSpec := fun ds h P => ∃ p, ds = [fr p] ∧ P (fr (negF p)) h
def g_negative : gTS := (sRet (gTup (aCons (gUn RNeg (gBin RIx (gVar 0) (gC (.int 0)))) (aCons (gBin RIx (gVar 0) (gC (.int 1))) aNil))))
theorem pure_negative (ds : List D) (h : GH) (P : GP) (hs : S_negative ds h P) : g_negative { nx := fun _ h' => P .non h', rt := P } (startG ["part"] ds) h := by
  obtain ⟨p, rfl, k⟩ := hs
  exact ⟨_, rfl, _, ix0, _, rfl, _, rfl, _, ix1, two_le, .inl k⟩
theorem len_negative (ds : List D) (h : GH) (P : GP) (hs : S_negative ds h P) : ds.length = 1 := by obtain ⟨p, rfl, _⟩ := hs; rfl
def g_law_neg : gTS := (sRet (gTup (aCons (gBin RSub (gC (.int 0)) (gBin RIx (gVar 0) (gC (.int 0)))) (aCons (gBin RIx (gVar 0) (gC (.int 1))) aNil))))
theorem pure_law_neg (ds : List D) (h : GH) (P : GP) (hs : S_negative ds h P) : g_law_neg { nx := fun _ h' => P .non h', rt := P } (startG ["_law_p"] ds) h := by
  obtain ⟨p, rfl, k⟩ := hs
  refine ⟨_, rfl, _, ix0, _, rfl, _, rfl, _, ix1, two_le, .inl ?_⟩
  have e : negF p = (0 - p.1, p.2) := by unfold negF; rw [Int.zero_sub]
  rw [e] at k
  exact k
def ordF (p q : Int × Int) : Int := (if decide (q.1 * p.2 < p.1 * q.2) = true then 1 else 0) - (if decide (p.1 * q.2 < q.1 * p.2) = true then 1 else 0)
def S_order : GSpec := fun ds h P => ∃ p q B, ds = [fr p, fr q] ∧ 0 < B ∧ B ≤ 4000 ∧ Bf B p ∧ Bf B q ∧ P (.int (ordF p q)) h
def g_order : gTS := (sSeq (sPar 2 3 (aCons (gBin RMul (gBin RIx (gVar 0) (gC (.int 0))) (gBin RIx (gVar 1) (gC (.int 1)))) (aCons (gBin RMul (gBin RIx (gVar 1) (gC (.int 0))) (gBin RIx (gVar 0) (gC (.int 1)))) aNil)))
 (sRet (gBin RSub (gCB RInt (aCons (gBin (RCmp fun i j => decide (j < i)) (gVar 2) (gVar 3)) aNil)) (gCB RInt (aCons (gBin (RCmp fun i j => decide (i < j)) (gVar 2) (gVar 3)) aNil)))))
theorem pure_order (ds : List D) (h : GH) (P : GP) (hs : S_order ds h P) : g_order { nx := fun _ h' => P .non h', rt := P } (startG ["one", "other", "left", "right"] ds) h := by
  obtain ⟨p, q, B, rfl, hB, hB2, hp, hq, k⟩ := hs
  refine ⟨_, rfl, _, ix0, _, rfl, _, ix1, _, ⟨mulW hp.2.1 hq.2.2 hB hB (by omega), rfl⟩, _, rfl, _, ix0, _, rfl, _, ix1, _, ⟨mulW hq.2.1 hp.2.2 hB hB (by omega), rfl⟩, _, _, rfl, ?_⟩
  exact ⟨_, rfl, _, rfl, _, rfl, _, ⟨_, rfl, rfl⟩, _, rfl, _, rfl, _, rfl, _, ⟨_, rfl, rfl⟩, _, rfl, .inl k⟩
theorem len_order (ds : List D) (h : GH) (P : GP) (hs : S_order ds h P) : ds.length = 2 := by obtain ⟨p, q, B, rfl, _⟩ := hs; rfl
/-! the law's own -/
def S_law_add : GSpec := fun ds h P => ∃ p q B, ds = [fr p, fr q] ∧ 0 < B ∧ B ≤ 4000 ∧ Bf B p ∧ Bf B q ∧ P (fr (addF p q)) h
def g_law_add : gTS := (sRet (gCall S_law_low (aCons (gBin RAdd (gBin RMul (gBin RIx (gVar 0) (gC (.int 0))) (gBin RIx (gVar 1) (gC (.int 1)))) (gBin RMul (gBin RIx (gVar 1) (gC (.int 0))) (gBin RIx (gVar 0) (gC (.int 1))))) (aCons (gBin RMul (gBin RIx (gVar 0) (gC (.int 1))) (gBin RIx (gVar 1) (gC (.int 1)))) aNil))))
theorem pure_law_add (ds : List D) (h : GH) (P : GP) (hs : S_law_add ds h P) : g_law_add { nx := fun _ h' => P .non h', rt := P } (startG ["_law_p", "_law_q"] ds) h := by
  obtain ⟨p, q, B, rfl, hB, hB2, hp, hq, k⟩ := hs
  have hd : 0 < p.2 * q.2 := Int.mul_pos hp.1 hq.1
  exact ⟨_, rfl, _, ix0, _, rfl, _, ix1, _, ⟨mulW hp.2.1 hq.2.2 hB hB (by omega), rfl⟩, _, rfl, _, ix0, _, rfl, _, ix1, _, ⟨mulW hq.2.1 hp.2.2 hB hB (by omega), rfl⟩, _, rfl, _, rfl, _, ix1, _, rfl, _, ix1, _, ⟨mulW hp.2.2 hq.2.2 hB hB (by omega), rfl⟩,
    _, _, rfl, by omega, lt_pow_mono (mul_bits hp.2.2 hq.2.2) (by omega), .inl k⟩
theorem len_law_add (ds : List D) (h : GH) (P : GP) (hs : S_law_add ds h P) : ds.length = 2 := by obtain ⟨p, q, B, rfl, _⟩ := hs; rfl
def S_law_mul : GSpec := fun ds h P => ∃ p q B, ds = [fr p, fr q] ∧ 0 < B ∧ B ≤ 4000 ∧ Bf B p ∧ Bf B q ∧ P (fr (mulF p q)) h
def g_law_mul : gTS := (sRet (gCall S_law_low (aCons (gBin RMul (gBin RIx (gVar 0) (gC (.int 0))) (gBin RIx (gVar 1) (gC (.int 0)))) (aCons (gBin RMul (gBin RIx (gVar 0) (gC (.int 1))) (gBin RIx (gVar 1) (gC (.int 1)))) aNil))))
theorem pure_law_mul (ds : List D) (h : GH) (P : GP) (hs : S_law_mul ds h P) : g_law_mul { nx := fun _ h' => P .non h', rt := P } (startG ["_law_p", "_law_q"] ds) h := by
  obtain ⟨p, q, B, rfl, hB, hB2, hp, hq, k⟩ := hs
  have hd : 0 < p.2 * q.2 := Int.mul_pos hp.1 hq.1
  exact ⟨_, rfl, _, ix0, _, rfl, _, ix0, _, ⟨mulW hp.2.1 hq.2.1 hB hB (by omega), rfl⟩, _, rfl, _, ix1, _, rfl, _, ix1, _, ⟨mulW hp.2.2 hq.2.2 hB hB (by omega), rfl⟩,
    _, _, rfl, by omega, lt_pow_mono (mul_bits hp.2.2 hq.2.2) (by omega), .inl k⟩
theorem len_law_mul (ds : List D) (h : GH) (P : GP) (hs : S_law_mul ds h P) : ds.length = 2 := by obtain ⟨p, q, B, rfl, _⟩ := hs; rfl
def S_law_less : GSpec := fun ds h P => ∃ p q B, ds = [fr p, fr q] ∧ 0 < B ∧ B ≤ 4000 ∧ Bf B p ∧ Bf B q ∧ P (.bl (decide (p.1 * q.2 < q.1 * p.2))) h
def g_law_less : gTS := (sRet (gBin (RCmp fun i j => decide (i < j)) (gBin RMul (gBin RIx (gVar 0) (gC (.int 0))) (gBin RIx (gVar 1) (gC (.int 1)))) (gBin RMul (gBin RIx (gVar 1) (gC (.int 0))) (gBin RIx (gVar 0) (gC (.int 1))))))
theorem pure_law_less (ds : List D) (h : GH) (P : GP) (hs : S_law_less ds h P) : g_law_less { nx := fun _ h' => P .non h', rt := P } (startG ["_law_p", "_law_q"] ds) h := by
  obtain ⟨p, q, B, rfl, hB, hB2, hp, hq, k⟩ := hs
  exact ⟨_, rfl, _, ix0, _, rfl, _, ix1, _, ⟨mulW hp.2.1 hq.2.2 hB hB (by omega), rfl⟩, _, rfl, _, ix0, _, rfl, _, ix1, _, ⟨mulW hq.2.1 hp.2.2 hB hB (by omega), rfl⟩, _, rfl, .inl k⟩
theorem len_law_less (ds : List D) (h : GH) (P : GP) (hs : S_law_less ds h P) : ds.length = 2 := by obtain ⟨p, q, B, rfl, _⟩ := hs; rfl
def g_law_sum : gTS := (sSeq (sSet 1 (gTup (aCons (gC (.int 0)) (aCons (gC (.int 1)) aNil))))
 (sSeq (sFor (iSeq (gVar 0)) (tgName 2)
  (sSet 1 (gCall S_law_add (aCons (gVar 1) (aCons (gVar 2) aNil)))))
 (sRet (gVar 1))))
theorem sum_loop {d : D} {h : GH} {N : GEnds} {B : Nat} (hB : 0 < B) : ∀ (ps : List (Int × Int)) (X : Nat) (a : Int × Int) (o : Option D), 0 < X → B ≤ X → Bf X a → (∀ p ∈ ps, Bf B p) → X + ps.length * (B + 2) ≤ 4000 → (∀ o', N.nx [some d, some (fr (ps.foldl addF a)), o'] h) →
    gLoop (tgName 2) (sSet 1 (gCall S_law_add (aCons (gVar 1) (aCons (gVar 2) aNil)))) N (ps.map fr) [some d, some (fr a), o] h
  | [], X, a, o, _, _, _, _, _, k => k o
  | p :: r, X, a, o, hX, hBX, ha, hp, hz, k => by
    have hpp := hp p List.mem_cons_self
    rw [List.length_cons, Nat.succ_mul] at hz
    refine ⟨_, rfl, _, rfl, a, p, X, rfl, hX, by omega, ha, hpp.mono hBX, ?_⟩
    exact sum_loop hB r (X + B + 1) (addF a p) _ (by omega) (by omega) (addF_bits ha hpp) (fun q hq => hp q (List.mem_cons_of_mem _ hq)) (by omega) k
theorem pure_law_sum (ds : List D) (h : GH) (P : GP) (hs : S_total ds h P) : g_law_sum { nx := fun _ h' => P .non h', rt := P } (startG ["_law_parts", "_law_found", "_law_part"] ds) h := by
  obtain ⟨ps, B, hd, hB, hp, hz, k⟩ := hs
  have go : ∀ d : D, (∀ Q : List D → GH → Prop, Q (ps.map fr) h → (match d with
  | .lst ds => Q ds h
  | .tup ds => Q ds h
  | .str x => Q (strD x) h
  | _ => False)) → g_law_sum { nx := fun _ h' => P .non h', rt := P } [some d, none, none] h := fun d hq => by
    refine ⟨two_le, _, rfl, hq _ ?_⟩
    exact sum_loop hB ps B (0, 1) none hB (Nat.le_refl _) ⟨by decide, zero_bits, one_bits hB⟩ hp (by rw [Nat.succ_mul] at hz; omega) fun o' => ⟨_, rfl, .inl k⟩
  rcases hd with rfl | rfl
  · exact go _ fun Q q => q
  · exact go _ fun Q q => q
/-! ## one of some -/
def seqOf (h : GH) (d : D) : Option (List D) := match vw h d with
  | .lst xs => some xs
  | .tup xs => some xs
  | .str x => some (strD x)
  | _ => none
def S_law_of : GSpec := fun ds h P => ∃ (b : Addr) (d : D) (xs : List D), ds = [.ref b, d] ∧ h b = some .bag ∧ seqOf h d = some xs ∧ xs ≠ [] ∧ xs.length ≤ sizeLine ∧ ∀ x ∈ xs, P x h
def g_law_of : gTS := (sRet (gBin RIx (gVar 1) (gCall S_law_pull (aCons (gVar 0) (aCons (gCB RLen (aCons (gVar 1) aNil)) aNil)))))
theorem small_log {n : Nat} (h : n ≤ 2 ^ 64) : n.log2 < 9000 := log2_of (Nat.lt_of_le_of_lt h (Nat.pow_lt_pow_right (by decide) (by decide))) (by decide)
theorem pure_law_of (ds : List D) (h : GH) (P : GP) (hs : S_law_of ds h P) : g_law_of { nx := fun _ h' => P .non h', rt := P } (startG ["_law_bag_here", "_law_some"] ds) h := by
  obtain ⟨b, d, xs, rfl, hb, hq, hne, hz, k⟩ := hs
  have hl : 0 < xs.length := List.length_pos_iff.mpr hne
  rw [sizeLine_eq] at hz
  have fin : ∀ i : Int, 0 ≤ i → i < (xs.length : Int) → ∃ x, atI xs i = some x ∧ x ∈ xs := fun i h0 h1 => by
    have hi : i.toNat < xs.length := by omega
    refine ⟨xs[i.toNat], ?_, List.getElem_mem hi⟩
    have e : ((i.toNat : Nat) : Int) = i := by omega
    have q : atI xs ((i.toNat : Nat) : Int) = some xs[i.toNat] := atI_nat (List.getElem?_eq_getElem hi)
    rw [e] at q
    exact q
  unfold seqOf at hq
  refine ⟨_, rfl, _, rfl, _, rfl, ?_⟩
  split at hq
  · rename_i ys e
    cases hq
    refine ⟨_, len_of (.inl e), b, _, rfl, hb, by omega, small_log (by omega), fun i h0 h1 => ?_⟩
    obtain ⟨x, hx, hm⟩ := fin i h0 h1
    exact ⟨x, ix_of (.inl e) hx, .inl (k x hm)⟩
  · rename_i ys e
    cases hq
    refine ⟨_, len_of (.inr e), b, _, rfl, hb, by omega, small_log (by omega), fun i h0 h1 => ?_⟩
    obtain ⟨x, hx, hm⟩ := fin i h0 h1
    exact ⟨x, ix_of (.inr e) hx, .inl (k x hm)⟩
  · rename_i z e
    cases hq
    have hlen : (strD z).length = z.length := by unfold strD; simp [Str.length]
    rw [hlen] at hz hl
    refine ⟨.int (z.length : Nat), ⟨d, rfl, ?_⟩, b, _, rfl, hb, by omega, small_log (by omega), fun i h0 h1 => ?_⟩
    · rw [e]; exact ⟨by rw [sizeLine_eq]; exact hz, rfl⟩
    · have hi : i.toNat < z.cps.toList.length := by
        have : z.cps.toList.length = z.length := by simp [Str.length]
        omega
      have ei : ((i.toNat : Nat) : Int) = i := by omega
      have q : atI z.cps.toList ((i.toNat : Nat) : Int) = some z.cps.toList[i.toNat] := atI_nat (List.getElem?_eq_getElem hi)
      rw [ei] at q
      refine ⟨.str ⟨#[z.cps.toList[i.toNat]]⟩, ?_, .inl (k _ ?_)⟩
      · unfold RIx
        rw [e]
        exact ⟨by rw [sizeLine_eq]; exact hz, _, q, rfl⟩
      · unfold strD
        exact List.mem_map.mpr ⟨_, List.getElem_mem hi, rfl⟩
  · cases hq
theorem len_law_of (ds : List D) (h : GH) (P : GP) (hs : S_law_of ds h P) : ds.length = 2 := by obtain ⟨b, d, xs, rfl, _⟩ := hs; rfl
/-! ## a drawn fraction -/
def S_law_ratio : GSpec := fun ds h P => ∃ (b : Addr) (m : Int), ds = [.ref b, .int m] ∧ h b = some .bag ∧ 0 < m ∧ m ≤ 2 ^ 60 ∧ ∀ p : Int × Int, isLow p → p.1.natAbs ≤ (max 10 m).natAbs → p.2.natAbs ≤ (max 10 m).natAbs → P (fr p) h
def g_law_ratio : gTS := (sSeq (sSet 2 (gCall S_law_of (aCons (gVar 0) (aCons (gFr (fLst (aCons (gC (.int 3)) (aCons (gC (.int 10)) (aCons (gVar 1) aNil))))) aNil))))
 (sRet (gCall S_law_low (aCons (gBin RSub (gCall S_law_pull (aCons (gVar 0) (aCons (gBin RAdd (gBin RMul (gC (.int 2)) (gVar 2)) (gC (.int 1))) aNil))) (gVar 2)) (aCons (gBin RAdd (gC (.int 1)) (gCall S_law_pull (aCons (gVar 0) (aCons (gVar 2) aNil)))) aNil)))))
theorem pure_law_ratio (ds : List D) (h : GH) (P : GP) (hs : S_law_ratio ds h P) : g_law_ratio { nx := fun _ h' => P .non h', rt := P } (startG ["_law_bag_here", "_law_most", "_law_top"] ds) h := by
  obtain ⟨b, m, rfl, hb, h0, hz, k⟩ := hs
  refine ⟨_, rfl, _, rfl, by show 3 ≤ sizeLine; decide, b, _, _, rfl, hb, rfl, (fun q => nomatch q), by show 3 ≤ sizeLine; decide, fun x hx => ?_⟩
  obtain ⟨t, rfl, t0, t1, t2⟩ : ∃ t : Int, x = .int t ∧ 0 < t ∧ t ≤ max 10 m ∧ t ≤ 2 ^ 60 := by
    rcases List.mem_cons.mp hx with rfl | hx
    · exact ⟨3, rfl, by decide, by omega, by decide⟩
    · rcases List.mem_cons.mp hx with rfl | hx
      · exact ⟨10, rfl, by decide, by omega, by decide⟩
      · rcases List.mem_cons.mp hx with rfl | hx
        · exact ⟨m, rfl, h0, by omega, hz⟩
        · cases hx
  have e0 : ∀ n : Int, 0 ≤ n → n ≤ 2 ^ 62 → n.natAbs.log2 < 9000 := fun n a1 a2 => small_log (by omega)
  refine ⟨_, rfl, _, rfl, _, ⟨mulL (by decide) (by decide), rfl⟩, _, rfl, b, _, rfl, hb, by omega, e0 _ (by omega) (by omega), fun u u0 u1 => ?_⟩
  refine ⟨_, rfl, _, rfl, _, rfl, _, rfl, b, _, rfl, hb, t0, e0 _ (by omega) (by omega), fun v v0 v1 => ?_⟩
  refine ⟨_, rfl, _, _, rfl, by omega, ?_, .inl ?_⟩
  · have : (1 + v).natAbs ≤ 2 ^ 61 := by omega
    exact Nat.lt_of_le_of_lt this (Nat.pow_lt_pow_right (by decide) (by decide))
  · refine k _ (low_low (by omega)) (Nat.le_trans (ediv_natAbs_le _ _) ?_) (Nat.le_trans (ediv_natAbs_le _ _) ?_)
    · omega
    · omega
theorem len_law_ratio (ds : List D) (h : GH) (P : GP) (hs : S_law_ratio ds h P) : ds.length = 2 := by obtain ⟨b, d, rfl, _⟩ := hs; rfl
end Gh

set_option maxHeartbeats 1000000
namespace Gh
open PySem L2
/-! ## the bag is made -/
def S_law_bag : GSpec := fun ds h P => ∃ ns : List Int, ds = [.fro (ns.map .int)] ∧ ns.length ≤ 63 ∧ ∀ b, h b = none → P (.ref b) (put h b .bag)
def g_law_bag : gTS := (sSeq (sSet 1 (gC (.int 3801)))
 (sSeq (sFor (iSeq (gSl (gVar 0) gNoPart (gPart (gC (.int 63))))) (tgName 2)
  (sSet 1 (gBin RMod (gBin RAdd (gBin RAdd (gBin RMul (gVar 1) (gC (.int 52163))) (gBin RMod (gVar 2) (gC (.int 2147483549)))) (gC (.int 17))) (gC (.int 2147483647)))))
 (sRetO (fLst (aCons (gFr (fList (aCons (gSl (gVar 0) gNoPart (gPart (gC (.int 63)))) aNil))) (aCons (gC (.int 0)) (aCons (gC (.int 0)) (aCons (gVar 1) (aCons (gC (.int 0)) aNil)))))))))
theorem cut63 {α : Type} (xs : List α) (h : xs.length ≤ 63) : cutD xs none (some 63) = xs := by
  unfold cutD
  rw [HT.sIx_none, List.drop_zero, Nat.sub_zero]
  have e : HT.sIx xs.length xs.length (some 63) = min 63 xs.length := HT.sIx_nat xs.length xs.length 63
  rw [e, Nat.min_eq_right h, List.take_length]
theorem bag_loop {d : D} {h : GH} {N : GEnds} (k : ∀ (s : Int) (o : Option D), 0 ≤ s → s < 2147483647 → N.nx [some d, some (.int s), o] h) : ∀ (ns : List Int) (s : Int) (o : Option D), 0 ≤ s → s < 2147483647 →
    gLoop (tgName 2) (sSet 1 (gBin RMod (gBin RAdd (gBin RAdd (gBin RMul (gVar 1) (gC (.int 52163))) (gBin RMod (gVar 2) (gC (.int 2147483549)))) (gC (.int 17))) (gC (.int 2147483647)))) N (ns.map .int) [some d, some (.int s), o] h
  | [], s, o, h0, h1 => k s o h0 h1
  | n :: r, s, o, h0, h1 => by
    have hs := fmod_in (s * 52163 + n.fmod 2147483549 + 17) (show (0 : Int) < 2147483647 by decide)
    refine ⟨_, rfl, _, ⟨mulR (by decide) (by decide), rfl⟩, _, rfl, _, ⟨by decide, rfl⟩, _, rfl, _, rfl, _, ⟨by decide, rfl⟩, ?_⟩
    exact bag_loop k r _ _ hs.1 hs.2
theorem pure_law_bag (ns : List Int) (hl : ns.length ≤ 63) (h : GH) (N : GEnds) (k : ∀ (s : Int) (p : Addr), 0 ≤ s → s < 2147483647 → h p = none → N.rt (.ref p) (put h p (bagL ns 0 0 s 0))) : g_law_bag N [some (.fro (ns.map .int)), none, none] h := by
  have hc : cutD (ns.map D.int) none (some 63) = ns.map D.int := cut63 _ (by rw [List.length_map]; exact hl)
  refine ⟨_, rfl, _, rfl, _, rfl, ?_⟩
  show gLoop _ _ _ (cutD (ns.map D.int) none (some 63)) _ h
  rw [hc]
  refine bag_loop (fun s o h0 h1 => ?_) ns 3801 none (by decide) (by decide)
  refine ⟨_, rfl, _, rfl, _, rfl, _, _, rfl, .inl rfl, ?_⟩
  rw [hc]
  exact ⟨_, rfl, by show 5 ≤ sizeLine; decide, fun p hp => k s p h0 h1 hp⟩
theorem len_law_bag (ds : List D) (h : GH) (P : GP) (hs : S_law_bag ds h P) : ds.length = 1 := by obtain ⟨a, rfl, _⟩ := hs; rfl
section
variable {P : Program} {w : World} {K : Fg} {mg : Str → Option Value} {base : Heap}
theorem gfun_bag {st : Stmt} {f : Addr} {fd : FuncData} {k : Nat} (F : Fun K "_law_bag" "_law_bag" st f fd) (hm : mg "_law_bag" = some (.ref f)) (b : Binds K fd ["_law_script"] []) (sc : FnScope ["_law_script", "_law_salt", "_law_cell"] ["_law_script"] (defScope st))
    (hd : ∀ (cdv : Value) (A : Around) (outer : List Env) (s : Shared) (H : Hp) (E : XK), Room k (A.deeper (PyProof.Rows.envOfC "_law_bag" (defScope st) s.heap.objs.size f cdv)) → PSs (cxOf CX0 P w K mg base ["_law_script", "_law_salt", "_law_cell"] "_law_bag" (defScope st) f cdv A outer s H E).nox (defBody st) (gS K AN.top g_law_bag)) :
    Fc P w K mg base (k + 1) "_law_bag" S_law_bag := by
  refine ⟨f, ?_, hm, F.kp⟩
  have ok : FnOk P w K mg base CX0 (k + 1) f fd ["_law_script"] (GSP K S_law_bag) := by
    refine F.ok sc (fun vs H Q E ⟨ds, h, P, re, dv, s, _⟩ => by rw [dv.length]; exact len_law_bag _ _ _ s) (fun cdv A outer s H vs Q E hr ⟨ds, h, P, re, dv, ⟨ns, e1, hl, hp⟩, kk⟩ => ⟨_, hd cdv A outer s H E hr, ?_⟩)
    subst e1
    refine ⟨[some (.fro (ns.map .int)), none, none], h, { nx := fun _ _ => False, rt := fun d h' => ∃ s p, 0 ≤ s ∧ s < 2147483647 ∧ h p = none ∧ d = .ref p ∧ h' = put h p (bagL ns 0 0 s 0) }, re, Sl.begin dv trivial, pure_law_bag ns hl h _ fun s p h0 h1 n => ⟨s, p, h0, h1, n, rfl, rfl⟩, fun _ _ _ _ _ _ _ z => z.elim, fun v H' d h' st1 re' dv' p => ?_, fun _ _ _ _ _ _ _ z => z.elim, fun _ _ _ _ _ _ _ z => z.elim⟩
    obtain ⟨sa, q, h0, h1, n, rfl, rfl⟩ := p
    cases dv'
    have e : put (put h q GO.bag) q (bagL ns 0 0 sa 0) = put h q (bagL ns 0 0 sa 0) := put_put
    have re2 : Rel K (put h q GO.bag) H' := bag_shut (b := q) (ns := ns) (i := 0) (g := 0) (s := sa) (c := 0) put_same ⟨hl, by decide, by omega, by decide, h0, h1, by decide⟩ (by rw [e]; exact re')
    have st2 : Step (put h q (bagL ns 0 0 sa 0)) H' (put h q GO.bag) H' := Step.dom fun a y => by
      by_cases z : a = q
      · subst z; rw [put_same] at y; cases y
      · rw [put_ne z] at y ⊢; exact y
    exact kk _ H' _ _ (st1.trans st2) re2 (.ref q) (hp q n)
  exact (ok.raw b .nil).imp fun vs H Q E q => by rw [List.append_nil]; exact q
/-- a def that calls itself, with no call left -/
theorem fc_none {x : Str} {st : Stmt} {f : Addr} {fd : FuncData} (F : Fun K x x st f fd) (hm : mg x = some (.ref f)) : Fc P w K mg base 0 x (fun _ _ _ => False) :=
  ⟨f, fun A outer s H us vs Q E _ _ _ ⟨_, _, _, _, _, z, _⟩ => z.elim, hm, F.kp⟩
/-! ## the law itself -/
/-- what law(script) promises: for a list of at most 63 ints the answer is True -/
def S_law : GSpec := fun ds h P => ∃ ns : List Int, ds = [.fro (ns.map .int)] ∧ ns.length ≤ 63 ∧ h = (fun _ => none) ∧ ∀ h', P (.bl true) h'
def spLaw (K : Fg) : Sp := fun vs H Q _ => ∃ (a : Addr) (ns : List Int), vs = [.ref a] ∧ SqL K H a (ns.map V.int) ∧ ns.length ≤ 63 ∧ ∀ H', Q (.bl true) H'
theorem law_of {x : Str} {st : Stmt} {f : Addr} {fd : FuncData} {N ps : List Str} {k : Nat} {g : gTS} (F : Fun K x x st f fd) (sc : FnScope N ps (defScope st)) (hps : ps.length = 1)
    (hd : ∀ (cdv : Value) (A : Around) (outer : List Env) (s : Shared) (H : Hp) (E : XK), Room k (A.deeper (PyProof.Rows.envOfC x (defScope st) s.heap.objs.size f cdv)) → PSs (cxOf CX0 P w K mg base N x (defScope st) f cdv A outer s H E).nox (defBody st) (gS K AN.top g))
    (hg : ∀ (ns : List Int), ns.length ≤ 63 → g { nx := fun _ _ => False, rt := fun d _ => d = .bl true } (startG N [.fro (ns.map .int)]) (fun _ => none)) : FnOk P w K mg base CX0 (k + 1) f fd ps (spLaw K) := by
  refine F.ok sc (fun vs H Q E ⟨a, ns, e, _⟩ => by subst e; exact hps.symm) (fun cdv A outer s H vs Q E hr ⟨a, ns, e, hS, hl, kk⟩ => ⟨_, hd cdv A outer s H E hr, ?_⟩)
  subst e
  have dv : Dvs K (fun _ => none) H [.ref a] [.fro (ns.map .int)] := .cons (.fro (hS.elim (fun z => .inl ⟨rfl, z⟩) .inr) (Dvs.ints ns)) .nil
  exact ⟨startG N [.fro (ns.map .int)], fun _ => none, _, (fun _ _ z => nomatch z), Sl.begin dv trivial, hg ns hl, fun _ _ _ _ _ _ _ z => z.elim, fun v H' d h' st re' dv' p => by subst p; cases dv'; exact kk H', fun _ _ _ _ _ _ _ z => z.elim, fun _ _ _ _ _ _ _ z => z.elim⟩
end
end Gh

set_option maxHeartbeats 1000000
namespace Gh
open PySem L2
/-! ## more on fractions -/
theorem addF_zero {p : Int × Int} (h : isLow p) : addF (0, 1) p = p := by
  have e : addF (0, 1) p = low p.1 p.2 := by
    unfold addF
    show low (0 * p.2 + p.1 * 1) (1 * p.2) = _
    rw [Int.zero_mul, Int.zero_add, Int.mul_one, Int.one_mul]
  rw [e, low_self h]
theorem mulF_one {p : Int × Int} (h : isLow p) : mulF (1, 1) p = p := by
  have e : mulF (1, 1) p = low p.1 p.2 := by
    unfold mulF
    show low (1 * p.1) (1 * p.2) = _
    rw [Int.one_mul, Int.one_mul]
  rw [e, low_self h]
theorem addF_low {p q : Int × Int} (hp : 0 < p.2) (hq : 0 < q.2) : isLow (addF p q) := low_low (Int.mul_pos hp hq)
theorem mulF_low {p q : Int × Int} (hp : 0 < p.2) (hq : 0 < q.2) : isLow (mulF p q) := low_low (Int.mul_pos hp hq)
theorem low_spec {n d : Int} (hd : 0 < d) : ∃ g : Int, 0 < g ∧ n = g * (low n d).1 ∧ d = g * (low n d).2 := by
  have hg := Int.gcd_pos_of_ne_zero_right n (show d ≠ 0 by omega)
  refine ⟨(Int.gcd n d : Nat), by omega, ?_, ?_⟩
  · exact (Int.mul_ediv_cancel' (Int.gcd_dvd_left n d)).symm
  · exact (Int.mul_ediv_cancel' (Int.gcd_dvd_right n d)).symm
theorem lt_scale {g x y : Int} (hg : 0 < g) : g * x < g * y ↔ x < y := Int.mul_lt_mul_left hg
theorem ord_low {n d n' d' : Int} (hd : 0 < d) (hd' : 0 < d') : ordF (low n d) (low n' d') = ordF (n, d) (n', d') := by
  obtain ⟨g, hg, e1, e2⟩ := low_spec (n := n) hd
  obtain ⟨g', hg', e3, e4⟩ := low_spec (n := n') hd'
  have hgg : 0 < g * g' := Int.mul_pos hg hg'
  generalize low n d = p at *
  generalize low n' d' = q at *
  have a1 : n' * d = (g * g') * (q.1 * p.2) := by rw [e2, e3]; ac_rfl
  have a2 : n * d' = (g * g') * (p.1 * q.2) := by rw [e1, e4]; ac_rfl
  unfold ordF
  show _ = (if decide (n' * d < n * d') = true then (1 : Int) else 0) - (if decide (n * d' < n' * d) = true then 1 else 0)
  rw [a1, a2]
  simp only [decide_eq_true_eq, lt_scale hgg]
theorem ord_add {a b c : Int × Int} (ha : 0 < a.2) (hb : 0 < b.2) (hc : 0 < c.2) : ordF (addF a c) (addF b c) = ordF a b := by
  unfold addF
  rw [ord_low (Int.mul_pos ha hc) (Int.mul_pos hb hc)]
  have hcc : 0 < c.2 * c.2 := Int.mul_pos hc hc
  have i1 : (b.1 * c.2 + c.1 * b.2) * (a.2 * c.2) = (c.2 * c.2) * (b.1 * a.2) + c.1 * b.2 * a.2 * c.2 := by
    rw [Int.add_mul]
    have q1 : b.1 * c.2 * (a.2 * c.2) = (c.2 * c.2) * (b.1 * a.2) := by ac_rfl
    have q2 : c.1 * b.2 * (a.2 * c.2) = c.1 * b.2 * a.2 * c.2 := by ac_rfl
    rw [q1, q2]
  have i2 : (a.1 * c.2 + c.1 * a.2) * (b.2 * c.2) = (c.2 * c.2) * (a.1 * b.2) + c.1 * b.2 * a.2 * c.2 := by
    rw [Int.add_mul]
    have q1 : a.1 * c.2 * (b.2 * c.2) = (c.2 * c.2) * (a.1 * b.2) := by ac_rfl
    have q2 : c.1 * a.2 * (b.2 * c.2) = c.1 * b.2 * a.2 * c.2 := by ac_rfl
    rw [q1, q2]
  unfold ordF
  dsimp only
  rw [i1, i2]
  have j1 : ((c.2 * c.2) * (b.1 * a.2) + c.1 * b.2 * a.2 * c.2 < (c.2 * c.2) * (a.1 * b.2) + c.1 * b.2 * a.2 * c.2) ↔ b.1 * a.2 < a.1 * b.2 := by
    rw [Int.add_lt_add_iff_right, lt_scale hcc]
  have j2 : ((c.2 * c.2) * (a.1 * b.2) + c.1 * b.2 * a.2 * c.2 < (c.2 * c.2) * (b.1 * a.2) + c.1 * b.2 * a.2 * c.2) ↔ a.1 * b.2 < b.1 * a.2 := by
    rw [Int.add_lt_add_iff_right, lt_scale hcc]
  simp only [decide_eq_true_eq, j1, j2]
theorem ord_swap (a b : Int × Int) : ordF b a = 0 - ordF a b := by unfold ordF; omega
theorem ord_self (a : Int × Int) : ordF a a = 0 := by unfold ordF; omega
theorem fold_low (f : Int × Int → Int × Int → Int × Int) (hf : ∀ p q : Int × Int, 0 < p.2 → 0 < q.2 → isLow (f p q)) : ∀ (ps : List (Int × Int)) (a : Int × Int), isLow a → (∀ p ∈ ps, 0 < p.2) → isLow (ps.foldl f a)
  | [], a, h, _ => h
  | p :: r, a, h, hp => fold_low f hf r (f a p) (hf a p h.1 (hp p List.mem_cons_self)) fun q hq => hp q (List.mem_cons_of_mem _ hq)
theorem fold_bits {B : Nat} : ∀ (ps : List (Int × Int)) (X : Nat) (a : Int × Int), Bf X a → (∀ p ∈ ps, Bf B p) → Bf (X + ps.length * (B + 1)) (ps.foldl mulF a)
  | [], X, a, h, _ => by simpa using h
  | p :: r, X, a, h, hp => by
    have := fold_bits r (X + B + 1) (mulF a p) (mulF_bits h (hp p List.mem_cons_self)) fun q hq => hp q (List.mem_cons_of_mem _ hq)
    rw [List.length_cons, Nat.succ_mul]
    exact this.mono (by omega)
/-! ## data of fractions -/
theorem okD_fr (n : Nat) (p : Int × Int) : okD (n + 1) (fr p) := ⟨two_le, fun x hx => by
  rcases List.mem_cons.mp hx with rfl | hx
  · cases n <;> trivial
  · rcases List.mem_cons.mp hx with rfl | hx
    · cases n <;> trivial
    · cases hx⟩
theorem okD_lst {n : Nat} {ds : List D} (hz : ds.length ≤ sizeLine) (h : ∀ x ∈ ds, okD n x) : okD (n + 1) (.lst ds) := ⟨hz, h⟩
def prP (p : Int × Int) : PyData := .tuple [.int p.1, .int p.2]
theorem toP_fr (p : Int × Int) : toP (fr p) = some (prP p) := rfl
theorem toPs_fr : ∀ ps : List (Int × Int), toPs (ps.map fr) = some (ps.map prP)
  | [] => rfl
  | p :: r => by
    show (toP (fr p)).bind (fun x => (toPs (r.map fr)).map (x :: ·)) = _
    rw [toP_fr, toPs_fr r]
    rfl
theorem lay_fr : ∀ ps : List (Int × Int), PyData.canLayAll0 (ps.map prP) = true
  | [] => rfl
  | p :: r => by
    show ((prP p).canLay0 && PyData.canLayAll0 (r.map prP)) = true
    rw [lay_fr r]
    rfl
theorem depth_fr : ∀ ps : List (Int × Int), PyData.depthAll (ps.map prP) ≤ 1
  | [] => by decide
  | p :: r => by
    show max (prP p).depth (PyData.depthAll (r.map prP)) ≤ 1
    have := depth_fr r
    have e : (prP p).depth = 1 := rfl
    omega
theorem shaped_fr (ps : List (Int × Int)) : SeqAt.shaped (.list (ps.map prP)) = true := by
  unfold SeqAt.shaped
  have h1 : (PyData.list (ps.map prP)).canLay0 = true := lay_fr ps
  have h2 : (PyData.list (ps.map prP)).depth ≤ 64 := by
    have : (PyData.list (ps.map prP)).depth = PyData.depthAll (ps.map prP) + 1 := rfl
    have := depth_fr ps
    omega
  rw [h1, decide_eq_true h2]
  rfl
theorem ne_same {h : GH} {ps : List (Int × Int)} : REq true h (.lst (ps.map fr)) (.lst (ps.map fr)) (.bl false) := by
  have e : toP (.lst (ps.map fr)) = some (.list (ps.map prP)) := by
    show (toPs (ps.map fr)).map PyData.list = _
    rw [toPs_fr]
    rfl
  refine ⟨_, _, e, e, shaped_fr ps, shaped_fr ps, ?_⟩
  have := SeqAt.eqv_refl (.list (ps.map prP)) (lay_fr ps)
  rw [this]
  rfl
theorem ne_nil {h : GH} {ps : List (Int × Int)} : ∃ b, REq true h (.lst (ps.map fr)) (.lst []) (.bl b) ∧ (b = true → ps ≠ []) := by
  have e : toP (.lst (ps.map fr)) = some (.list (ps.map prP)) := by
    show (toPs (ps.map fr)).map PyData.list = _
    rw [toPs_fr]
    rfl
  refine ⟨_, ⟨_, _, e, rfl, shaped_fr ps, rfl, rfl⟩, fun hb z => ?_⟩
  subst z
  cases hb
theorem F2.frs {α : Type} {Good : Int × Int → Prop} : ∀ {as : List α} {ys : List D}, F2 (fun _ y => ∃ q, y = fr q ∧ Good q) as ys → ∃ qs : List (Int × Int), ys = qs.map fr ∧ qs.length = as.length ∧ ∀ q ∈ qs, Good q
  | _, _, .nil => ⟨[], rfl, rfl, fun _ h => nomatch h⟩
  | _, _, .cons ⟨q, e, g⟩ r => by
    obtain ⟨qs, e2, hl, hg⟩ := F2.frs r
    refine ⟨q :: qs, by rw [e, e2]; rfl, by rw [List.length_cons, List.length_cons, hl], fun x hx => ?_⟩
    rcases List.mem_cons.mp hx with rfl | hx
    · exact g
    · exact hg x hx
theorem of_le {q : Int × Int} {m B : Nat} (hl : isLow q) (h1 : q.1.natAbs ≤ m) (h2 : q.2.natAbs ≤ m) (hm : m < 2 ^ B) : Bf B q := ⟨hl.1, Nat.lt_of_le_of_lt h1 hm, Nat.lt_of_le_of_lt h2 hm⟩
theorem mem3 {α : Type} {P : α → Prop} {a b c : α} (ha : P a) (hb : P b) (hc : P c) : ∀ x ∈ [a, b, c], P x := fun x hx => by
  rcases List.mem_cons.mp hx with rfl | hx
  · exact ha
  · rcases List.mem_cons.mp hx with rfl | hx
    · exact hb
    · rcases List.mem_cons.mp hx with rfl | hx
      · exact hc
      · cases hx
theorem mem2 {α : Type} {P : α → Prop} {a b : α} (ha : P a) (hb : P b) : ∀ x ∈ [a, b], P x := fun x hx => by
  rcases List.mem_cons.mp hx with rfl | hx
  · exact ha
  · rcases List.mem_cons.mp hx with rfl | hx
    · exact hb
    · cases hx
theorem mem1 {α : Type} {P : α → Prop} {a : α} (ha : P a) : ∀ x ∈ [a], P x := fun x hx => by
  rcases List.mem_cons.mp hx with rfl | hx
  · exact ha
  · cases hx
theorem memC {α : Type} {P : α → Prop} {a : α} {l : List α} (ha : P a) (hl : ∀ x ∈ l, P x) : ∀ x ∈ a :: l, P x := fun x hx => by
  rcases List.mem_cons.mp hx with rfl | hx
  · exact ha
  · exact hl x hx
theorem memN {α : Type} {P : α → Prop} : ∀ x ∈ ([] : List α), P x := fun _ h => nomatch h
theorem okI (n : Nat) (i : Int) : okD n (.int i) := by cases n <;> trivial
theorem okB (n : Nat) (i : Bool) : okD n (.bl i) := by cases n <;> trivial
theorem okS (n : Nat) (i : Str) : okD n (.str i) := by cases n <;> trivial
theorem okN (n : Nat) : okD n .non := by cases n <;> trivial
/-- equal data -/
theorem same_of {n : Nat} {h : GH} {P : GP} {a b d : D} (ea : a = d) (eb : b = d) (hv : vw h d = d) (ho : okD n d) (k : P (.bl true) h) : S_law_same n [a, b] h P := by
  subst ea eb
  exact ⟨_, _, _, rfl, hv, hv, ho, k⟩
end Gh

/-! H0: the head's facts over a part of the heap that is found name by name -/
namespace Gh
open PySem PySem.Spec PyProof.Rows L2
def clsBody : Stmt → List Stmt
  | .ClassDef _ _ _ b _ _ _ _ _ _ _ => b
  | _ => []
/-- what is looked at behind an object: a def's code and defaults, a class's names, a dict's values -/
def refsF (o : Obj) : List Addr := match o.data with
  | .func fd => He.refV fd.code ++ (He.refV fd.defaults ++ (He.refV fd.kwdefaults ++ fd.closure.map (·.2)))
  | .cls cd => [cd.ns]
  | _ => []
/-- the values of a dict (a class's names) -/
def refsN (o : Obj) : List Addr := match o.data with
  | .dict es _ => es.toList.flatMap fun e => He.refV e.val
  | _ => []
def next (f : Obj → List Addr) (g : Addr → Option Obj) (as : List Addr) : List Addr := as.flatMap fun a => match g a with
  | some o => f o
  | none => []
def asP (g : Addr → Option Obj) : List Addr :=
  let l1 := next refsN g [mainGlobals]
  let l2 := next refsF g l1
  let l3 := next refsN g l2
  let l4 := next refsF g l3
  mainGlobals :: cStatics :: (l1 ++ (l2 ++ (l3 ++ l4)))
abbrev AlP : Type := Bool × List He.FnW
def obsP (fa : List (PySem.W.Frag → Bool)) (fn : List He.DefD) (K : PySem.W.Frag) : AlP := ((fa.all fun f => f K) && fn.all fun d => d.ok K, fn.map fun d => He.fnW K d.at_)
def valP (fn : List He.DefD) : AlP := (true, fn.map He.DefD.val)
def SaysP (fa : List (PySem.W.Frag → Bool)) (fn : List He.DefD) (K : PySem.W.Frag) : Prop := obsP fa fn K = valP fn
def obsPG (fa : List (PySem.W.Frag → Bool)) (fn : List He.DefD) (g : Addr → Option Obj) : AlP := obsP fa fn (He.frG g (asP g))
def hookP (fa : List (PySem.W.Frag → Bool)) (fn : List He.DefD) : PySem.W.Hook where
  α := AlP
  obs := fun s => obsPG fa fn s.heap.get?
  val := fun _ => valP fn
  says := fun _ h => ∃ K : PySem.W.Frag, K.In h ∧ SaysP fa fn K
  of := fun _ _ e => ⟨_, He.frG_in, e⟩
  keeps := fun _ _ _ ⟨K, hK, c⟩ k => ⟨K, PySem.W.Frag.In.keeps hK k, c⟩
theorem obsPG_eq {fa : List (PySem.W.Frag → Bool)} {fn : List He.DefD} {g : Addr → Option Obj} {s : Shared} (h : ∀ a, g a = s.heap.get? a) : obsPG fa fn g = (hookP fa fn).obs s := by
  have e : g = s.heap.get? := funext h
  rw [e] <;> rfl
section
variable {fa : List (PySem.W.Frag → Bool)} {fn : List He.DefD} {K : PySem.W.Frag}
theorem SaysP.fact (c : SaysP fa fn K) (i : Nat) {f : PySem.W.Frag → Bool} (h : fa[i]? = some f := by rfl) : f K = true := by
  have c1 := (He.ba (show ((fa.all fun f => f K) && fn.all fun d => d.ok K) = true from congrArg (fun z : AlP => z.1) c)).1
  exact List.all_eq_true.mp c1 f (List.mem_of_getElem? h)
theorem SaysP.def_ (c : SaysP fa fn K) (i : Nat) {d : He.DefD} (h : fn[i]? = some d := by rfl) : ∃ fd, FunD K d.name d.qual d.params d.body d.scope (d.dvs K) (d.kws K) (He.fAd K d.at_) fd := by
  have c2 := (He.ba (show ((fa.all fun f => f K) && fn.all fun d => d.ok K) = true from congrArg (fun z : AlP => z.1) c)).2
  have e : fn.map (fun d => He.fnW K d.at_) = fn.map He.DefD.val := congrArg (fun z : AlP => z.2) c
  have e2 : (fn.map fun d => He.fnW K d.at_)[i]? = (fn.map He.DefD.val)[i]? := by rw [e]
  rw [List.getElem?_map, List.getElem?_map, h] at e2
  exact He.DefD.funD (Option.some.inj e2) (List.all_eq_true.mp c2 d (List.mem_of_getElem? h))
end
end Gh

/-! H1: the head's facts, with the tables of the defs that make lambdas -/
namespace Gh
open PySem PySem.Spec PyProof.Rows L2
/-- the code of the module's def x -/
def codeOf (K : PySem.W.Frag) (x : Str) : Option Addr := match K.lookup (He.ga K x) with
  | some ⟨_, _, .func fd, _⟩ => (match fd.code with
    | .ref c => some c
    | _ => none)
  | _ => none
def hdB (o : Obj) : Option Addr := match o.cls with
  | .type t => (match o.data with
    | .fields vs => (match (vs[11]? : Option Value) with
      | some (Value.ref P) => (match vs.getD 18 .none with
        | .str _ _ => (match vs.getD 7 .none with
          | .int _ _ => (match vs.getD 9 .none with
            | .bool _ => (match vs.getD 10 .none with
              | .int _ _ => if t = "code" then some P else none
              | _ => none)
            | _ => none)
          | _ => none)
        | _ => none)
      | _ => none)
    | _ => none)
  | _ => none
def emptyTab (o : Obj) : Bool := match o with
  | ⟨.none, none, .fields ps, sl⟩ => ps.toList.isEmpty && sl.toList.isEmpty
  | _ => false
def tabB (g : Addr → Option Obj) (K : PySem.W.Frag) (x : Str) : Bool := match codeOf K x with
  | some c => (match g c with
    | some o => (match hdB o with
      | some P => !(c == P) && ((match g P with
        | some t => emptyTab t
        | none => false) && (match K.lookup P with
        | some _ => false
        | none => true))
      | none => false)
    | none => false)
  | none => false
def TabOk (h : Heap) (K : PySem.W.Frag) (x : Str) : Prop := ∃ c P, codeOf K x = some c ∧ PySem.W.CodeHd h c P ∧ h.get? P = some { cls := .none, data := .fields #[] } ∧ K.lookup P = none
theorem tabB_ok {h : Heap} {K : PySem.W.Frag} {x : Str} (e : tabB h.get? K x = true) : TabOk h K x := by
  unfold tabB at e
  split at e
  · rename_i c hc
    split at e
    · rename_i o ho
      split at e
      · rename_i P hP
        obtain ⟨e1, e2⟩ := Bool.and_eq_true_iff.mp e
        obtain ⟨e3, e4⟩ := Bool.and_eq_true_iff.mp e2
        refine ⟨c, P, hc, ?_, ?_, ?_⟩
        · unfold hdB at hP
          split at hP
          · rename_i t h1
            split at hP
            · rename_i vs h2
              split at hP
              · rename_i P' q2
                split at hP
                · rename_i a1 b1 q3
                  split at hP
                  · rename_i a2 b2 q4
                    split at hP
                    · rename_i a3 q5
                      split at hP
                      · rename_i a4 b4 q6
                        split at hP
                        · rename_i q1
                          cases hP
                          refine ⟨o, vs, _, _, _, _, _, _, _, ho, ?_, h2, q2, ?_, q3, q4, q5, q6, ?_⟩
                          · rw [h1, q1]
                          · rw [Array.getD_eq_getD_getElem?, q2]; rfl
                          · intro z; rw [z] at e1; simp at e1
                        · cases hP
                      · cases hP
                    · cases hP
                  · cases hP
                · cases hP
              · cases hP
            · cases hP
          · cases hP
        · split at e3
          · rename_i t ht
            unfold emptyTab at e3
            split at e3
            · rename_i ps sl
              obtain ⟨z1, z2⟩ := Bool.and_eq_true_iff.mp e3
              have y1 : ps = #[] := by
                have := List.isEmpty_iff.mp z1
                exact Array.toList_eq_nil_iff.mp this
              have y2 : sl = #[] := by
                have := List.isEmpty_iff.mp z2
                exact Array.toList_eq_nil_iff.mp this
              rw [ht, y1, y2]
            · cases e3
          · cases e3
        · split at e4
          · cases e4
          · assumption
      · cases e
    · cases e
  · cases e
theorem TabOk.keeps {h h' : Heap} {K : PySem.W.Frag} {x : Str} (t : TabOk h K x) (k : ∀ b o, h.get? b = some o → h'.get? b = some o) : TabOk h' K x := by
  obtain ⟨c, P, hc, ⟨o, vs, a1, a2, a3, a4, a5, a6, a7, ho, r⟩, hP, n⟩ := t
  exact ⟨c, P, hc, ⟨o, vs, a1, a2, a3, a4, a5, a6, a7, k _ _ ho, r⟩, k _ _ hP, n⟩
abbrev AlQ : Type := Bool × List He.FnV × List He.FnW
structure Plan where
  fa : List (PySem.W.Frag → Bool)
  fn : List He.FnD
  dn : List He.DefD
  tb : List Str
def Plan.obs (p : Plan) (g : Addr → Option Obj) (K : PySem.W.Frag) : AlQ := ((p.fa.all fun f => f K) && ((p.fn.all fun d => (He.Fa.code d.at_ d.qual).ok K && PySem.W.keepIn K (.ref (He.fAd K d.at_))) && ((p.dn.all fun d => d.ok K) && p.tb.all fun x => tabB g K x)), p.fn.map fun d => He.fnObs K d.at_, p.dn.map fun d => He.fnW K d.at_)
def Plan.val (p : Plan) : AlQ := (true, p.fn.map He.FnD.val, p.dn.map He.DefD.val)
def Plan.obsG (p : Plan) (g : Addr → Option Obj) : AlQ := p.obs g (He.frG g (asP g))
structure Plan.Says (p : Plan) (h : Heap) (K : PySem.W.Frag) : Prop where
  fact : ∀ f ∈ p.fa, f K = true
  fn : ∀ d ∈ p.fn, (∃ oc od osl kV doc pm an cdv ct, K.lookup (He.fAd K d.at_) = some ⟨oc, od, .func (PySem.W.fnOf d.name d.qual d.params d.body d.scope .none kV doc pm an cdv ct), osl⟩ ∧ PySem.W.codeIn K cdv d.qual = true) ∧ PySem.W.keepIn K (.ref (He.fAd K d.at_)) = true
  dn : ∀ d ∈ p.dn, ∃ fd, FunD K d.name d.qual d.params d.body d.scope (d.dvs K) (d.kws K) (He.fAd K d.at_) fd
  tb : ∀ x ∈ p.tb, TabOk h K x
theorem map_at {α β : Type} {f g : α → β} : ∀ {l : List α}, l.map f = l.map g → ∀ x ∈ l, f x = g x
  | [], _, x, hx => nomatch hx
  | a :: r, e, x, hx => by
    injection e with e1 e2
    rcases List.mem_cons.mp hx with rfl | hx
    · exact e1
    · exact map_at e2 x hx
theorem Plan.says_of {p : Plan} {h : Heap} {K : PySem.W.Frag} (e : p.obs h.get? K = p.val) : p.Says h K := by
  have e0 : _ = true := congrArg (fun z : AlQ => z.1) e
  have e1 : p.fn.map (fun d => He.fnObs K d.at_) = p.fn.map He.FnD.val := congrArg (fun z : AlQ => z.2.1) e
  have e2 : p.dn.map (fun d => He.fnW K d.at_) = p.dn.map He.DefD.val := congrArg (fun z : AlQ => z.2.2) e
  obtain ⟨b1, b⟩ := He.ba e0
  obtain ⟨b2, b⟩ := He.ba b
  obtain ⟨b3, b4⟩ := He.ba b
  refine ⟨fun f hf => List.all_eq_true.mp b1 f hf, fun d hd => ?_, fun d hd => He.DefD.funD (map_at e2 d hd) (List.all_eq_true.mp b3 d hd), fun x hx => tabB_ok (List.all_eq_true.mp b4 x hx)⟩
  obtain ⟨c1, c2⟩ := He.ba (List.all_eq_true.mp b2 d hd)
  exact ⟨He.fn_ok (map_at e1 d hd) c1, c2⟩
def Plan.hook (p : Plan) : PySem.W.Hook where
  α := AlQ
  obs := fun s => p.obsG s.heap.get?
  val := fun _ => p.val
  says := fun _ h => ∃ K : PySem.W.Frag, K.In h ∧ p.Says h K
  of := fun _ _ e => ⟨_, He.frG_in, Plan.says_of e⟩
  keeps := fun _ _ _ ⟨K, hK, c⟩ k => ⟨K, PySem.W.Frag.In.keeps hK k, ⟨c.fact, c.fn, c.dn, fun x hx => (c.tb x hx).keeps k⟩⟩
theorem Plan.obsG_eq {p : Plan} {g : Addr → Option Obj} {s : Shared} (h : ∀ a, g a = s.heap.get? a) : p.obsG g = p.hook.obs s := by
  have e : g = s.heap.get? := funext h
  rw [e] <;> rfl
end Gh
namespace Gh
open PySem PySem.Spec PyProof.Rows L2
theorem Plan.Says.factAt {p : Plan} {h : Heap} {K : PySem.W.Frag} (c : p.Says h K) (i : Nat) {f : PySem.W.Frag → Bool} (e : p.fa[i]? = some f := by rfl) : f K = true := c.fact f (List.mem_of_getElem? e)
theorem Plan.Says.fnAt {p : Plan} {h : Heap} {K : PySem.W.Frag} (c : p.Says h K) (i : Nat) {d : He.FnD} (e : p.fn[i]? = some d := by rfl) : (∃ oc od osl kV doc pm an cdv ct, K.lookup (He.fAd K d.at_) = some ⟨oc, od, .func (PySem.W.fnOf d.name d.qual d.params d.body d.scope .none kV doc pm an cdv ct), osl⟩ ∧ PySem.W.codeIn K cdv d.qual = true) ∧ PySem.W.keepIn K (.ref (He.fAd K d.at_)) = true := c.fn d (List.mem_of_getElem? e)
theorem Plan.Says.fun_ {p : Plan} {h : Heap} {K : PySem.W.Frag} (c : p.Says h K) (i : Nat) {x : Str} {q : Str} {at_ : Str × Option Str} {st : Stmt} (e : p.fn[i]? = some ⟨at_, x, q, defArgs st, defBody st, defScope st⟩ := by rfl) : ∃ fd, Fun K x q st (He.fAd K at_) fd := by
  obtain ⟨⟨oc, od, osl, kV, doc, pm, an, cdv, ct, l, c1⟩, k⟩ := c.fnAt i e
  exact ⟨_, fun_mk l c1 k⟩
end Gh

/-! O1: owned instances: fields, making, methods by the class, isinstance with own classes -/
namespace Gh
open PySem PySem.Spec PyProof.Rows L2
def putG (f : Str) (d : D) : List (Str × D) → List (Str × D)
  | [] => [(f, d)]
  | (g, x) :: r => if g = f then (g, d) :: r else (g, x) :: putG f d r
theorem ins_look {K : Fg} {h : GH} {H : Hp} {f : Str} {d : D} : ∀ {fs : List (Str × D)} {vs : List V}, Dvs K h H vs (fs.map (·.2)) → fs.lookup f = some d → ∃ v, ((fs.map (·.1)).zip vs).lookup f = some v ∧ Dv K h H v d
  | [], _, _, e => by cases e
  | (g, x) :: r, _, .cons (v := v) a t, e => by
    show ∃ v', List.lookup f ((g, v) :: (r.map (·.1)).zip _) = some v' ∧ _
    by_cases z : (f == g) = true
    · simp only [List.lookup, z] at e ⊢
      cases e
      exact ⟨v, rfl, a⟩
    · have z : (f == g) = false := by simpa using z
      simp only [List.lookup, z] at e ⊢
      exact ins_look t e
theorem ins_lookN {f : Str} : ∀ {fs : List (Str × D)} {vs : List V}, fs.lookup f = none → ((fs.map (·.1)).zip vs).lookup f = none
  | [], _, _ => rfl
  | (g, x) :: r, [], _ => rfl
  | (g, x) :: r, v :: vs, e => by
    show List.lookup f ((g, v) :: (r.map (·.1)).zip _) = none
    by_cases z : (f == g) = true
    · simp only [List.lookup, z] at e; cases e
    · have z : (f == g) = false := by simpa using z
      simp only [List.lookup, z] at e ⊢
      exact ins_lookN e
theorem ins_put {K : Fg} {h : GH} {H : Hp} {f : Str} {d : D} {y : V} (dy : Dv K h H y d) : ∀ {fs : List (Str × D)} {vs : List V}, Dvs K h H vs (fs.map (·.2)) → ∃ ws, putF f y ((fs.map (·.1)).zip vs) = ((putG f d fs).map (·.1)).zip ws ∧ Dvs K h H ws ((putG f d fs).map (·.2))
  | [], _, .nil => ⟨[y], rfl, .cons dy .nil⟩
  | (g, x) :: r, _, .cons (v := v) (vs := vs) a t => by
    by_cases z : g = f
    · refine ⟨y :: vs, ?_, ?_⟩
      · show putF f y ((g, v) :: (r.map (·.1)).zip vs) = _
        unfold putF putG
        rw [if_pos z, if_pos z]
        rfl
      · unfold putG
        rw [if_pos z]
        exact .cons dy t
    · obtain ⟨ws, e1, e2⟩ := ins_put dy t
      refine ⟨v :: ws, ?_, ?_⟩
      · show putF f y ((g, v) :: (r.map (·.1)).zip vs) = _
        unfold putF putG
        rw [if_neg z, if_neg z, e1]
        rfl
      · unfold putG
        rw [if_neg z]
        exact .cons a e2
section
variable {X : Cx} {An : AN} {a b e o v : Expr} {es : List Expr} {ga gb go gv : gTE} {gas : gTA} {pos pos' p : Pos}
/-! ### fields -/
/-- e.f, a field of an owned instance, of a class of F -/
def gFld (F : Addr → Prop) (f : Str) (ga : gTE) : gTE := fun s h P => ga s h fun d h1 => ∃ q C fs c, d = .ref q ∧ h1 q = some (.ins C fs) ∧ F C ∧ fs.lookup f = some c ∧ P c h1
theorem e_fld {F : Addr → Prop} {f : Str} (hF : ∀ C, F C → Cls X.K C ∧ NoAttr X.K C f) (he : PE X e (gE X.K An ga)) (hb : attributeBase e f X.env (eval e X.env) = eval e X.env := by rfl) : PE X (.Attribute e f pos) (gE X.K An (gFld F f ga)) :=
  (pe_fld he hb).imp fun σ H Q ⟨s, h, P, re, l, g, k⟩ => by
    refine ⟨s, h, _, re, l, g, fun x H1 d h1 s1 re1 dx ⟨q, C, fs, c, ed, hq, hC, hl, pp⟩ => ?_⟩
    subst ed
    cases dx
    obtain ⟨dx, vs, hH, rs⟩ := re1 q _ hq
    obtain ⟨u, hu, du⟩ := ins_look rs hl
    exact ⟨q, C, dx, _, u, rfl, hH, (hF C hC).1, (hF C hC).2, hu, k u H1 c h1 s1 re1 du pp⟩
/-- o.f = v -/
def sFl (F : Addr → Prop) (f : Str) (go gv : gTE) : gTS := fun N s h => gv s h fun c h1 => go s h1 fun d h2 => ∃ q C fs, d = .ref q ∧ h2 q = some (.ins C fs) ∧ F C ∧ fs.length < 1000 ∧ N.nx s (put h2 q (.ins C (putG f c fs)))
theorem s_fld {F : Addr → Prop} {f : Str} (hF : ∀ C, F C → Cls X.K C ∧ NoAttr X.K C f) (ho : PE X o (gE X.K An go)) (hv : PE X v (gE X.K An gv)) (hs : swapsWith v (some (.Attribute o f pos')) pos.line X.env = pure false := by rfl) :
    PS X (.Assign [.Attribute o f pos'] v pos) (gS X.K An (sFl F f go gv)) := (ps_fld ho hv hs).imp fun De σ H ⟨s, h, N, re, l, g, m⟩ => by
  refine ⟨s, h, _, re, l, g, fun y H1 c h1 s1 re1 dy g1 => ?_⟩
  refine ⟨s, h1, _, re1, l.mono s1, g1, fun x H2 d h2 s2 re2 dx ⟨q, C, fs, ed, hq, hC, hl, pp⟩ => ?_⟩
  subst ed
  cases dx
  obtain ⟨dx, vs, hH, rs⟩ := re2 q _ hq
  have hlen : ((fs.map (·.1)).zip vs).length < 1000 := by
    have e := rs.length
    rw [List.length_map] at e
    rw [List.length_zip, List.length_map]; omega
  refine ⟨q, C, dx, _, rfl, hH, (hF C hC).1, (hF C hC).2, hlen, ?_⟩
  obtain ⟨ws, e1, e2⟩ := ins_put (f := f) (dy.mono s2) rs
  have st : Step h2 H2 (put h2 q (GO.ins C (putG f c fs))) (upd H2 q (.ins C dx (putF f y ((fs.map (·.1)).zip vs)))) := Step.set (by rw [hq]; simp)
  refine m.nx σ _ s _ ((s1.trans s2).trans st) (re2.put st ?_) (l.mono ((s1.trans s2).trans st)) pp
  refine ⟨dx, ws, ?_, e2.mono st⟩
  rw [upd_same, e1]
/-! ### making -/
/-- a class that is made by its name -/
def Mkc (P : Program) (w : World) (K : Fg) (mg : Str → Option Value) (base : Heap) (k : Nat) (x : Str) (C : Addr) (S : GSpec) : Prop :=
  ∃ f : Addr, FnR P w K mg base CX0 k f (GSP K S) ∧ Mk K C f ∧ mg x = some (.ref C)
def gMake (C : Addr) (S : GSpec) (ga : gTA) : gTE := fun s h P => ga s h fun ds h1 => ∀ q, h1 q = none → S (.ref q :: ds) (put h1 q (.ins C [])) fun d h2 => d = .non ∧ P (.ref q) h2
theorem run_makeR {CX : CXT} {k : Nat} {C f : Addr} {sp : Sp} {E : XK} {pins : List (Addr × Obj)} {σ : L2.St} {H : Hp} {s : Shared} {Q : VK} {us : List Value} {vs : List V} (M : Mk X.K C f) (F : FnR X.prog X.w X.K X.mg X.base CX k f sp) (hr : Room (k + 1) X.A) (hx : Passes CX X E) (I : Inv X pins σ H s) (r : Vals vs us)
    (h : ∀ x dx, H x = none → H dx = none → dx ≠ x → sp (V.ref x :: vs) (upd (upd H dx (.own x)) x (.ins C dx [])) (fun v H2 => v = .non ∧ Q (.ref x) H2) E) : wpAny (model X.prog X.w) X.A (call (.ref C) us) (EP X pins σ Q) X.xe s := by
  have hq := h (s.heap.objs.size + 1) s.heap.objs.size (I.hok.fresh (Nat.le_succ _)) (I.hok.fresh (Nat.le_refl _)) (Nat.ne_of_lt (Nat.lt_succ_self _))
  have I2 := Inv.made (C := C) I
  have r2 : Vals (V.ref (s.heap.objs.size + 1) :: vs) (Value.ref (s.heap.objs.size + 1) :: us) := .cons rfl r
  refine wpAny_call (make_map (f := f) I.kIn M.makes M.init (beq_iff_eq.mp M.fn) (codeAny_mono (F _ X.stack _ _ (Value.ref (s.heap.objs.size + 1) :: us) _ _ E (hr.make C us []) (I2.env0.make C us []) r2 hq) fun r s' hq' => ?_))
  cases r with
  | error e => exact hx pins σ _ _ e s' I2 hq'
  | ok fl =>
    cases fl with
    | ret u =>
      obtain ⟨v, H', I3, rv, ev, q3⟩ := I2.after hq'
      subst ev
      exact ⟨rv, ⟨V.ref (s.heap.objs.size + 1), H', I3, rfl, q3⟩⟩
    | next => exact False.elim hq'
    | brk => exact False.elim hq'
    | cont => exact False.elim hq'
theorem make_of {K : Fg} {C : Addr} {S : GSpec} {h1 : GH} {H1 : Hp} {ds : List D} {vs : List V} {P : GP} {Q : VK} {E : XK} {h : GH} {H : Hp} (s1 : Step h H h1 H1) (re1 : Rel K h1 H1) (dv : Dvs K h1 H1 vs ds)
    (g1 : ∀ q, h1 q = none → S (.ref q :: ds) (put h1 q (.ins C [])) fun d h2 => d = .non ∧ P (.ref q) h2) (k : ∀ v H' d h', Step h H h' H' → Rel K h' H' → Dv K h' H' v d → P d h' → Q v H') :
    ∀ x dx, H1 x = none → H1 dx = none → dx ≠ x → GSP K S (V.ref x :: vs) (upd (upd H1 dx (.own x)) x (.ins C dx [])) (fun v H2 => v = .non ∧ Q (.ref x) H2) E := by
  intro x dx nx nd ne
  have n2 : (upd H1 dx (.own x)) x = none := by rw [upd_ne (Ne.symm ne)]; exact nx
  have t1 : Step h1 H1 h1 (upd H1 dx (.own x)) := Step.new nd
  have t2 : Step h1 (upd H1 dx (.own x)) (put h1 x (.ins C [])) (upd (upd H1 dx (.own x)) x (.ins C dx [])) := Step.newO n2
  have re2 : Rel K h1 (upd H1 dx (.own x)) := re1.new nd
  have re3 : Rel K (put h1 x (.ins C [])) (upd (upd H1 dx (.own x)) x (.ins C dx [])) := re2.put t2 ⟨dx, [], upd_same, .nil⟩
  refine ⟨.ref x :: ds, _, _, re3, .cons (.ref x) ((dv.mono t1).mono t2), g1 x (re1.free nx), fun v H' d h' s2 re' dv' ⟨ed, pp⟩ => ?_⟩
  subst ed
  cases dv'
  exact ⟨rfl, k _ H' _ h' (((s1.trans t1).trans t2).trans s2) re' (.ref x) pp⟩
theorem e_make {k j : Nat} {x : Str} {C : Addr} {S : GSpec} (c : Mkc X.prog X.w X.K X.mg X.base k x C S) (hr : Room j X.A) (hk : k + 1 ≤ j) (ha : PA X (e :: es) (gA X.K An gas)) (hg : Gl X x := by rfl) (hdb : (x == ("__debug__" : Str)) = false := by decide)
    (he : starEach (e :: es) X.env = (false, eval e X.env) :: starEach es X.env := by rfl) (hpl : (backTo pos (starEach es X.env)).any (·.1) = false := by rfl) :
    PE X (.Call (.Name x p) (e :: es) [] pos) (gE X.K An (gMake C S gas)) := by
  obtain ⟨f, F, M, hm⟩ := c
  refine ⟨fun pins s σ H Q I h => ?_⟩
  refine wpAny_Call_Name_kw (ld_glob I hg hm ?_ hdb)
  obtain ⟨sl, h0, P, re, l, g, kk⟩ := h
  refine PySem.W.callWith_K (h₀ := X.base) I.ok.mod.kin M.kp (thn (ha.run pos pins s σ H (fun vs H1 => ∀ x dx, H1 x = none → H1 dx = none → dx ≠ x → GSP X.K S (V.ref x :: vs) (upd (upd H1 dx (.own x)) x (.ins C dx [])) (fun v H2 => v = .non ∧ Q (.ref x) H2) E0) I
    ⟨sl, h0, _, re, l, g, fun vs H1 ds h1 s1 re1 dv g1 => make_of s1 re1 dv g1 kk⟩) fun us s1 ⟨vs, H1, I1, r, q⟩ => ⟨I1.kIn, ?_⟩) he hpl
  exact run_makeR M F (hr.mono hk) pass0 I1 r q
/-! ### methods, by the class -/
def Mtc (P : Program) (w : World) (K : Fg) (mg : Str → Option Value) (base : Heap) (k : Nat) (C : Addr) (m : Str) (S : GSpec) : Prop :=
  ∃ f : Addr, FnR P w K mg base CX0 k f (GSP K S) ∧ Cls K C ∧ Meth K C m f
/-- o.m(): sel tells the method's spec by the class -/
def gMeth (sel : Addr → GSpec → Prop) (m : Str) (go : gTE) (ga : gTA) : gTE := fun s h P => go s h fun d h1 => ∃ q C fs S, d = .ref q ∧ h1 q = some (.ins C fs) ∧ fs.lookup m = none ∧ sel C S ∧ ga s h1 fun ds h2 => S (d :: ds) h2 P
theorem e_meth0 {k j : Nat} {m : Str} {sel : Addr → GSpec → Prop} {apos : Pos} {pl : Sem Bool} (c : ∀ C S, sel C S → Mtc X.prog X.w X.K X.mg X.base k C m S) (hr : Room j X.A) (hk : k ≤ j) (ho : PE X o (gE X.K An go))
    (ht : eval (.Call (.Attribute o m apos) [] [] pos) X.env = (do
      let ov ← eval o X.env
      standAt apos.atName
      let (f, first) ← holding [ov] (getMethod ov m pl)
      callWith pos f first (backTo pos (starEach [] X.env)) (backToKw pos (keywordEach [] X.env))) := by rfl) :
    PE X (.Call (.Attribute o m apos) [] [] pos) (gE X.K An (gMeth sel m go aNil)) := by
  refine ⟨fun pins s σ H Q I h => ?_⟩
  obtain ⟨sl, h0, P, re, l, g, kk⟩ := h
  refine PySem.W.methodCall_KW (pl := pl) (thn (ho.run pins s σ H (fun x H1 => ∃ q C dx fs S, x = .ref q ∧ H1 q = some (.ins C dx fs) ∧ fs.lookup m = none ∧ sel C S ∧ GSP X.K S [x] H1 Q E0) I ⟨sl, h0, _, re, l, g, fun x H1 d h1 s1 re1 dx ⟨q, C, fs, S, ed, hq, hl, hs, g1⟩ => ?_⟩) fun u s1 ⟨x, H1, I1, rx, q, C, dx, fs, S, ex, ea, l, hs, q1⟩ => ?_) ht
  · subst ed
    cases dx
    obtain ⟨dx, vs, hH, rs⟩ := re1 q _ hq
    exact ⟨q, C, dx, _, S, rfl, hH, ins_lookN hl, hs, [.ref q], h1, P, re1, .cons (.ref q) .nil, g1, fun v H' d h' s2 re' dv' pp => kk v H' d h' (s1.trans s2) re' dv' pp⟩
  · subst ex
    obtain rfl : u = Value.ref q := rx
    obtain ⟨f, F, cl, mt⟩ := c C S hs
    refine getmeth_ok I1 ea cl mt l ?_
    exact PySem.W.callWith_K0 (first := [.ref q]) I1.kIn mt.kp (wpAny_call (run_fnR (us := [.ref q]) (vs := [.ref q]) F (hr.mono hk) pass0 I1 (.cons rfl .nil) q1))
/-! ### isinstance -/
structure InsT (K : Fg) (C : Addr) : Prop where
  cl : Cls K C
  ha : PySem.W.findIn K (.ref C) "__class__" = some (some (.builtin "object.__class__"))
  hn : PySem.W.specialIn K (.builtin "object.__class__") "__get__" = some (some (.builtin "getset_descriptor.__get__"))
  htk : PySem.W.takesIn K (.builtin "object.__class__") = some true
  hm : PySem.W.mroIn K C (.type "object") = some true
def RIsiO (isi : Addr → Addr → Bool → Prop) : RC2 := fun h ds c => ∃ q C fs T b, ds = [.ref q, .ref T] ∧ h q = some (.ins C fs) ∧ isi C T b ∧ c = .bl b
theorem lIsiO {K : Fg} {isi : Addr → Addr → Bool → Prop} (hi : ∀ C T b, isi C T b → InsT K C ∧ PySem.W.kitOne K (.ref C) (.ref T) = some b) : CLL K (rIsi K) (RIsiO isi) := by
  intro vs H h ds c Q re dvx hr k
  obtain ⟨q, C, fs, T, b, rfl, hq, hb, rfl⟩ := hr
  obtain ⟨v, v', rfl, dv, dw⟩ := dvs2 dvx
  cases dv
  cases dw
  obtain ⟨dx, ws, hH, rs⟩ := re q _ hq
  obtain ⟨⟨cl, ha, hn, htk, hm⟩, hk⟩ := hi C T b hb
  exact ⟨_, _, _, _, b, rfl, .own T, .base (.ins hH cl ha hn htk hm), hk, k _ H (Step.refl h H) re (.bl _)⟩
theorem e_isiO {isi : Addr → Addr → Bool → Prop} (hi : ∀ C T b, isi C T b → InsT X.K C ∧ PySem.W.kitOne X.K (.ref C) (.ref T) = some b) (hm : X.mg "isinstance" = none) (ha : PA X [a, b] (gA X.K An gas)) (hg : Gl X "isinstance" := by rfl) (he : starEach [a, b] X.env = (false, eval a X.env) :: starEach [b] X.env := by rfl) (hpl : (backTo pos (starEach [b] X.env)).any (·.1) = false := by rfl) : PE X (.Call (.Name "isinstance" p) [a, b] [] pos) (gE X.K An (gCB (RIsiO isi) gas)) :=
  e_cb call_isi (lIsiO hi) hm (by decide +kernel) ha hg (by decide) (by decide) he hpl
theorem e_cls {x : Str} {C : Addr} (hm : X.mg x = some (.ref C)) (hg : Gl X x := by rfl) (hd : (x == ("__debug__" : Str)) = false := by decide) : PE X (.Name x pos) (gE X.K An (gC (.ref C))) :=
  e_glob (v := .ref C) hm rfl (fun _ _ => .ref C) hg hd
end
end Gh

set_option maxHeartbeats 4000000
/-! Y1: exceptions of own classes, on any base, as values -/
namespace Gh
open PySem PySem.Spec PyProof.Rows L2
structure OxG (K : Fg) (C : Addr) : Prop where
  base : ∃ B newId initId bmB, ExcBaseFacts B newId initId bmB ∧ StoreFacts B bmB "object.__setattr__" "object" ∧ PySem.W.excOver K C bmB = true ∧ PySem.W.excInitIn K C bmB newId = true
  sa : PySem.W.findIn K (.ref C) "__setattr__" = some (some (.builtin "object.__setattr__"))
  kC : PySem.W.keepIn K (.ref C) = true
  rd : XfC K C
section
open Builtin Builtin.ObjectAttr
variable {X : Cx} {pins : List (Addr × Obj)} {σ : L2.St} {H : Hp} {s : Shared} {a C dx : Addr} {f : Str} {y : V} {u : Value} {fs : List (Str × V)} {Q : Unit → Shared → Prop} {E : Value → Shared → Prop} {A : Around}
theorem xg_new (T : OxG X.K C) (I : Inv X pins σ H s) (e : H a = some (exo a C none)) (hno : PySem.W.findIn X.K (.ref C) f = some none) (ry : RelV y u)
    (h : ∀ dx s', H dx = none → dx ≠ a → Inv X pins σ (upd (upd (upd H dx (exd dx [])) a (exo a C (some dx))) dx (exd dx [(f, y)])) s' → Q () s') : wpAny (model X.prog X.w) A (setAttr (.ref a) f u) Q E s := by
  obtain ⟨B, newId, initId, bmB, FB, SF, hov, _⟩ := T.base
  obtain ⟨t1, ho⟩ := exo_at I.hok e
  obtain ⟨hp, g, d, t, os⟩ := s
  have J : PySem.W.InstAt hp a { cls := .ref C, dict := none, data := .fields #[.ref t1, .none, .none, .none, .bool false, .none] } C none := ⟨ho, rfl, rfl, trivial⟩
  have ht : PySem.W.takerIn X.K C f = some none := NoAttr.taker hno
  refine PySem.W.set_plain I.kIn J T.sa ?_
  refine PySem.W.osa_openX SF I.kIn J hov ht fun b => ?_
  obtain ⟨cd, hcd, hh⟩ := PySem.W.any_some T.rd.hdC
  have hcls : PySem.W.Looks (model X.prog X.w) hp (classData C) cd := PySem.W.looks_clsIn I.kIn hcd
  have hxs : a ≠ hp.objs.size := Nat.ne_of_lt (Heap.lt_size ho)
  obtain ⟨nm, bs, mro, ns, qn, hd, sn, sb, ab, col, del⟩ := cd
  dsimp only at hh
  subst hh
  show wpAny _ _ (storeInOwnDict (.ref a) (.ref C) (.str f t) f u b) _ _ _
  unfold storeInOwnDict ownDictForStores
  repeat (first | with_reducible refine HandSPX.store_in_new ?_ ?_ | with_reducible refine wpAny_loadPart_at ho ?_ | with_reducible refine hcls.at ?_ | wp_step)
  · exact ⟨_, #[], _, (Heap.get?_update_ne _ _ _ _ hxs.symm).trans (Heap.get?_push_at rfl rfl), rfl, fun e he => absurd he (by simp), fun _ => rfl⟩
  · intro h' tk' hn' hs
    have ho' : hp.get? a = some { cls := .ref C, data := .fields #[.ref t1, .none, .none, .none, .bool false, .none] } := ho
    have hx1 : (hp.push { cls := .type "dict", data := .dict #[] }).get? a = some { cls := .ref C, data := .fields #[.ref t1, .none, .none, .none, .bool false, .none] } := Heap.get?_push_of_some _ ho'
    have hd0 : (hp.push { cls := .type "dict", data := .dict #[] }).get? hp.objs.size = some { cls := .type "dict", data := .dict #[] } := Heap.get?_push_at rfl rfl
    have hn0 : (hp.push { cls := .type "dict", data := .dict #[] }).Ns1 hp.objs.size (fun _ => none) := Heap.Ns1.of_empty ⟨_, #[], _, hd0, rfl, fun e he => absurd he (by simp), fun _ => rfl⟩
    have nd : H hp.objs.size = none := I.hok.fresh (Nat.le_refl _)
    have I1 : Inv X pins σ (upd H hp.objs.size (exd hp.objs.size [])) ⟨hp.push { cls := .type "dict", data := .dict #[] }, g, d, t, os⟩ :=
      I.laid (a := hp.objs.size) (o := exd hp.objs.size []) (t' := t) (h' := hp.push { cls := .type "dict", data := .dict #[] }) (fun b u q => Heap.get?_push_of_some _ q) (Nat.le_refl _) (exd_ok hn0 fun _ => True.intro)
    have ea1 : upd H hp.objs.size (exd hp.objs.size []) a = some (exo a C none) := by rw [upd_ne hxs]; exact e
    have hxa := Heap.get?_update_self (h := hp.push { cls := .type "dict", data := .dict #[] }) (f := fun o : Obj => { cls := o.cls, dict := some hp.objs.size, data := o.data, slots := o.slots }) hx1 rfl
    have I2 := I1.write (x := a) (e := a) (o := exo a C (some hp.objs.size)) (t' := t) (h' := (hp.push { cls := .type "dict", data := .dict #[] }).update a fun o => { cls := o.cls, dict := some hp.objs.size, data := o.data, slots := o.slots }) (by rw [ea1]; exact True.intro) (.inl rfl)
      (fun b u hb q => (Heap.get?_update_ne _ _ _ _ hb).trans q) ⟨_, hxa⟩ (exo_ok hxa)
    have ed2 : upd (upd H hp.objs.size (exd hp.objs.size [])) a (exo a C (some hp.objs.size)) hp.objs.size = some (exd hp.objs.size []) := by rw [upd_ne hxs.symm, upd_same]
    have hdn : ∃ o, h'.get? hp.objs.size = some o := by
      obtain ⟨o, _, _, e', _⟩ := hn'
      exact ⟨o, e'⟩
    have I3 := I2.write (x := hp.objs.size) (e := hp.objs.size) (o := exd hp.objs.size [(f, y)]) (t' := tk') (h' := h') (by rw [ed2]; exact True.intro) (.inl rfl) (fun b u hb q => (hs.2 b hb).trans q) hdn (exd_ok hn' (relO_put (fs := []) ry fun g => True.intro))
    exact h hp.objs.size _ nd hxs.symm I3
/-- a further field -/
theorem xg_old (T : OxG X.K C) (I : Inv X pins σ H s) (e : H a = some (exo a C (some dx))) (ed : H dx = some (exd dx fs)) (hl : fs.length ≤ 900) (hno : PySem.W.findIn X.K (.ref C) f = some none) (ry : RelV y u)
    (h : ∀ s', Inv X pins σ (upd H dx (exd dx ((f, y) :: fs))) s' → Q () s') : wpAny (model X.prog X.w) A (setAttr (.ref a) f u) Q E s := by
  obtain ⟨B, newId, initId, bmB, FB, SF, hov, _⟩ := T.base
  obtain ⟨t1, ho⟩ := exo_at I.hok e
  obtain ⟨mA, hns, rel⟩ := exd_at I.hok ed
  have hw := within_of rel
  obtain ⟨hp, g, d, t, os⟩ := s
  obtain ⟨oD, _, _, hoD, _, _⟩ := hns.count hw
  have J : PySem.W.InstAt hp a { cls := .ref C, dict := some dx, data := .fields #[.ref t1, .none, .none, .none, .bool false, .none] } C (some oD) := ⟨ho, rfl, rfl, hoD⟩
  have ht : PySem.W.takerIn X.K C f = some none := NoAttr.taker hno
  refine PySem.W.set_plain I.kIn J T.sa ?_
  refine PySem.W.osa_openX SF I.kIn J hov ht fun b => ?_
  obtain ⟨cd, hcd, hh⟩ := PySem.W.any_some T.rd.hdC
  have hcls : PySem.W.Looks (model X.prog X.w) hp (classData C) cd := PySem.W.looks_clsIn I.kIn hcd
  obtain ⟨nm, bs, mro, ns, qn, hd, sn, sb, ab, col, del⟩ := cd
  dsimp only at hh
  subst hh
  show wpAny _ _ (storeInOwnDict (.ref a) (.ref C) (.str f t) f u b) _ _ _
  unfold storeInOwnDict ownDictForStores
  repeat (first | with_reducible refine PySem.OEX.store_in_old hns hw (by rw [List.length_map]; omega) ?_ | with_reducible refine wpAny_loadPart_at ho ?_ | with_reducible refine hcls.at ?_ | wp_step)
  intro h' tk' hn' hs
  have hdn : ∃ o, h'.get? dx = some o := by
    obtain ⟨o, _, _, e', _⟩ := hn'
    exact ⟨o, e'⟩
  exact h _ (I.write (t' := tk') (x := dx) (e := dx) (o := exd dx ((f, y) :: fs)) (by rw [ed]; exact True.intro) (.inl rfl) (fun b u hb q => (hs.2 b hb).trans q) hdn (exd_ok hn' (relO_put ry rel)))
end
/-! ### self.f = e in an exception's __init__ -/
def tXst (K : Fg) (f : Str) (to te : TE) : TS := fun De σ H => te σ H fun y H1 => to σ H1 fun x H2 => ∃ a C : Addr, x = .ref a ∧ OxG K C ∧ PySem.W.findIn K (.ref C) f = some none ∧
  ((H2 a = some (exo a C none) ∧ ∀ dx, H2 dx = none → dx ≠ a → De.nx σ (upd (upd (upd H2 dx (exd dx [])) a (exo a C (some dx))) dx (exd dx [(f, y)]))) ∨
    ∃ (dx : Addr) (fs : List (Str × V)), H2 a = some (exo a C (some dx)) ∧ H2 dx = some (exd dx fs) ∧ fs.length ≤ 900 ∧ De.nx σ (upd H2 dx (exd dx ((f, y) :: fs))))
section
variable {X : Cx} {o e v : Expr} {es : List Expr} {to te ta : TE} {f : Str} {p p' pos pos' : Pos}
theorem ps_xst (ha : PE X o to) (hv : PE X v te) (hs : swapsWith v (some (.Attribute o f pos')) pos.line X.env = pure false := by rfl) : PS X (.Assign [.Attribute o f pos'] v pos) (tXst X.K f to te) := by
  refine ⟨fun pins s σ H De I h => ?_⟩
  refine plainObj_wpAny_Assign_Attribute (thn (hv.run pins s σ H _ I h) fun u s1 ⟨y, H1, I1, ry, q⟩ => thn (ha.run pins s1 σ H1 _ I1 q) fun ov s2 ⟨x, H2, I2, rx, a, C, ex, T, hno, q2⟩ => ?_) hs
  subst ex
  obtain rfl : ov = Value.ref a := rx
  rcases q2 with ⟨ea, q3⟩ | ⟨dx, fs, ea, ed, hl, q3⟩
  · exact xg_new T I2 ea hno ry fun dx s3 n ne I3 => ⟨σ, _, I3, q3 dx n ne⟩
  · exact xg_old T I2 ea ed hl hno ry fun s3 I3 => ⟨σ, _, I3, q3⟩
end
/-! ### the __init__s -/
def spX0 (C : Addr) (w : Str) : Sp := fun vs H Q _ => ∃ a, vs = [.ref a] ∧ H a = some (exo a C none) ∧ ∀ dx, H dx = none → dx ≠ a → Q .non (upd (upd (upd H dx (exd dx [])) a (exo a C (some dx))) dx (exd dx [("word", .str w)]))
def spX1 (C : Addr) (w f : Str) : Sp := fun vs H Q _ => ∃ a v, vs = [.ref a, v] ∧ H a = some (exo a C none) ∧ ∀ dx, H dx = none → dx ≠ a → Q .non (upd (upd (upd (upd H dx (exd dx [])) a (exo a C (some dx))) dx (exd dx [("word", .str w)])) dx (exd dx [(f, v), ("word", .str w)]))
section
variable {P : Program} {w : World} {K : PySem.W.Frag} {mg : Str → Option Value} {base : Heap} {f C : Addr} {fd : FuncData} {st : Stmt} {qual : Str}
theorem xinit0 {wd : Str} (F : Fun K "__init__" qual st f fd) (b : Binds K fd ["self"] []) (sc : FnScope ["self"] ["self"] (defScope st)) (hb : ∃ j p1 p2 p3 p4, defBody st = [.Assign [.Attribute (.Name "self" p1) "word" p2] (.Constant (.str wd) j p3) p4]) (hs : Vis (defScope st) "self") (T : OxG K C) (hw : PySem.W.findIn K (.ref C) "word" = some none) :
    FnR P w K mg base CX0 1 f (spX0 C wd) := by
  obtain ⟨j, p1, p2, p3, p4, hb⟩ := hb
  have ok : FnOk P w K mg base CX0 1 f fd ["self"] (spX0 C wd) := by
    refine F.ok sc (fun vs H Q E ⟨a, e, _⟩ => by rw [e]; rfl) (fun cdv A outer s H vs Q E hr ⟨a, e, ha, q⟩ => ?_)
    subst e
    rw [hb]
    refine ⟨_, pss_one (ps_xst (pe_var (i := 0) rfl hs (by decide) (by decide)) pe_str), ?_⟩
    exact ⟨_, rfl, a, C, rfl, T, hw, .inl ⟨ha, fun dx n ne => q dx n ne⟩⟩
  exact (ok.raw b .nil).imp fun vs H Q E q => by rw [List.append_nil]; exact q
theorem xinit1 {wd g : Str} (F : Fun K "__init__" qual st f fd) (b : Binds K fd ["self", g] []) (sc : FnScope ["self", g] ["self", g] (defScope st)) (hb : ∃ j p1 p2 p3 p4 p5 p6 p7 p8, defBody st = [.Assign [.Attribute (.Name "self" p1) "word" p2] (.Constant (.str wd) j p3) p4, .Assign [.Attribute (.Name "self" p5) g p6] (.Name g p7) p8])
    (hs : Vis (defScope st) "self") (hvis : Vis (defScope st) g) (hdg : (g == ("__debug__" : Str)) = false) (hcg : (g == ("__classdict__" : Str)) = false) (T : OxG K C) (hw : PySem.W.findIn K (.ref C) "word" = some none) (hf : PySem.W.findIn K (.ref C) g = some none) :
    FnR P w K mg base CX0 1 f (spX1 C wd g) := by
  obtain ⟨j, p1, p2, p3, p4, p5, p6, p7, p8, hb⟩ := hb
  have ok : FnOk P w K mg base CX0 1 f fd ["self", g] (spX1 C wd g) := by
    refine F.ok sc (fun vs H Q E ⟨a, v, e, _⟩ => by rw [e]; rfl) (fun cdv A outer s H vs Q E hr ⟨a, v, e, ha, q⟩ => ?_)
    subst e
    rw [hb]
    refine ⟨_, pss_cons (ps_xst (pe_var (i := 0) rfl hs (by decide) (by decide)) pe_str) (pss_one (ps_xst (pe_var (i := 0) rfl hs (by decide) (by decide)) (pe_var (i := 1) rfl hvis hdg hcg))), ?_⟩
    refine ⟨_, rfl, a, C, rfl, T, hw, .inl ⟨ha, fun dx n ne => ?_⟩⟩
    refine ⟨v, rfl, _, rfl, a, C, rfl, T, hf, .inr ⟨dx, [("word", .str wd)], ?_, upd_same, by show 1 ≤ 900; decide, q dx n ne⟩⟩
    rw [upd_ne ne.symm, upd_same]
  exact (ok.raw b .nil).imp fun vs H Q E q => by rw [List.append_nil]; exact q
end
end Gh

set_option maxHeartbeats 4000000
/-! Y2: exceptions as values: made, fields read, isinstance -/
namespace Gh
open PySem PySem.Spec PyProof.Rows L2
section
variable {X : Cx} {C fI : Addr} {k : Nat} {sp : Sp}
theorem run_mkX {pins : List (Addr × Obj)} {σ : L2.St} {H : Hp} {s : Shared} {Q : VK} {us : List Value} {vs : List V} (T : OxG X.K C) (iC : PySem.W.findIn X.K (.ref C) "__init__" = some (some (.ref fI))) (tI : PySem.W.typeIn X.K (.ref fI) = some (.type "function"))
    (F1 : FnR X.prog X.w X.K X.mg X.base CX0 k fI sp) (hr : Room (k + 1) X.A) (I : Inv X pins σ H s) (r : Vals vs us) (hz : us.length ≤ sizeLine)
    (h : ∀ a, H a = none → sp (.ref a :: vs) (upd H a (exo a C none)) (fun v H2 => v = .non ∧ Q (.ref a) H2) E0) : wpAny (model X.prog X.w) X.A (call (.ref C) us) (EP X pins σ Q) X.xe s := by
  obtain ⟨B, newId, initId, bmB, FB, SF, hov, hin⟩ := T.base
  obtain ⟨nm, N', qn, bs, bm, hdct, sn, sub, ab, col, dd, k0, k1, k2, k3, k5, hC, hT⟩ := PySem.W.excInit_of I.kIn hin
  obtain ⟨hp, g, dr, tk, os⟩ := s
  have hsz : hp.objs.size ≤ hp.objs.size + 1 := Nat.le_succ _
  have hn : H (hp.objs.size + 1) = none := I.hok.fresh hsz
  have hq := h (hp.objs.size + 1) hn
  have kk : ∀ b o, hp.get? b = some o → ((hp.push (PySem.W.kdv_tup us)).push (PySem.HandSPX.excO C hp.objs.size)).get? b = some o := fun b o e => Heap.get?_push_of_some _ (Heap.get?_push_of_some _ e)
  have hget : ((hp.push (PySem.W.kdv_tup us)).push (PySem.HandSPX.excO C hp.objs.size)).get? (hp.objs.size + 1) = some (PySem.HandSPX.excO C hp.objs.size) := by heap_get
  have I2 : Inv X pins σ (upd H (hp.objs.size + 1) (exo (hp.objs.size + 1) C none)) ⟨(hp.push (PySem.W.kdv_tup us)).push (PySem.HandSPX.excO C hp.objs.size), g, dr, tk, os⟩ :=
    I.laid (t' := tk) (a := hp.objs.size + 1) (o := exo (hp.objs.size + 1) C none) (h' := (hp.push (PySem.W.kdv_tup us)).push (PySem.HandSPX.excO C hp.objs.size)) kk hsz (exo_ok hget)
  have r2 : Vals (V.ref (hp.objs.size + 1) :: vs) (Value.ref (hp.objs.size + 1) :: us) := .cons rfl r
  refine wpAny_call (PySem.HandSPX.call_own FB hT hC (PySem.W.looks_findIn I.kIn iC) (fun self => PySem.W.bind_fn I.kIn self tI) hz
    (codeAny_mono (F1 _ X.stack _ _ (Value.ref (hp.objs.size + 1) :: us) _ _ E0 (hr.make C us []) (I2.env0.make C us []) r2 hq) fun r s' hq' => ?_))
  cases r with
  | error er => exact pass0 pins σ _ _ er s' I2 hq'
  | ok fl =>
    cases fl with
    | ret u =>
      obtain ⟨v, H', I3, rv, ev, q3⟩ := I2.after hq'
      subst ev
      exact ⟨rv, ⟨V.ref (hp.objs.size + 1), H', I3, rfl, q3⟩⟩
    | next => exact False.elim hq'
    | brk => exact False.elim hq'
    | cont => exact False.elim hq'
end
/-- two new objects -/
theorem new2 {K : Fg} {h : GH} {H H' : Hp} {a d : Addr} (re : Rel K h H) (na : H a = none) (nd : H d = none) (k : ∀ b, b ≠ a → b ≠ d → H' b = H b) : Step h H h H' ∧ Rel K h H' := by
  have same : ∀ b o, H b = some o → H' b = some o := fun b o e => by
    rw [k b (fun z => by subst z; rw [na] at e; cases e) (fun z => by subst z; rw [nd] at e; cases e)]
    exact e
  have st : Step h H h H' := ⟨fun b o _ _ e => same b o e, fun b e => .inl e⟩
  exact ⟨st, fun b g e => (re b g e).mono st fun o q => same b o q⟩
/-- an own exception class of the module, made by its name: its word, its field -/
structure Xmk (P : Program) (w : World) (K : Fg) (mg : Str → Option Value) (base : Heap) (x : Str) (C : Addr) (sp : Sp) : Prop where
  ok : OxG K C
  at_ : mg x = some (.ref C)
  init : ∃ fI, PySem.W.findIn K (.ref C) "__init__" = some (some (.ref fI)) ∧ PySem.W.typeIn K (.ref fI) = some (.type "function") ∧ FnR P w K mg base CX0 1 fI sp
section
variable {X : Cx} {An : AN} {e : Expr} {ga : gTE} {p pos : Pos} {x : Str} {C : Addr} {wd f : Str} {j : Nat}
def gMk0 (C : Addr) (w : Str) : gTE := fun _ h P => P (.exc C ["word"] [.str w]) h
def gMk1 (C : Addr) (w f : Str) (ga : gTE) : gTE := fun s h P => ga s h fun d h1 => P (.exc C [f, "word"] [d, .str w]) h1
theorem e_mk0 (c : Xmk X.prog X.w X.K X.mg X.base x C (spX0 C wd)) (hr : Room j X.A) (hk : 2 ≤ j) (hg : Gl X x := by rfl) (hdb : (x == ("__debug__" : Str)) = false := by decide) :
    PE X (.Call (.Name x p) [] [] pos) (gE X.K An (gMk0 C wd)) := by
  obtain ⟨T, hm, fI, iC, tI, F1⟩ := c
  refine ⟨fun pins s σ H Q I ⟨sl, h, P, re, l, g, kk⟩ => ?_⟩
  refine wpAny_Call_Name_kw (ld_glob I hg hm ?_ hdb)
  refine PySem.W.callWith_K0 I.kIn T.kC (run_mkX (us := []) (vs := []) T iC tI F1 (hr.mono hk) I .nil (by decide) fun a na => ?_)
  refine ⟨a, rfl, upd_same, fun dx nd ne => ⟨rfl, ?_⟩⟩
  rw [upd_ne ne] at nd
  obtain ⟨st, re'⟩ := new2 (H' := upd (upd (upd (upd H a (exo a C none)) dx (exd dx [])) a (exo a C (some dx))) dx (exd dx [("word", .str wd)])) re na nd fun b h1 h2 => by rw [upd_ne h2, upd_ne h1, upd_ne h2, upd_ne h1]
  refine kk _ _ _ h st re' (.exc (d := dx) (xs := [.str wd]) (re.free na) ?_ (re.free nd) upd_same (.cons (.str _) .nil)) g
  rw [upd_ne ne.symm, upd_same]
theorem e_mk1 (c : Xmk X.prog X.w X.K X.mg X.base x C (spX1 C wd f)) (hr : Room j X.A) (hk : 2 ≤ j) (ha : PE X e (gE X.K An ga)) (hg : Gl X x := by rfl) (hdb : (x == ("__debug__" : Str)) = false := by decide)
    (he : starEach [e] X.env = (false, eval e X.env) :: starEach [] X.env := by rfl) (hpl : (backTo pos (starEach [] X.env)).any (·.1) = false := by rfl) :
    PE X (.Call (.Name x p) [e] [] pos) (gE X.K An (gMk1 C wd f ga)) := by
  obtain ⟨T, hm, fI, iC, tI, F1⟩ := c
  refine ⟨fun pins s σ H Q I ⟨sl, h, P, re, l, g, kk⟩ => ?_⟩
  refine wpAny_Call_Name_kw (ld_glob I hg hm ?_ hdb)
  refine PySem.W.callWith_K (h₀ := X.base) I.ok.mod.kin T.kC (thn ((a_cons (An := An) ha a_nil he).run pos pins s σ H (fun vs H1 => vs.length ≤ sizeLine ∧ ∀ a, H1 a = none → spX1 C wd f (.ref a :: vs) (upd H1 a (exo a C none)) (fun v H2 => v = .non ∧ Q (.ref a) H2) E0) I ⟨sl, h, fun ds h1 => match ds with | [d] => P (.exc C [f, "word"] [d, .str wd]) h1 | _ => False, re, l, g, fun vs H1 ds h1 s1 re1 dv pp => ?_⟩) fun us s1 ⟨vs, H1, I1, r, hz, q⟩ => ⟨I1.kIn, ?_⟩) he hpl
  · obtain ⟨d, rfl⟩ : ∃ d, ds = [d] := by
      match ds, pp with
      | [d], _ => exact ⟨d, rfl⟩
    obtain ⟨v, rfl, dv1⟩ := dvs1 dv
    refine ⟨by show 1 ≤ sizeLine; decide, fun a na => ⟨a, v, rfl, upd_same, fun dx nd ne => ⟨rfl, ?_⟩⟩⟩
    rw [upd_ne ne] at nd
    obtain ⟨st, re'⟩ := new2 (H' := upd (upd (upd (upd (upd H1 a (exo a C none)) dx (exd dx [])) a (exo a C (some dx))) dx (exd dx [("word", .str wd)])) dx (exd dx [(f, v), ("word", .str wd)])) re1 na nd fun b h1 h2 => by rw [upd_ne h2, upd_ne h2, upd_ne h1, upd_ne h2, upd_ne h1]
    refine kk _ _ _ h1 (s1.trans st) re' (.exc (d := dx) (xs := [v, .str wd]) (re1.free na) ?_ (re1.free nd) upd_same (.cons (dv1.mono st) (.cons (.str _) .nil))) pp
    rw [upd_ne ne.symm, upd_ne ne.symm, upd_same]
  · exact run_mkX T iC tI F1 (hr.mono hk) I1 r (by have e := Paired.length r; show us.length ≤ sizeLine; omega) q
/-! ### fields -/
def tXr (K : Fg) (n : Str) (te : TE) : TE := fun σ H Q => te σ H fun x H1 => ∃ a C d fs v, x = .ref a ∧ H1 a = some (exo a C (some d)) ∧ H1 d = some (exd d fs) ∧ XfC K C ∧ PySem.W.findIn K (.ref C) n = some none ∧ fs.lookup n = some v ∧ Q v H1
theorem pe_xr {te : TE} {n : Str} (he : PE X e te) (hb : attributeBase e n X.env (eval e X.env) = eval e X.env := by rfl) : PE X (.Attribute e n pos) (tXr X.K n te) := by
  refine ⟨fun pins s σ H Q I h => ?_⟩
  refine attr_of hb (thn (he.run pins s σ H _ I h) fun u s1 ⟨x, H1, I1, rx, a, C, d, fs, v, ex, ea, ed, T, hno, l, q⟩ => ?_)
  subst ex
  obtain rfl : u = Value.ref a := rx
  obtain ⟨t1, ha⟩ := exo_at I1.hok ea
  obtain ⟨mA, hns, hr⟩ := exd_at I1.hok ed
  obtain ⟨od, ho, hl⟩ := lookIn_ns hns
  obtain ⟨u, hu, ru⟩ := RelO.some_of (v := v) (o := mA n) (by rw [← l]; exact hr n)
  have J : PySem.W.InstAt s1.heap a _ C (some od) := ⟨ha, rfl, rfl, ho⟩
  exact HandSPX.exc_get I1.kIn J T.ga T.gg T.exC (PySem.W.findObj_own T.hdC hno rfl (by rw [hl, hu])) (handed_of ru) ⟨v, H1, I1.tok _, ru, q⟩
theorem zip_look {K : Fg} {h : GH} {H : Hp} {n : Str} {d : D} : ∀ {ns : List Str} {xs : List V} {ds : List D}, Dvs K h H xs ds → (ns.zip ds).lookup n = some d → ∃ v, (ns.zip xs).lookup n = some v ∧ Dv K h H v d
  | [], _, _, _, e => by cases e
  | m :: ns, _, _, .nil, e => by cases e
  | m :: ns, _, _, .cons (v := v) a t, e => by
    simp only [List.zip_cons_cons, List.lookup_cons] at e ⊢
    cases q : (n == m) with
    | true => rw [q] at e; cases e; exact ⟨v, rfl, a⟩
    | false => rw [q] at e; exact zip_look t e
def gXr (XF : Addr → Prop) (n : Str) (ga : gTE) : gTE := fun s h P => ga s h fun d h1 => ∃ C ns ds c, d = .exc C ns ds ∧ XF C ∧ (ns.zip ds).lookup n = some c ∧ P c h1
theorem e_xr {XF : Addr → Prop} {n : Str} (hX : ∀ C, XF C → XfC X.K C ∧ PySem.W.findIn X.K (.ref C) n = some none) (he : PE X e (gE X.K An ga)) (hb : attributeBase e n X.env (eval e X.env) = eval e X.env := by rfl) : PE X (.Attribute e n pos) (gE X.K An (gXr XF n ga)) :=
  (pe_xr he hb).imp fun σ H Q ⟨s, h, P, re, l, g, k⟩ => by
    refine ⟨s, h, _, re, l, g, fun x H1 d h1 s1 re1 dx ⟨C, ns, ds, c, ed, hC, hl, pp⟩ => ?_⟩
    subst ed
    cases dx with
    | exc n1 q1 n2 q2 rs =>
      obtain ⟨u, hu, du⟩ := zip_look rs hl
      exact ⟨_, C, _, _, u, rfl, q1, q2, (hX C hC).1, (hX C hC).2, hu, k u H1 c h1 s1 re1 du pp⟩
end
/-! ### isinstance -/
structure XiC (K : Fg) (D : Addr) : Prop where
  rd : XfC K D
  ha : PySem.W.findIn K (.ref D) "__class__" = some (some (.builtin "object.__class__"))
  hn : PySem.W.specialIn K (.builtin "object.__class__") "__get__" = some (some (.builtin "getset_descriptor.__get__"))
  ht : PySem.W.takesIn K (.builtin "object.__class__") = some true
  hm : PySem.W.mroIn K D (.type "object") = some true
section
open PySem.W
variable {prog : Program} {w : World} {A : Around} {E : Value → Shared → Prop} {s : Shared} {K : Frag} {x D : Addr} {ox od : Obj}
/-- what an exception with a dict says of its class -/
theorem xcls {Q : Option Value → Shared → Prop} (T : XiC K D) (X : K.In s.heap) (I : InstAt s.heap x ox D (some od)) (h : Q (some (.ref D)) { s with toks := s.toks + 1 }) : wpAny (model prog w) A (getAttr? (.ref x) "__class__") Q E s := by
  have isC : (clsIn K D).isSome = true := by obtain ⟨cd, hc, _⟩ := any_some T.rd.hdC; rw [hc]; rfl
  obtain ⟨hp, g, d, t, os⟩ := s
  have L0 := I.type (M := model prog w)
  have L1 := looks_findIn (M := model prog w) X T.rd.ga
  have L2 := looks_findIn (M := model prog w) X T.rd.gg
  have L3 := looks_find (M := model prog w) X I (findObj_data isC T.ha T.hn T.ht)
  have notObj : (onTheHeap (Value.ref D) && Value.builtin "BaseException.__getattribute__" == Value.builtin "object.__getattribute__") = false := by
    rw [show (Value.builtin "BaseException.__getattribute__" == Value.builtin "object.__getattribute__") = false by decide +kernel]; rfl
  unfold getAttr? getAttrBy? getAttrBy
  refine wpAny_bind (wpAny_mkText (wpAny_bind (wpAny_attempt (wpAny_holding (wpAny_bind (L0.at (wpAny_bind (L1.at ?_))))))))
  show wpAny _ _ (if (onTheHeap (Value.ref D) && Value.builtin "BaseException.__getattribute__" == Value.builtin "object.__getattribute__") = true then _ else _) _ _ _
  rw [notObj, if_neg Bool.false_ne_true]
  unfold getAttrByItsOwn hookBefore callGetattribute boundAndCalled
  refine wpAny_bind ?_
  rw [if_pos (show onTheHeap (Value.ref D) = true from rfl)]
  refine L2.at (wpAny_bind (wpAny_attempt (wpAny_holding ?_)))
  rw [show (false && onTheHeap (Value.builtin "BaseException.__getattribute__")) = false from rfl, if_neg Bool.false_ne_true, PySem.F.excAttr_ValueError.ga.bind (.ref x)]
  refine wpAny_bind (wpAny_pure ?_)
  show wpAny _ _ (call (.builtin "BaseException.__getattribute__") [.ref x, .str "__class__" t]) _ _ _
  refine wpAny_call (codeAny_call_builtin PySem.F.excAttr_ValueError.ga.plain PySem.F.entry_bexc_ga ?_)
  refine @check_slot (model prog w) _ _ ⟨hp, g, d, t + 1, os⟩ "BaseException.__getattribute__" "BaseException" "__getattribute__" (.ref x) [.str "__class__" t] [] _ (by decide +kernel) (by decide +kernel) (L0.andThen (looks_subIn X T.rd.exC)) (PySem.F.args_bexc_ga (.ref x) (.str "__class__" t)) ?_
  unfold Builtin.«object.__getattribute__»
  refine wpAny_bind (wpAny_of_eq (a := ((Value.ref x : Value), [Value.str "__class__" t])) (by first | rfl | (simp only [slotArgs]; rfl)) (wpAny_bind (wpAny_pure (wpAny_bind (L0.at (wpAny_bind (L3.at ?_)))))))
  refine wpAny_bind (wpAny_holding (wpAny_call (class_get (s := ⟨hp, g, d, t + 1, os⟩) X I T.hm (wpAny_pure ?_))))
  show wpAny _ _ (handedOut (.ref D)) _ _ _
  rw [handedOut_of (v := .ref D) rfl]
  first
    | exact wpAny_pure (wpAny_pure h)
    | exact wpAny_pure h
theorem kit_exc (T : XiC K D) : KitX K (.ref x) (.ref D) (fun h => InstAt h x ox D (some od)) := by
  obtain ⟨cd, hcd, _⟩ := any_some T.rd.hdC
  obtain ⟨o, ho, e⟩ : ∃ o, K.lookup D = some o ∧ ∃ c, o.data = .cls c := by
    unfold clsIn at hcd
    split at hcd
    · rename_i ho; exact ⟨_, ho, _, rfl⟩
    · cases hcd
  obtain ⟨c, e⟩ := e
  refine ⟨fun _ _ _ I => I.type, fun M h X I => fun A' Q' E' s' k q => ?_, fun h tp dd its n sl X htp => ?_, fun X I k => xcls T X I k⟩
  · obtain ⟨o1, o2, o3, o4⟩ := o
    cases e
    unfold isType loadHead
    exact wpAny_bind (wpAny_loadPart (k _ _ (X _ _ ho)) (wpAny_pure q))
  · refine Bool.eq_false_iff.mpr fun q => ?_
    obtain rfl : D = tp := Value.ref.inj (beq_iff_eq.mp q)
    have z := (X _ _ ho).symm.trans htp
    cases z
    cases e
end
def rIsX (K : Fg) : List V → Hp → VK → Prop := fun xs H Q => ∃ (a C d : Addr) (fs : List (Str × V)) (c : V) (cv : Value) (b : Bool), xs = [.ref a, c] ∧ H a = some (exo a C (some d)) ∧ H d = some (exd d fs) ∧ XiC K C ∧ ClsV c cv ∧ PySem.W.kitOne K (.ref C) cv = some b ∧ Q (.bl b) H
theorem call_isX {X : Cx} : CallR X (.builtin "isinstance") (rIsX X.K) := by
  intro pins s σ H xs us Q I r h
  obtain ⟨a, C, d, fs, c, cv, b, rfl, ea, ed, T, k, e, q⟩ := h
  obtain ⟨u1, u2, rfl, r1, r2⟩ := vals2 r
  have e2 := k.eq r2
  subst e2
  cases (show u1 = Value.ref a from r1)
  obtain ⟨t1, ha⟩ := exo_at I.hok ea
  obtain ⟨mA, hns, hr⟩ := exd_at I.hok ed
  obtain ⟨od, ho, hl⟩ := lookIn_ns hns
  exact PySem.W.kia_one (kit_exc T) I.kIn (⟨ha, rfl, rfl, ho⟩ : PySem.W.InstAt s.heap a _ C (some od)) e (fun z => nomatch z) fun tk => ⟨.bl b, H, I.tok tk, rfl, q⟩
inductive ClsD : D → Value → Prop
  | own (T : Addr) : ClsD (.ref T) (.ref T)
  | ty (n : String) : ClsD (.ty n) (.type n)
def RIsX (isx : Addr → D → Bool → Prop) : RC2 := fun h ds c => ∃ C ns es t b, ds = [.exc C ns es, t] ∧ isx C t b ∧ c = .bl b
theorem lIsX {K : Fg} {isx : Addr → D → Bool → Prop} (hi : ∀ C t b, isx C t b → XiC K C ∧ ∃ cv, ClsD t cv ∧ PySem.W.kitOne K (.ref C) cv = some b) : CLL K (rIsX K) (RIsX isx) := by
  intro vs H h ds c Q re dvx hr k
  obtain ⟨C, ns, es, t, b, rfl, hb, rfl⟩ := hr
  obtain ⟨v, v', rfl, dv, dw⟩ := dvs2 dvx
  obtain ⟨T, cv, hc, e⟩ := hi C t b hb
  cases dv with
  | exc n1 q1 n2 q2 rs =>
    refine ⟨_, C, _, _, v', cv, b, rfl, q1, q2, T, ?_, e, k _ H (Step.refl h H) re (.bl _)⟩
    cases hc with
    | own T => cases dw; exact .own T
    | ty n => cases dw; exact .ty n
theorem e_isX {X : Cx} {An : AN} {a b : Expr} {gas : gTA} {p pos : Pos} {isx : Addr → D → Bool → Prop} (hi : ∀ C t b, isx C t b → XiC X.K C ∧ ∃ cv, ClsD t cv ∧ PySem.W.kitOne X.K (.ref C) cv = some b) (hm : X.mg "isinstance" = none) (ha : PA X [a, b] (gA X.K An gas)) (hg : Gl X "isinstance" := by rfl) (he : starEach [a, b] X.env = (false, eval a X.env) :: starEach [b] X.env := by rfl) (hpl : (backTo pos (starEach [b] X.env)).any (·.1) = false := by rfl) : PE X (.Call (.Name "isinstance" p) [a, b] [] pos) (gE X.K An (gCB (RIsX isx) gas)) :=
  e_cb call_isX (lIsX hi) hm (by decide +kernel) ha hg (by decide) (by decide) he hpl
end Gh

set_option maxHeartbeats 4000000
namespace K01
open PySem L2 Gh
def N20 : List Str := ["InvalidFraction", "InvalidStatement", "TooLarge", "UnknownPlayer", "DuplicatePiece", "InvalidWeights", "InvalidWorths", "InvalidAnswer", "BrokenRule", "NothingExpected", "NothingLeft", "ParseError", "InvalidName", "InUse", "Cycle", "Unfit", "InvalidCommand", "InvalidDocument", "UnknownPiece", "UnknownName"]
def N18 : List Str := ["InvalidFraction", "InvalidStatement", "TooLarge", "UnknownPlayer", "DuplicatePiece", "InvalidWeights", "InvalidWorths", "InvalidAnswer", "BrokenRule", "NothingExpected", "NothingLeft", "ParseError", "InvalidName", "InUse", "Cycle", "Unfit", "InvalidCommand", "InvalidDocument"]
def XF (g : Str → Addr) : Addr → Prop := fun C => ∃ x : Str, x ∈ N20 ∧ C = g x
def isx (g : Str → Addr) : Addr → D → Bool → Prop := fun C t b => ∃ x : Str, x ∈ N20 ∧ C = g x ∧ ((∃ y : Str, y ∈ N20 ∧ t = .ref (g y) ∧ b = decide (x = y)) ∨ ((t = .ref (g "GrainError") ∨ t = .ty "ValueError") ∧ b = decide (x ∈ N18)) ∨ ((t = .ref (g "MissingError") ∨ t = .ty "LookupError") ∧ b = !decide (x ∈ N18)))
def S_bases (g : Str → Addr) : GSpec := fun ds h P => ∃ (x : Str) (ns : List Str) (es : List D), ds = [.exc (g x) ns es] ∧ x ∈ N20 ∧ P (.lst [.bl (decide (x ∈ N18)), .bl (decide (x ∈ N18)), .bl (!decide (x ∈ N18)), .bl (!decide (x ∈ N18))]) h
def S_kinds (g : Str → Addr) : GSpec := fun ds h P => ∃ (x : Str) (ns : List Str) (es : List D), ds = [.exc (g x) ns es] ∧ x ∈ N20 ∧ P (.lst (N20.map fun y => .bl (decide (x = y)))) h
def inL (l : List Str) (x : Str) : Bool := decide (x ∈ l)
def lk (fs : List (Str × D)) (n : Str) : Option D := fs.lookup n
def wordOf (fs : List (Str × D)) : Option Str := match lk fs "word" with
  | some (.str w) => some w
  | _ => none
def fieldOf (fs : List (Str × D)) : Option D := match wordOf fs with
  | none => none
  | some w => if inL ["unknownplayer", "brokenrule"] w = true then lk fs "player" else
    if inL ["unknownpiece", "duplicatepiece", "invalidname", "unknownname", "inuse", "cycle", "unfit"] w = true then lk fs "name" else
    if inL ["invalidstatement", "parseerror"] w = true then lk fs "place" else
    if inL ["toolarge", "invalidcommand"] w = true then (if w = "toolarge" then lk fs "limit" else lk fs "index") else
    if w = "invaliddocument" then lk fs "row" else some .non
def S_fieldX (g : Str → Addr) : GSpec := fun ds h P => ∃ (x : Str) (ns : List Str) (es : List D) (d : D), ds = [.exc (g x) ns es] ∧ x ∈ N20 ∧ fieldOf (ns.zip es) = some d ∧ P d h
def g_field (g : Str → Addr) : gTS := (sSeq (sIf (gB (gBin (RIn false) (gXr (XF g) "word" (gVar 0)) (gTup (aCons (gC (.str "unknownplayer")) (aCons (gC (.str "brokenrule")) aNil)))))
  (sRet (gXr (XF g) "player" (gVar 0)))
  sNext)
 (sSeq (sIf (gB (gBin (RIn false) (gXr (XF g) "word" (gVar 0)) (gTup (aCons (gC (.str "unknownpiece")) (aCons (gC (.str "duplicatepiece")) (aCons (gC (.str "invalidname")) (aCons (gC (.str "unknownname")) (aCons (gC (.str "inuse")) (aCons (gC (.str "cycle")) (aCons (gC (.str "unfit")) aNil))))))))))
  (sRet (gXr (XF g) "name" (gVar 0)))
  sNext)
 (sSeq (sIf (gB (gBin (RIn false) (gXr (XF g) "word" (gVar 0)) (gTup (aCons (gC (.str "invalidstatement")) (aCons (gC (.str "parseerror")) aNil)))))
  (sRet (gXr (XF g) "place" (gVar 0)))
  sNext)
 (sSeq (sIf (gB (gBin (RIn false) (gXr (XF g) "word" (gVar 0)) (gTup (aCons (gC (.str "toolarge")) (aCons (gC (.str "invalidcommand")) aNil)))))
  (sRet (gIf (gB (gBin (REq false) (gXr (XF g) "word" (gVar 0)) (gC (.str "toolarge")))) (gXr (XF g) "limit" (gVar 0)) (gXr (XF g) "index" (gVar 0))))
  sNext)
 (sRet (gIf (gB (gBin (REq false) (gXr (XF g) "word" (gVar 0)) (gC (.str "invaliddocument")))) (gXr (XF g) "row" (gVar 0)) (gC .non)))))))
def g_bases (g : Str → Addr) : gTS := (sSeq (sSet 1 (gFr (fLst (aCons (gCB (RIsX (isx g)) (aCons (gVar 0) (aCons (gC (.ref (g "GrainError"))) aNil))) (aCons (gCB (RIsX (isx g)) (aCons (gVar 0) (aCons (gC (.ty "ValueError")) aNil))) aNil)))))
 (sRet (gBin RAdd (gVar 1) (gFr (fLst (aCons (gCB (RIsX (isx g)) (aCons (gVar 0) (aCons (gC (.ref (g "MissingError"))) aNil))) (aCons (gCB (RIsX (isx g)) (aCons (gVar 0) (aCons (gC (.ty "LookupError")) aNil))) aNil)))))))
def g_kinds (g : Str → Addr) : gTS := (sSeq (sSet 1 (gFr (fLst (aCons (gCB (RIsX (isx g)) (aCons (gVar 0) (aCons (gC (.ref (g "InvalidFraction"))) aNil))) (aCons (gCB (RIsX (isx g)) (aCons (gVar 0) (aCons (gC (.ref (g "InvalidStatement"))) aNil))) (aCons (gCB (RIsX (isx g)) (aCons (gVar 0) (aCons (gC (.ref (g "TooLarge"))) aNil))) aNil))))))
 (sSeq (sSet 1 (gBin RAdd (gVar 1) (gFr (fLst (aCons (gCB (RIsX (isx g)) (aCons (gVar 0) (aCons (gC (.ref (g "UnknownPlayer"))) aNil))) (aCons (gCB (RIsX (isx g)) (aCons (gVar 0) (aCons (gC (.ref (g "DuplicatePiece"))) aNil))) (aCons (gCB (RIsX (isx g)) (aCons (gVar 0) (aCons (gC (.ref (g "InvalidWeights"))) aNil))) aNil)))))))
 (sSeq (sSet 1 (gBin RAdd (gVar 1) (gFr (fLst (aCons (gCB (RIsX (isx g)) (aCons (gVar 0) (aCons (gC (.ref (g "InvalidWorths"))) aNil))) (aCons (gCB (RIsX (isx g)) (aCons (gVar 0) (aCons (gC (.ref (g "InvalidAnswer"))) aNil))) (aCons (gCB (RIsX (isx g)) (aCons (gVar 0) (aCons (gC (.ref (g "BrokenRule"))) aNil))) aNil)))))))
 (sSeq (sSet 1 (gBin RAdd (gVar 1) (gFr (fLst (aCons (gCB (RIsX (isx g)) (aCons (gVar 0) (aCons (gC (.ref (g "NothingExpected"))) aNil))) (aCons (gCB (RIsX (isx g)) (aCons (gVar 0) (aCons (gC (.ref (g "NothingLeft"))) aNil))) (aCons (gCB (RIsX (isx g)) (aCons (gVar 0) (aCons (gC (.ref (g "ParseError"))) aNil))) aNil)))))))
 (sSeq (sSet 1 (gBin RAdd (gVar 1) (gFr (fLst (aCons (gCB (RIsX (isx g)) (aCons (gVar 0) (aCons (gC (.ref (g "InvalidName"))) aNil))) (aCons (gCB (RIsX (isx g)) (aCons (gVar 0) (aCons (gC (.ref (g "InUse"))) aNil))) (aCons (gCB (RIsX (isx g)) (aCons (gVar 0) (aCons (gC (.ref (g "Cycle"))) aNil))) (aCons (gCB (RIsX (isx g)) (aCons (gVar 0) (aCons (gC (.ref (g "Unfit"))) aNil))) aNil))))))))
 (sSeq (sSet 1 (gBin RAdd (gVar 1) (gFr (fLst (aCons (gCB (RIsX (isx g)) (aCons (gVar 0) (aCons (gC (.ref (g "InvalidCommand"))) aNil))) (aCons (gCB (RIsX (isx g)) (aCons (gVar 0) (aCons (gC (.ref (g "InvalidDocument"))) aNil))) (aCons (gCB (RIsX (isx g)) (aCons (gVar 0) (aCons (gC (.ref (g "UnknownPiece"))) aNil))) aNil)))))))
 (sRet (gBin RAdd (gVar 1) (gFr (fLst (aCons (gCB (RIsX (isx g)) (aCons (gVar 0) (aCons (gC (.ref (g "UnknownName"))) aNil))) aNil)))))))))))
theorem inV_strL (x : Str) (l : List Str) : inV (.str x) (l.map V.str) = inL l x := by
  unfold inV inL
  rw [List.any_map]
  by_cases hm : x ∈ l
  · rw [decide_eq_true hm, List.any_eq_true]
    exact ⟨x, hm, decide_eq_true rfl⟩
  · rw [decide_eq_false hm, List.any_eq_false]
    intro y hy hq
    refine hm ?_
    have : y = x := of_decide_eq_true hq
    rw [← this]
    exact hy
theorem atomsOf : ∀ l : List Str, atomVs (l.map D.str) = some (l.map V.str)
  | [] => rfl
  | x :: r => by
    show (atomV (D.str x)).bind _ = _
    rw [atomsOf r]
    rfl
theorem inS {h : GH} {x : Str} (l : List Str) : RIn false h (.str x) (.tup (l.map .str)) (.bl (inL l x)) := ⟨.str x, l.map V.str, rfl, atomsOf l, by rw [inV_strL]; rfl⟩
theorem ite2' {c : Prop} [Decidable c] {a b : Prop} (ha : c → a) (hb : ¬ c → b) : if c then a else b := by
  by_cases h : c
  · rw [if_pos h]; exact ha h
  · rw [if_neg h]; exact hb h
theorem pure_field (g : Str → Addr) (ds : List D) (h : GH) (P : GP) (hs : S_fieldX g ds h P) : g_field g { nx := fun _ h' => P .non h', rt := P } (startG ["_law_e"] ds) h := by
  obtain ⟨x, ns, es, d, rfl, hx, hd, hp⟩ := hs
  have X : XF g (g x) := ⟨x, hx, rfl⟩
  unfold fieldOf at hd
  cases ew : wordOf (ns.zip es) with
  | none => rw [ew] at hd; cases hd
  | some w =>
    rw [ew] at hd
    have hw : (ns.zip es).lookup ("word" : Str) = some (D.str w) := by
      unfold wordOf at ew
      split at ew
      · rename_i x e; cases ew; exact e
      · cases ew
    dsimp only at hd
    refine ⟨_, rfl, g x, ns, es, _, rfl, X, hw, (by show 2 ≤ sizeLine; decide), _, inS ["unknownplayer", "brokenrule"], _, rfl, ?_⟩
    refine ite2' (fun c => ?_) (fun c => ?_)
    · rw [if_pos c] at hd
      exact ⟨_, rfl, g x, ns, es, d, rfl, X, hd, .inl hp⟩
    rw [if_neg c] at hd
    refine ⟨_, rfl, g x, ns, es, _, rfl, X, hw, (by show 7 ≤ sizeLine; decide), _, inS ["unknownpiece", "duplicatepiece", "invalidname", "unknownname", "inuse", "cycle", "unfit"], _, rfl, ?_⟩
    refine ite2' (fun c => ?_) (fun c => ?_)
    · rw [if_pos c] at hd
      exact ⟨_, rfl, g x, ns, es, d, rfl, X, hd, .inl hp⟩
    rw [if_neg c] at hd
    refine ⟨_, rfl, g x, ns, es, _, rfl, X, hw, (by show 2 ≤ sizeLine; decide), _, inS ["invalidstatement", "parseerror"], _, rfl, ?_⟩
    refine ite2' (fun c => ?_) (fun c => ?_)
    · rw [if_pos c] at hd
      exact ⟨_, rfl, g x, ns, es, d, rfl, X, hd, .inl hp⟩
    rw [if_neg c] at hd
    refine ⟨_, rfl, g x, ns, es, _, rfl, X, hw, (by show 2 ≤ sizeLine; decide), _, inS ["toolarge", "invalidcommand"], _, rfl, ?_⟩
    refine ite2' (fun c => ?_) (fun c => ?_)
    · rw [if_pos c] at hd
      refine ⟨_, rfl, g x, ns, es, _, rfl, X, hw, _, rfl, _, rfl, ?_⟩
      refine ite2' (fun c2 => ?_) (fun c2 => ?_)
      · rw [if_pos (of_decide_eq_true c2)] at hd
        exact ⟨_, rfl, g x, ns, es, d, rfl, X, hd, .inl hp⟩
      · rw [if_neg (fun z => c2 (decide_eq_true z))] at hd
        exact ⟨_, rfl, g x, ns, es, d, rfl, X, hd, .inl hp⟩
    rw [if_neg c] at hd
    refine ⟨_, rfl, g x, ns, es, _, rfl, X, hw, _, rfl, _, rfl, ?_⟩
    refine ite2' (fun c2 => ?_) (fun c2 => ?_)
    · rw [if_pos (of_decide_eq_true c2)] at hd
      exact ⟨_, rfl, g x, ns, es, d, rfl, X, hd, .inl hp⟩
    · rw [if_neg (fun z => c2 (decide_eq_true z))] at hd
      cases hd
      exact .inl hp
theorem len_field (g : Str → Addr) (ds : List D) (h : GH) (P : GP) (hs : S_fieldX g ds h P) : ds.length = 1 := by obtain ⟨_, _, _, _, rfl, _⟩ := hs; rfl
theorem pure_bases (g : Str → Addr) (ds : List D) (h : GH) (P : GP) (hs : S_bases g ds h P) : g_bases g { nx := fun _ h' => P .non h', rt := P } (startG ["_law_e", "_law_some"] ds) h := by
  obtain ⟨x, ns, es, rfl, hx, hp⟩ := hs
  refine ⟨_, rfl, _, ⟨g x, ns, es, _, _, rfl, ⟨x, hx, rfl, .inr (.inl ⟨.inl rfl, rfl⟩)⟩, rfl⟩, _, rfl, _, ⟨g x, ns, es, _, _, rfl, ⟨x, hx, rfl, .inr (.inl ⟨.inr rfl, rfl⟩)⟩, rfl⟩, two_le, ?_⟩
  refine ⟨_, rfl, _, rfl, _, ⟨g x, ns, es, _, _, rfl, ⟨x, hx, rfl, .inr (.inr ⟨.inl rfl, rfl⟩)⟩, rfl⟩, _, rfl, _, ⟨g x, ns, es, _, _, rfl, ⟨x, hx, rfl, .inr (.inr ⟨.inr rfl, rfl⟩)⟩, rfl⟩, two_le, _, ⟨by show 4 ≤ sizeLine; decide, rfl⟩, .inl hp⟩
theorem len_bases (g : Str → Addr) (ds : List D) (h : GH) (P : GP) (hs : S_bases g ds h P) : ds.length = 1 := by obtain ⟨_, _, _, rfl, _⟩ := hs; rfl
theorem pure_kinds (g : Str → Addr) (ds : List D) (h : GH) (P : GP) (hs : S_kinds g ds h P) : g_kinds g { nx := fun _ h' => P .non h', rt := P } (startG ["_law_e", "_law_some"] ds) h := by
  obtain ⟨x, ns, es, rfl, hx, hp⟩ := hs
  have K : ∀ y : Str, y ∈ N20 → RIsX (isx g) h [.exc (g x) ns es, .ref (g y)] (.bl (decide (x = y))) := fun y hy => ⟨g x, ns, es, _, _, rfl, ⟨x, hx, rfl, .inl ⟨y, hy, rfl, rfl⟩⟩, rfl⟩
  refine ⟨_, rfl, _, K "InvalidFraction" (by decide), _, rfl, _, K "InvalidStatement" (by decide), _, rfl, _, K "TooLarge" (by decide), by show 3 ≤ sizeLine; decide, ?_⟩
  refine ⟨_, rfl, _, rfl, _, K "UnknownPlayer" (by decide), _, rfl, _, K "DuplicatePiece" (by decide), _, rfl, _, K "InvalidWeights" (by decide), by show 3 ≤ sizeLine; decide, _, ⟨by show 6 ≤ sizeLine; decide, rfl⟩, ?_⟩
  refine ⟨_, rfl, _, rfl, _, K "InvalidWorths" (by decide), _, rfl, _, K "InvalidAnswer" (by decide), _, rfl, _, K "BrokenRule" (by decide), by show 3 ≤ sizeLine; decide, _, ⟨by show 9 ≤ sizeLine; decide, rfl⟩, ?_⟩
  refine ⟨_, rfl, _, rfl, _, K "NothingExpected" (by decide), _, rfl, _, K "NothingLeft" (by decide), _, rfl, _, K "ParseError" (by decide), by show 3 ≤ sizeLine; decide, _, ⟨by show 12 ≤ sizeLine; decide, rfl⟩, ?_⟩
  refine ⟨_, rfl, _, rfl, _, K "InvalidName" (by decide), _, rfl, _, K "InUse" (by decide), _, rfl, _, K "Cycle" (by decide), _, rfl, _, K "Unfit" (by decide), by show 4 ≤ sizeLine; decide, _, ⟨by show 16 ≤ sizeLine; decide, rfl⟩, ?_⟩
  refine ⟨_, rfl, _, rfl, _, K "InvalidCommand" (by decide), _, rfl, _, K "InvalidDocument" (by decide), _, rfl, _, K "UnknownPiece" (by decide), by show 3 ≤ sizeLine; decide, _, ⟨by show 19 ≤ sizeLine; decide, rfl⟩, ?_⟩
  exact ⟨_, rfl, _, rfl, _, K "UnknownName" (by decide), by show 1 ≤ sizeLine; decide, _, ⟨by show 20 ≤ sizeLine; decide, rfl⟩, .inl hp⟩
theorem len_kinds (g : Str → Addr) (ds : List D) (h : GH) (P : GP) (hs : S_kinds g ds h P) : ds.length = 1 := by obtain ⟨_, _, _, rfl, _⟩ := hs; rfl
end K01

set_option maxHeartbeats 4000000
namespace K01
open PySem L2 Gh
def b_law (g : Str → Addr) : gTS := (sSeq (sSet 7 (gIf (gB (gBin (RCmp fun i j => decide (i < j)) (gVar 6) (gC (.int 18)))) (gFr (fLst (aCons (gC (.bl true)) (aCons (gC (.bl true)) (aCons (gC (.bl false)) (aCons (gC (.bl false)) aNil)))))) (gFr (fLst (aCons (gC (.bl false)) (aCons (gC (.bl false)) (aCons (gC (.bl true)) (aCons (gC (.bl true)) aNil))))))))
 (sSeq (sIf (gNot (gB (gCall (S_law_same 3) (aCons (gFr (fLst (aCons (gXr (XF g) "word" (gBin RIx (gVar 4) (gVar 6))) (aCons (gCall (S_bases g) (aCons (gBin RIx (gVar 4) (gVar 6)) aNil)) aNil)))) (aCons (gFr (fLst (aCons (gBin RIx (gVar 5) (gVar 6)) (aCons (gVar 7) aNil)))) aNil)))))
  (sRet (gC (.bl false)))
  sNext)
 (sSeq (sIf (gB (gBin (REq true) (gCall (S_kinds g) (aCons (gBin RIx (gVar 4) (gVar 6)) aNil)) (gFr (fLc (iRg1 (aCons (gC (.int 20)) aNil)) (tgName 9) gYes (gBin (REq false) (gVar 9) (gVar 6)) [9]))))
  (sRet (gC (.bl false)))
  sNext)
 (sSeq (sSet 8 (gIf (gB (gBin (RIn false) (gVar 6) (gTup (aCons (gC (.int 0)) (aCons (gC (.int 5)) (aCons (gC (.int 6)) (aCons (gC (.int 7)) (aCons (gC (.int 9)) (aCons (gC (.int 10)) aNil))))))))) (gC .non) (gIf (gB (gBin (RIn false) (gVar 6) (gTup (aCons (gC (.int 4)) (aCons (gC (.int 12)) (aCons (gC (.int 13)) (aCons (gC (.int 14)) (aCons (gC (.int 15)) (aCons (gC (.int 18)) (aCons (gC (.int 19)) aNil)))))))))) (gVar 3) (gVar 2))))
 (sIf (gNot (gB (gCall (S_law_same 3) (aCons (gCall (S_fieldX g) (aCons (gBin RIx (gVar 4) (gVar 6)) aNil)) (aCons (gVar 8) aNil)))))
  (sRet (gC (.bl false)))
  sNext)))))
def g_law (g : Str → Addr) : gTS := (sSeq (sSet 1 (gCall S_law_bag (aCons (gVar 0) aNil)))
 (sSeq (sPar 2 3 (aCons (gBin RSub (gCall S_law_pull (aCons (gVar 1) (aCons (gBin RPow (gC (.int 10)) (gC (.int 9))) aNil))) (gC (.int 5))) (aCons (gCall S_law_of (aCons (gVar 1) (aCons (gFr (fLst (aCons (gC (.str "")) (aCons (gC (.str "a")) (aCons (gC (.str "zz")) (aCons (gC (.str "A-")) aNil)))))) aNil))) aNil)))
 (sSeq (sSet 4 (gFr (fLst (aCons (gMk0 (g "InvalidFraction") "invalidfraction") (aCons (gMk1 (g "InvalidStatement") "invalidstatement" "place" (gVar 2)) (aCons (gMk1 (g "TooLarge") "toolarge" "limit" (gVar 2)) (aCons (gMk1 (g "UnknownPlayer") "unknownplayer" "player" (gVar 2)) (aCons (gMk1 (g "DuplicatePiece") "duplicatepiece" "name" (gVar 3)) aNil))))))))
 (sSeq (sSet 4 (gBin RAdd (gVar 4) (gFr (fLst (aCons (gMk0 (g "InvalidWeights") "invalidweights") (aCons (gMk0 (g "InvalidWorths") "invalidworths") (aCons (gMk0 (g "InvalidAnswer") "invalidanswer") (aCons (gMk1 (g "BrokenRule") "brokenrule" "player" (gVar 2)) (aCons (gMk0 (g "NothingExpected") "nothingexpected") aNil)))))))))
 (sSeq (sSet 4 (gBin RAdd (gVar 4) (gFr (fLst (aCons (gMk0 (g "NothingLeft") "nothingleft") (aCons (gMk1 (g "ParseError") "parseerror" "place" (gVar 2)) (aCons (gMk1 (g "InvalidName") "invalidname" "name" (gVar 3)) (aCons (gMk1 (g "InUse") "inuse" "name" (gVar 3)) (aCons (gMk1 (g "Cycle") "cycle" "name" (gVar 3)) (aCons (gMk1 (g "Unfit") "unfit" "name" (gVar 3)) aNil))))))))))
 (sSeq (sSet 4 (gBin RAdd (gVar 4) (gFr (fLst (aCons (gMk1 (g "InvalidCommand") "invalidcommand" "index" (gVar 2)) (aCons (gMk1 (g "InvalidDocument") "invaliddocument" "row" (gVar 2)) (aCons (gMk1 (g "UnknownPiece") "unknownpiece" "name" (gVar 3)) (aCons (gMk1 (g "UnknownName") "unknownname" "name" (gVar 3)) aNil))))))))
 (sSeq (sSet 5 (gC (.str "invalidfraction invalidstatement toolarge unknownplayer duplicatepiece invalidweights invalidworths")))
 (sSeq (sSet 5 (gBin RAdd (gVar 5) (gC (.str " invalidanswer brokenrule nothingexpected nothingleft parseerror invalidname inuse"))))
 (sSeq (sSet 5 (gBin RAdd (gVar 5) (gC (.str " cycle unfit"))))
 (sSeq (sSet 5 (gFr (fSplit (gBin RAdd (gVar 5) (gC (.str " invalidcommand invaliddocument unknownpiece unknownname"))) (gC (.str " ")))))
 (sSeq (sFor (iRg1 (aCons (gC (.int 20)) aNil)) (tgName 6)
  (b_law g))
 (sRet (gC (.bl true))))))))))))))
def Ex (g : Str → Addr) (k : Int) (t : Str) : List D := [.exc (g "InvalidFraction") ["word"] [.str "invalidfraction"],
  .exc (g "InvalidStatement") ["place", "word"] [.int k, .str "invalidstatement"],
  .exc (g "TooLarge") ["limit", "word"] [.int k, .str "toolarge"],
  .exc (g "UnknownPlayer") ["player", "word"] [.int k, .str "unknownplayer"],
  .exc (g "DuplicatePiece") ["name", "word"] [.str t, .str "duplicatepiece"],
  .exc (g "InvalidWeights") ["word"] [.str "invalidweights"],
  .exc (g "InvalidWorths") ["word"] [.str "invalidworths"],
  .exc (g "InvalidAnswer") ["word"] [.str "invalidanswer"],
  .exc (g "BrokenRule") ["player", "word"] [.int k, .str "brokenrule"],
  .exc (g "NothingExpected") ["word"] [.str "nothingexpected"],
  .exc (g "NothingLeft") ["word"] [.str "nothingleft"],
  .exc (g "ParseError") ["place", "word"] [.int k, .str "parseerror"],
  .exc (g "InvalidName") ["name", "word"] [.str t, .str "invalidname"],
  .exc (g "InUse") ["name", "word"] [.str t, .str "inuse"],
  .exc (g "Cycle") ["name", "word"] [.str t, .str "cycle"],
  .exc (g "Unfit") ["name", "word"] [.str t, .str "unfit"],
  .exc (g "InvalidCommand") ["index", "word"] [.int k, .str "invalidcommand"],
  .exc (g "InvalidDocument") ["row", "word"] [.int k, .str "invaliddocument"],
  .exc (g "UnknownPiece") ["name", "word"] [.str t, .str "unknownpiece"],
  .exc (g "UnknownName") ["name", "word"] [.str t, .str "unknownname"]]
def Wd : List Str := ["invalidfraction", "invalidstatement", "toolarge", "unknownplayer", "duplicatepiece", "invalidweights", "invalidworths", "invalidanswer", "brokenrule", "nothingexpected", "nothingleft", "parseerror", "invalidname", "inuse", "cycle", "unfit", "invalidcommand", "invaliddocument", "unknownpiece", "unknownname"]
def Ws : List D := Wd.map .str
theorem kinds_eq {x : Str} {bs : List Bool} (h : N20.map (fun y => decide (x = y)) = bs) : N20.map (fun y => D.bl (decide (x = y))) = bs.map D.bl := by
  rw [← h, List.map_map]
  rfl
def jEq (i : Int) : D → D
  | .int j => .bl (decide (j = i))
  | _ => .bl false
def i20 (i : Nat) : List Bool := (List.range 20).map fun j => j == i
theorem memB {n : Nat} (a b c d : Bool) : ∀ x ∈ [D.bl a, D.bl b, D.bl c, D.bl d], okD n x := fun x hx => by
  rcases List.mem_cons.mp hx with rfl | hx
  · cases n <;> trivial
  rcases List.mem_cons.mp hx with rfl | hx
  · cases n <;> trivial
  rcases List.mem_cons.mp hx with rfl | hx
  · cases n <;> trivial
  cases List.mem_singleton.mp hx
  cases n <;> trivial
theorem toPB : ∀ bs : List Bool, toPs (bs.map D.bl) = some (bs.map PyData.bool)
  | [] => rfl
  | b :: r => by
    show (toP (D.bl b)).bind (fun x => (toPs (r.map D.bl)).map (x :: ·)) = _
    rw [toPB r]
    rfl
theorem layB : ∀ bs : List Bool, PyData.canLayAll0 (bs.map PyData.bool) = true
  | [] => rfl
  | b :: r => by
    show ((PyData.bool b).canLay0 && PyData.canLayAll0 (r.map PyData.bool)) = true
    rw [layB r]
    rfl
theorem depthB : ∀ bs : List Bool, PyData.depthAll (bs.map PyData.bool) ≤ 1
  | [] => by decide
  | b :: r => by
    show max (PyData.bool b).depth (PyData.depthAll (r.map PyData.bool)) ≤ 1
    have := depthB r
    have e : (PyData.bool b).depth ≤ 1 := by show _ ≤ 1; decide +revert
    omega
theorem shapedB (bs : List Bool) : SeqAt.shaped (.list (bs.map PyData.bool)) = true := by
  unfold SeqAt.shaped
  have h1 : (PyData.list (bs.map PyData.bool)).canLay0 = true := layB bs
  have h2 : (PyData.list (bs.map PyData.bool)).depth ≤ 64 := by
    have : (PyData.list (bs.map PyData.bool)).depth = PyData.depthAll (bs.map PyData.bool) + 1 := rfl
    have := depthB bs
    omega
  rw [h1, decide_eq_true h2]
  rfl
theorem neB {h : GH} (bs : List Bool) {ds : List D} (e : ds = bs.map D.bl) : REq true h (.lst (bs.map D.bl)) (.lst ds) (.bl false) := by
  subst e
  have e : toP (.lst (bs.map D.bl)) = some (.list (bs.map PyData.bool)) := by
    show (toPs (bs.map D.bl)).map PyData.list = _
    rw [toPB]
    rfl
  refine ⟨_, _, e, e, shapedB bs, shapedB bs, ?_⟩
  have := SeqAt.eqv_refl (.list (bs.map PyData.bool)) (layB bs)
  rw [this]
  rfl

theorem cmp_0 : (rangeD 0 (20 : Int).toNat).map (jEq 0) = (i20 0).map D.bl := by kernel_rfl
theorem fld_0 (k : Int) (t : Str) : fieldOf ((["word"] : List Str).zip ([.str "invalidfraction"] : List D)) = some (.non) := by kernel_rfl
theorem wrd_0 (k : Int) (t : Str) : ((["word"] : List Str).zip ([.str "invalidfraction"] : List D)).lookup ("word" : Str) = some (D.str "invalidfraction") := by kernel_rfl
theorem bas_0 : decide (("InvalidFraction" : Str) ∈ N18) = true := by decide +kernel
theorem mem_0 : ("InvalidFraction" : Str) ∈ N20 := by decide +kernel
theorem knd_0 : N20.map (fun y => D.bl (decide (("InvalidFraction" : Str) = y))) = (i20 0).map D.bl := kinds_eq (by decide +kernel)
theorem turn_0 {g : Str → Addr} {k : Int} {t : Str} {h : GH} {N : GEnds} {o0 o1 o7 o8 o9 : Option D} (kk : ∀ o7 o8, N.nx [o0, o1, some (.int k), some (.str t), some (.lst (Ex g k t)), some (.lst Ws), some (.int 0), o7, o8, o9] h) :
    b_law g N [o0, o1, some (.int k), some (.str t), some (.lst (Ex g k t)), some (.lst Ws), some (.int 0), o7, o8, o9] h := by
  have IX : ∀ h : GH, RIx h (.lst (Ex g k t)) (.int 0) (.exc (g "InvalidFraction") ["word"] [.str "invalidfraction"]) := fun h => ix_of (.inl rfl) (atI_nat (j := 0) rfl)
  have IW : ∀ h : GH, RIx h (.lst Ws) (.int 0) (.str "invalidfraction") := fun h => ix_of (.inl rfl) (atI_nat (j := 0) rfl)
  refine ⟨_, rfl, _, rfl, _, rfl, iteT ⟨by show 4 ≤ sizeLine; decide, ?_⟩⟩
  refine ⟨_, rfl, _, rfl, _, IX h, g "InvalidFraction", _, _, _, rfl, ⟨_, mem_0, rfl⟩, wrd_0 k t, _, rfl, _, rfl, _, IX h, "InvalidFraction", _, _, rfl, mem_0, ?_⟩
  rw [bas_0]
  refine ⟨two_le, _, rfl, _, rfl, _, IW h, _, rfl, two_le, ?_⟩
  refine ⟨_, _, .lst [.str "invalidfraction", .lst [.bl true, .bl true, .bl (!true), .bl (!true)]], rfl, rfl, rfl, okD_lst two_le (mem2 (okS _ _) (okD_lst (by show 4 ≤ sizeLine; decide) (memB _ _ _ _))), _, rfl, iteF ?_⟩
  refine ⟨_, rfl, _, rfl, _, IX h, "InvalidFraction", _, _, rfl, mem_0, ?_⟩
  rw [knd_0]
  refine ⟨20, rfl, ⟨by decide, by decide⟩, fun p hp => ?_⟩
  refine comp_rel (R := fun d y => y = jEq 0 d) hp _ [] (fun d hd acc Q hq => ?_) (by rw [rangeD_length, List.length_nil]; decide) fun ys hys => ?_
  · obtain ⟨j, hj⟩ := List.mem_iff_getElem?.mp hd
    obtain ⟨_, rfl⟩ := rangeD_get hj
    exact ⟨_, rfl, _, rfl, _, rfl, hq _ rfl⟩
  have e := F2.map_eq hys
  subst e
  rw [List.nil_append]
  refine ⟨_, neB _ (cmp_0), _, rfl, iteF ?_⟩
  refine ⟨_, rfl, by show 6 ≤ sizeLine; decide, _, ⟨_, _, rfl, rfl, rfl⟩, _, rfl, iteT ?_⟩
  refine ⟨_, rfl, _, rfl, _, IX h, "InvalidFraction", _, _, .non, rfl, mem_0, fld_0 k t, _, rfl, ?_⟩
  exact ⟨_, _, .non, rfl, rfl, rfl, trivial, _, rfl, iteF (kk _ _)⟩
theorem cmp_1 : (rangeD 0 (20 : Int).toNat).map (jEq 1) = (i20 1).map D.bl := by kernel_rfl
theorem fld_1 (k : Int) (t : Str) : fieldOf ((["place", "word"] : List Str).zip ([.int k, .str "invalidstatement"] : List D)) = some (.int k) := by kernel_rfl
theorem wrd_1 (k : Int) (t : Str) : ((["place", "word"] : List Str).zip ([.int k, .str "invalidstatement"] : List D)).lookup ("word" : Str) = some (D.str "invalidstatement") := by kernel_rfl
theorem bas_1 : decide (("InvalidStatement" : Str) ∈ N18) = true := by decide +kernel
theorem mem_1 : ("InvalidStatement" : Str) ∈ N20 := by decide +kernel
theorem knd_1 : N20.map (fun y => D.bl (decide (("InvalidStatement" : Str) = y))) = (i20 1).map D.bl := kinds_eq (by decide +kernel)
theorem turn_1 {g : Str → Addr} {k : Int} {t : Str} {h : GH} {N : GEnds} {o0 o1 o7 o8 o9 : Option D} (kk : ∀ o7 o8, N.nx [o0, o1, some (.int k), some (.str t), some (.lst (Ex g k t)), some (.lst Ws), some (.int 1), o7, o8, o9] h) :
    b_law g N [o0, o1, some (.int k), some (.str t), some (.lst (Ex g k t)), some (.lst Ws), some (.int 1), o7, o8, o9] h := by
  have IX : ∀ h : GH, RIx h (.lst (Ex g k t)) (.int 1) (.exc (g "InvalidStatement") ["place", "word"] [.int k, .str "invalidstatement"]) := fun h => ix_of (.inl rfl) (atI_nat (j := 1) rfl)
  have IW : ∀ h : GH, RIx h (.lst Ws) (.int 1) (.str "invalidstatement") := fun h => ix_of (.inl rfl) (atI_nat (j := 1) rfl)
  refine ⟨_, rfl, _, rfl, _, rfl, iteT ⟨by show 4 ≤ sizeLine; decide, ?_⟩⟩
  refine ⟨_, rfl, _, rfl, _, IX h, g "InvalidStatement", _, _, _, rfl, ⟨_, mem_1, rfl⟩, wrd_1 k t, _, rfl, _, rfl, _, IX h, "InvalidStatement", _, _, rfl, mem_1, ?_⟩
  rw [bas_1]
  refine ⟨two_le, _, rfl, _, rfl, _, IW h, _, rfl, two_le, ?_⟩
  refine ⟨_, _, .lst [.str "invalidstatement", .lst [.bl true, .bl true, .bl (!true), .bl (!true)]], rfl, rfl, rfl, okD_lst two_le (mem2 (okS _ _) (okD_lst (by show 4 ≤ sizeLine; decide) (memB _ _ _ _))), _, rfl, iteF ?_⟩
  refine ⟨_, rfl, _, rfl, _, IX h, "InvalidStatement", _, _, rfl, mem_1, ?_⟩
  rw [knd_1]
  refine ⟨20, rfl, ⟨by decide, by decide⟩, fun p hp => ?_⟩
  refine comp_rel (R := fun d y => y = jEq 1 d) hp _ [] (fun d hd acc Q hq => ?_) (by rw [rangeD_length, List.length_nil]; decide) fun ys hys => ?_
  · obtain ⟨j, hj⟩ := List.mem_iff_getElem?.mp hd
    obtain ⟨_, rfl⟩ := rangeD_get hj
    exact ⟨_, rfl, _, rfl, _, rfl, hq _ rfl⟩
  have e := F2.map_eq hys
  subst e
  rw [List.nil_append]
  refine ⟨_, neB _ (cmp_1), _, rfl, iteF ?_⟩
  refine ⟨_, rfl, by show 6 ≤ sizeLine; decide, _, ⟨_, _, rfl, rfl, rfl⟩, _, rfl, iteF ⟨_, rfl, by show 7 ≤ sizeLine; decide, _, ⟨_, _, rfl, rfl, rfl⟩, _, rfl, iteF ⟨_, rfl, ?_⟩⟩⟩
  refine ⟨_, rfl, _, rfl, _, IX h, "InvalidStatement", _, _, .int k, rfl, mem_1, fld_1 k t, _, rfl, ?_⟩
  exact ⟨_, _, .int k, rfl, rfl, rfl, trivial, _, rfl, iteF (kk _ _)⟩
theorem cmp_2 : (rangeD 0 (20 : Int).toNat).map (jEq 2) = (i20 2).map D.bl := by kernel_rfl
theorem fld_2 (k : Int) (t : Str) : fieldOf ((["limit", "word"] : List Str).zip ([.int k, .str "toolarge"] : List D)) = some (.int k) := by kernel_rfl
theorem wrd_2 (k : Int) (t : Str) : ((["limit", "word"] : List Str).zip ([.int k, .str "toolarge"] : List D)).lookup ("word" : Str) = some (D.str "toolarge") := by kernel_rfl
theorem bas_2 : decide (("TooLarge" : Str) ∈ N18) = true := by decide +kernel
theorem mem_2 : ("TooLarge" : Str) ∈ N20 := by decide +kernel
theorem knd_2 : N20.map (fun y => D.bl (decide (("TooLarge" : Str) = y))) = (i20 2).map D.bl := kinds_eq (by decide +kernel)
theorem turn_2 {g : Str → Addr} {k : Int} {t : Str} {h : GH} {N : GEnds} {o0 o1 o7 o8 o9 : Option D} (kk : ∀ o7 o8, N.nx [o0, o1, some (.int k), some (.str t), some (.lst (Ex g k t)), some (.lst Ws), some (.int 2), o7, o8, o9] h) :
    b_law g N [o0, o1, some (.int k), some (.str t), some (.lst (Ex g k t)), some (.lst Ws), some (.int 2), o7, o8, o9] h := by
  have IX : ∀ h : GH, RIx h (.lst (Ex g k t)) (.int 2) (.exc (g "TooLarge") ["limit", "word"] [.int k, .str "toolarge"]) := fun h => ix_of (.inl rfl) (atI_nat (j := 2) rfl)
  have IW : ∀ h : GH, RIx h (.lst Ws) (.int 2) (.str "toolarge") := fun h => ix_of (.inl rfl) (atI_nat (j := 2) rfl)
  refine ⟨_, rfl, _, rfl, _, rfl, iteT ⟨by show 4 ≤ sizeLine; decide, ?_⟩⟩
  refine ⟨_, rfl, _, rfl, _, IX h, g "TooLarge", _, _, _, rfl, ⟨_, mem_2, rfl⟩, wrd_2 k t, _, rfl, _, rfl, _, IX h, "TooLarge", _, _, rfl, mem_2, ?_⟩
  rw [bas_2]
  refine ⟨two_le, _, rfl, _, rfl, _, IW h, _, rfl, two_le, ?_⟩
  refine ⟨_, _, .lst [.str "toolarge", .lst [.bl true, .bl true, .bl (!true), .bl (!true)]], rfl, rfl, rfl, okD_lst two_le (mem2 (okS _ _) (okD_lst (by show 4 ≤ sizeLine; decide) (memB _ _ _ _))), _, rfl, iteF ?_⟩
  refine ⟨_, rfl, _, rfl, _, IX h, "TooLarge", _, _, rfl, mem_2, ?_⟩
  rw [knd_2]
  refine ⟨20, rfl, ⟨by decide, by decide⟩, fun p hp => ?_⟩
  refine comp_rel (R := fun d y => y = jEq 2 d) hp _ [] (fun d hd acc Q hq => ?_) (by rw [rangeD_length, List.length_nil]; decide) fun ys hys => ?_
  · obtain ⟨j, hj⟩ := List.mem_iff_getElem?.mp hd
    obtain ⟨_, rfl⟩ := rangeD_get hj
    exact ⟨_, rfl, _, rfl, _, rfl, hq _ rfl⟩
  have e := F2.map_eq hys
  subst e
  rw [List.nil_append]
  refine ⟨_, neB _ (cmp_2), _, rfl, iteF ?_⟩
  refine ⟨_, rfl, by show 6 ≤ sizeLine; decide, _, ⟨_, _, rfl, rfl, rfl⟩, _, rfl, iteF ⟨_, rfl, by show 7 ≤ sizeLine; decide, _, ⟨_, _, rfl, rfl, rfl⟩, _, rfl, iteF ⟨_, rfl, ?_⟩⟩⟩
  refine ⟨_, rfl, _, rfl, _, IX h, "TooLarge", _, _, .int k, rfl, mem_2, fld_2 k t, _, rfl, ?_⟩
  exact ⟨_, _, .int k, rfl, rfl, rfl, trivial, _, rfl, iteF (kk _ _)⟩
theorem cmp_3 : (rangeD 0 (20 : Int).toNat).map (jEq 3) = (i20 3).map D.bl := by kernel_rfl
theorem fld_3 (k : Int) (t : Str) : fieldOf ((["player", "word"] : List Str).zip ([.int k, .str "unknownplayer"] : List D)) = some (.int k) := by kernel_rfl
theorem wrd_3 (k : Int) (t : Str) : ((["player", "word"] : List Str).zip ([.int k, .str "unknownplayer"] : List D)).lookup ("word" : Str) = some (D.str "unknownplayer") := by kernel_rfl
theorem bas_3 : decide (("UnknownPlayer" : Str) ∈ N18) = true := by decide +kernel
theorem mem_3 : ("UnknownPlayer" : Str) ∈ N20 := by decide +kernel
theorem knd_3 : N20.map (fun y => D.bl (decide (("UnknownPlayer" : Str) = y))) = (i20 3).map D.bl := kinds_eq (by decide +kernel)
theorem turn_3 {g : Str → Addr} {k : Int} {t : Str} {h : GH} {N : GEnds} {o0 o1 o7 o8 o9 : Option D} (kk : ∀ o7 o8, N.nx [o0, o1, some (.int k), some (.str t), some (.lst (Ex g k t)), some (.lst Ws), some (.int 3), o7, o8, o9] h) :
    b_law g N [o0, o1, some (.int k), some (.str t), some (.lst (Ex g k t)), some (.lst Ws), some (.int 3), o7, o8, o9] h := by
  have IX : ∀ h : GH, RIx h (.lst (Ex g k t)) (.int 3) (.exc (g "UnknownPlayer") ["player", "word"] [.int k, .str "unknownplayer"]) := fun h => ix_of (.inl rfl) (atI_nat (j := 3) rfl)
  have IW : ∀ h : GH, RIx h (.lst Ws) (.int 3) (.str "unknownplayer") := fun h => ix_of (.inl rfl) (atI_nat (j := 3) rfl)
  refine ⟨_, rfl, _, rfl, _, rfl, iteT ⟨by show 4 ≤ sizeLine; decide, ?_⟩⟩
  refine ⟨_, rfl, _, rfl, _, IX h, g "UnknownPlayer", _, _, _, rfl, ⟨_, mem_3, rfl⟩, wrd_3 k t, _, rfl, _, rfl, _, IX h, "UnknownPlayer", _, _, rfl, mem_3, ?_⟩
  rw [bas_3]
  refine ⟨two_le, _, rfl, _, rfl, _, IW h, _, rfl, two_le, ?_⟩
  refine ⟨_, _, .lst [.str "unknownplayer", .lst [.bl true, .bl true, .bl (!true), .bl (!true)]], rfl, rfl, rfl, okD_lst two_le (mem2 (okS _ _) (okD_lst (by show 4 ≤ sizeLine; decide) (memB _ _ _ _))), _, rfl, iteF ?_⟩
  refine ⟨_, rfl, _, rfl, _, IX h, "UnknownPlayer", _, _, rfl, mem_3, ?_⟩
  rw [knd_3]
  refine ⟨20, rfl, ⟨by decide, by decide⟩, fun p hp => ?_⟩
  refine comp_rel (R := fun d y => y = jEq 3 d) hp _ [] (fun d hd acc Q hq => ?_) (by rw [rangeD_length, List.length_nil]; decide) fun ys hys => ?_
  · obtain ⟨j, hj⟩ := List.mem_iff_getElem?.mp hd
    obtain ⟨_, rfl⟩ := rangeD_get hj
    exact ⟨_, rfl, _, rfl, _, rfl, hq _ rfl⟩
  have e := F2.map_eq hys
  subst e
  rw [List.nil_append]
  refine ⟨_, neB _ (cmp_3), _, rfl, iteF ?_⟩
  refine ⟨_, rfl, by show 6 ≤ sizeLine; decide, _, ⟨_, _, rfl, rfl, rfl⟩, _, rfl, iteF ⟨_, rfl, by show 7 ≤ sizeLine; decide, _, ⟨_, _, rfl, rfl, rfl⟩, _, rfl, iteF ⟨_, rfl, ?_⟩⟩⟩
  refine ⟨_, rfl, _, rfl, _, IX h, "UnknownPlayer", _, _, .int k, rfl, mem_3, fld_3 k t, _, rfl, ?_⟩
  exact ⟨_, _, .int k, rfl, rfl, rfl, trivial, _, rfl, iteF (kk _ _)⟩
theorem cmp_4 : (rangeD 0 (20 : Int).toNat).map (jEq 4) = (i20 4).map D.bl := by kernel_rfl
theorem fld_4 (k : Int) (t : Str) : fieldOf ((["name", "word"] : List Str).zip ([.str t, .str "duplicatepiece"] : List D)) = some (.str t) := by kernel_rfl
theorem wrd_4 (k : Int) (t : Str) : ((["name", "word"] : List Str).zip ([.str t, .str "duplicatepiece"] : List D)).lookup ("word" : Str) = some (D.str "duplicatepiece") := by kernel_rfl
theorem bas_4 : decide (("DuplicatePiece" : Str) ∈ N18) = true := by decide +kernel
theorem mem_4 : ("DuplicatePiece" : Str) ∈ N20 := by decide +kernel
theorem knd_4 : N20.map (fun y => D.bl (decide (("DuplicatePiece" : Str) = y))) = (i20 4).map D.bl := kinds_eq (by decide +kernel)
theorem turn_4 {g : Str → Addr} {k : Int} {t : Str} {h : GH} {N : GEnds} {o0 o1 o7 o8 o9 : Option D} (kk : ∀ o7 o8, N.nx [o0, o1, some (.int k), some (.str t), some (.lst (Ex g k t)), some (.lst Ws), some (.int 4), o7, o8, o9] h) :
    b_law g N [o0, o1, some (.int k), some (.str t), some (.lst (Ex g k t)), some (.lst Ws), some (.int 4), o7, o8, o9] h := by
  have IX : ∀ h : GH, RIx h (.lst (Ex g k t)) (.int 4) (.exc (g "DuplicatePiece") ["name", "word"] [.str t, .str "duplicatepiece"]) := fun h => ix_of (.inl rfl) (atI_nat (j := 4) rfl)
  have IW : ∀ h : GH, RIx h (.lst Ws) (.int 4) (.str "duplicatepiece") := fun h => ix_of (.inl rfl) (atI_nat (j := 4) rfl)
  refine ⟨_, rfl, _, rfl, _, rfl, iteT ⟨by show 4 ≤ sizeLine; decide, ?_⟩⟩
  refine ⟨_, rfl, _, rfl, _, IX h, g "DuplicatePiece", _, _, _, rfl, ⟨_, mem_4, rfl⟩, wrd_4 k t, _, rfl, _, rfl, _, IX h, "DuplicatePiece", _, _, rfl, mem_4, ?_⟩
  rw [bas_4]
  refine ⟨two_le, _, rfl, _, rfl, _, IW h, _, rfl, two_le, ?_⟩
  refine ⟨_, _, .lst [.str "duplicatepiece", .lst [.bl true, .bl true, .bl (!true), .bl (!true)]], rfl, rfl, rfl, okD_lst two_le (mem2 (okS _ _) (okD_lst (by show 4 ≤ sizeLine; decide) (memB _ _ _ _))), _, rfl, iteF ?_⟩
  refine ⟨_, rfl, _, rfl, _, IX h, "DuplicatePiece", _, _, rfl, mem_4, ?_⟩
  rw [knd_4]
  refine ⟨20, rfl, ⟨by decide, by decide⟩, fun p hp => ?_⟩
  refine comp_rel (R := fun d y => y = jEq 4 d) hp _ [] (fun d hd acc Q hq => ?_) (by rw [rangeD_length, List.length_nil]; decide) fun ys hys => ?_
  · obtain ⟨j, hj⟩ := List.mem_iff_getElem?.mp hd
    obtain ⟨_, rfl⟩ := rangeD_get hj
    exact ⟨_, rfl, _, rfl, _, rfl, hq _ rfl⟩
  have e := F2.map_eq hys
  subst e
  rw [List.nil_append]
  refine ⟨_, neB _ (cmp_4), _, rfl, iteF ?_⟩
  refine ⟨_, rfl, by show 6 ≤ sizeLine; decide, _, ⟨_, _, rfl, rfl, rfl⟩, _, rfl, iteF ⟨_, rfl, by show 7 ≤ sizeLine; decide, _, ⟨_, _, rfl, rfl, rfl⟩, _, rfl, iteT ⟨_, rfl, ?_⟩⟩⟩
  refine ⟨_, rfl, _, rfl, _, IX h, "DuplicatePiece", _, _, .str t, rfl, mem_4, fld_4 k t, _, rfl, ?_⟩
  exact ⟨_, _, .str t, rfl, rfl, rfl, trivial, _, rfl, iteF (kk _ _)⟩
theorem cmp_5 : (rangeD 0 (20 : Int).toNat).map (jEq 5) = (i20 5).map D.bl := by kernel_rfl
theorem fld_5 (k : Int) (t : Str) : fieldOf ((["word"] : List Str).zip ([.str "invalidweights"] : List D)) = some (.non) := by kernel_rfl
theorem wrd_5 (k : Int) (t : Str) : ((["word"] : List Str).zip ([.str "invalidweights"] : List D)).lookup ("word" : Str) = some (D.str "invalidweights") := by kernel_rfl
theorem bas_5 : decide (("InvalidWeights" : Str) ∈ N18) = true := by decide +kernel
theorem mem_5 : ("InvalidWeights" : Str) ∈ N20 := by decide +kernel
theorem knd_5 : N20.map (fun y => D.bl (decide (("InvalidWeights" : Str) = y))) = (i20 5).map D.bl := kinds_eq (by decide +kernel)
theorem turn_5 {g : Str → Addr} {k : Int} {t : Str} {h : GH} {N : GEnds} {o0 o1 o7 o8 o9 : Option D} (kk : ∀ o7 o8, N.nx [o0, o1, some (.int k), some (.str t), some (.lst (Ex g k t)), some (.lst Ws), some (.int 5), o7, o8, o9] h) :
    b_law g N [o0, o1, some (.int k), some (.str t), some (.lst (Ex g k t)), some (.lst Ws), some (.int 5), o7, o8, o9] h := by
  have IX : ∀ h : GH, RIx h (.lst (Ex g k t)) (.int 5) (.exc (g "InvalidWeights") ["word"] [.str "invalidweights"]) := fun h => ix_of (.inl rfl) (atI_nat (j := 5) rfl)
  have IW : ∀ h : GH, RIx h (.lst Ws) (.int 5) (.str "invalidweights") := fun h => ix_of (.inl rfl) (atI_nat (j := 5) rfl)
  refine ⟨_, rfl, _, rfl, _, rfl, iteT ⟨by show 4 ≤ sizeLine; decide, ?_⟩⟩
  refine ⟨_, rfl, _, rfl, _, IX h, g "InvalidWeights", _, _, _, rfl, ⟨_, mem_5, rfl⟩, wrd_5 k t, _, rfl, _, rfl, _, IX h, "InvalidWeights", _, _, rfl, mem_5, ?_⟩
  rw [bas_5]
  refine ⟨two_le, _, rfl, _, rfl, _, IW h, _, rfl, two_le, ?_⟩
  refine ⟨_, _, .lst [.str "invalidweights", .lst [.bl true, .bl true, .bl (!true), .bl (!true)]], rfl, rfl, rfl, okD_lst two_le (mem2 (okS _ _) (okD_lst (by show 4 ≤ sizeLine; decide) (memB _ _ _ _))), _, rfl, iteF ?_⟩
  refine ⟨_, rfl, _, rfl, _, IX h, "InvalidWeights", _, _, rfl, mem_5, ?_⟩
  rw [knd_5]
  refine ⟨20, rfl, ⟨by decide, by decide⟩, fun p hp => ?_⟩
  refine comp_rel (R := fun d y => y = jEq 5 d) hp _ [] (fun d hd acc Q hq => ?_) (by rw [rangeD_length, List.length_nil]; decide) fun ys hys => ?_
  · obtain ⟨j, hj⟩ := List.mem_iff_getElem?.mp hd
    obtain ⟨_, rfl⟩ := rangeD_get hj
    exact ⟨_, rfl, _, rfl, _, rfl, hq _ rfl⟩
  have e := F2.map_eq hys
  subst e
  rw [List.nil_append]
  refine ⟨_, neB _ (cmp_5), _, rfl, iteF ?_⟩
  refine ⟨_, rfl, by show 6 ≤ sizeLine; decide, _, ⟨_, _, rfl, rfl, rfl⟩, _, rfl, iteT ?_⟩
  refine ⟨_, rfl, _, rfl, _, IX h, "InvalidWeights", _, _, .non, rfl, mem_5, fld_5 k t, _, rfl, ?_⟩
  exact ⟨_, _, .non, rfl, rfl, rfl, trivial, _, rfl, iteF (kk _ _)⟩
theorem cmp_6 : (rangeD 0 (20 : Int).toNat).map (jEq 6) = (i20 6).map D.bl := by kernel_rfl
theorem fld_6 (k : Int) (t : Str) : fieldOf ((["word"] : List Str).zip ([.str "invalidworths"] : List D)) = some (.non) := by kernel_rfl
theorem wrd_6 (k : Int) (t : Str) : ((["word"] : List Str).zip ([.str "invalidworths"] : List D)).lookup ("word" : Str) = some (D.str "invalidworths") := by kernel_rfl
theorem bas_6 : decide (("InvalidWorths" : Str) ∈ N18) = true := by decide +kernel
theorem mem_6 : ("InvalidWorths" : Str) ∈ N20 := by decide +kernel
theorem knd_6 : N20.map (fun y => D.bl (decide (("InvalidWorths" : Str) = y))) = (i20 6).map D.bl := kinds_eq (by decide +kernel)
theorem turn_6 {g : Str → Addr} {k : Int} {t : Str} {h : GH} {N : GEnds} {o0 o1 o7 o8 o9 : Option D} (kk : ∀ o7 o8, N.nx [o0, o1, some (.int k), some (.str t), some (.lst (Ex g k t)), some (.lst Ws), some (.int 6), o7, o8, o9] h) :
    b_law g N [o0, o1, some (.int k), some (.str t), some (.lst (Ex g k t)), some (.lst Ws), some (.int 6), o7, o8, o9] h := by
  have IX : ∀ h : GH, RIx h (.lst (Ex g k t)) (.int 6) (.exc (g "InvalidWorths") ["word"] [.str "invalidworths"]) := fun h => ix_of (.inl rfl) (atI_nat (j := 6) rfl)
  have IW : ∀ h : GH, RIx h (.lst Ws) (.int 6) (.str "invalidworths") := fun h => ix_of (.inl rfl) (atI_nat (j := 6) rfl)
  refine ⟨_, rfl, _, rfl, _, rfl, iteT ⟨by show 4 ≤ sizeLine; decide, ?_⟩⟩
  refine ⟨_, rfl, _, rfl, _, IX h, g "InvalidWorths", _, _, _, rfl, ⟨_, mem_6, rfl⟩, wrd_6 k t, _, rfl, _, rfl, _, IX h, "InvalidWorths", _, _, rfl, mem_6, ?_⟩
  rw [bas_6]
  refine ⟨two_le, _, rfl, _, rfl, _, IW h, _, rfl, two_le, ?_⟩
  refine ⟨_, _, .lst [.str "invalidworths", .lst [.bl true, .bl true, .bl (!true), .bl (!true)]], rfl, rfl, rfl, okD_lst two_le (mem2 (okS _ _) (okD_lst (by show 4 ≤ sizeLine; decide) (memB _ _ _ _))), _, rfl, iteF ?_⟩
  refine ⟨_, rfl, _, rfl, _, IX h, "InvalidWorths", _, _, rfl, mem_6, ?_⟩
  rw [knd_6]
  refine ⟨20, rfl, ⟨by decide, by decide⟩, fun p hp => ?_⟩
  refine comp_rel (R := fun d y => y = jEq 6 d) hp _ [] (fun d hd acc Q hq => ?_) (by rw [rangeD_length, List.length_nil]; decide) fun ys hys => ?_
  · obtain ⟨j, hj⟩ := List.mem_iff_getElem?.mp hd
    obtain ⟨_, rfl⟩ := rangeD_get hj
    exact ⟨_, rfl, _, rfl, _, rfl, hq _ rfl⟩
  have e := F2.map_eq hys
  subst e
  rw [List.nil_append]
  refine ⟨_, neB _ (cmp_6), _, rfl, iteF ?_⟩
  refine ⟨_, rfl, by show 6 ≤ sizeLine; decide, _, ⟨_, _, rfl, rfl, rfl⟩, _, rfl, iteT ?_⟩
  refine ⟨_, rfl, _, rfl, _, IX h, "InvalidWorths", _, _, .non, rfl, mem_6, fld_6 k t, _, rfl, ?_⟩
  exact ⟨_, _, .non, rfl, rfl, rfl, trivial, _, rfl, iteF (kk _ _)⟩
theorem cmp_7 : (rangeD 0 (20 : Int).toNat).map (jEq 7) = (i20 7).map D.bl := by kernel_rfl
theorem fld_7 (k : Int) (t : Str) : fieldOf ((["word"] : List Str).zip ([.str "invalidanswer"] : List D)) = some (.non) := by kernel_rfl
theorem wrd_7 (k : Int) (t : Str) : ((["word"] : List Str).zip ([.str "invalidanswer"] : List D)).lookup ("word" : Str) = some (D.str "invalidanswer") := by kernel_rfl
theorem bas_7 : decide (("InvalidAnswer" : Str) ∈ N18) = true := by decide +kernel
theorem mem_7 : ("InvalidAnswer" : Str) ∈ N20 := by decide +kernel
theorem knd_7 : N20.map (fun y => D.bl (decide (("InvalidAnswer" : Str) = y))) = (i20 7).map D.bl := kinds_eq (by decide +kernel)
theorem turn_7 {g : Str → Addr} {k : Int} {t : Str} {h : GH} {N : GEnds} {o0 o1 o7 o8 o9 : Option D} (kk : ∀ o7 o8, N.nx [o0, o1, some (.int k), some (.str t), some (.lst (Ex g k t)), some (.lst Ws), some (.int 7), o7, o8, o9] h) :
    b_law g N [o0, o1, some (.int k), some (.str t), some (.lst (Ex g k t)), some (.lst Ws), some (.int 7), o7, o8, o9] h := by
  have IX : ∀ h : GH, RIx h (.lst (Ex g k t)) (.int 7) (.exc (g "InvalidAnswer") ["word"] [.str "invalidanswer"]) := fun h => ix_of (.inl rfl) (atI_nat (j := 7) rfl)
  have IW : ∀ h : GH, RIx h (.lst Ws) (.int 7) (.str "invalidanswer") := fun h => ix_of (.inl rfl) (atI_nat (j := 7) rfl)
  refine ⟨_, rfl, _, rfl, _, rfl, iteT ⟨by show 4 ≤ sizeLine; decide, ?_⟩⟩
  refine ⟨_, rfl, _, rfl, _, IX h, g "InvalidAnswer", _, _, _, rfl, ⟨_, mem_7, rfl⟩, wrd_7 k t, _, rfl, _, rfl, _, IX h, "InvalidAnswer", _, _, rfl, mem_7, ?_⟩
  rw [bas_7]
  refine ⟨two_le, _, rfl, _, rfl, _, IW h, _, rfl, two_le, ?_⟩
  refine ⟨_, _, .lst [.str "invalidanswer", .lst [.bl true, .bl true, .bl (!true), .bl (!true)]], rfl, rfl, rfl, okD_lst two_le (mem2 (okS _ _) (okD_lst (by show 4 ≤ sizeLine; decide) (memB _ _ _ _))), _, rfl, iteF ?_⟩
  refine ⟨_, rfl, _, rfl, _, IX h, "InvalidAnswer", _, _, rfl, mem_7, ?_⟩
  rw [knd_7]
  refine ⟨20, rfl, ⟨by decide, by decide⟩, fun p hp => ?_⟩
  refine comp_rel (R := fun d y => y = jEq 7 d) hp _ [] (fun d hd acc Q hq => ?_) (by rw [rangeD_length, List.length_nil]; decide) fun ys hys => ?_
  · obtain ⟨j, hj⟩ := List.mem_iff_getElem?.mp hd
    obtain ⟨_, rfl⟩ := rangeD_get hj
    exact ⟨_, rfl, _, rfl, _, rfl, hq _ rfl⟩
  have e := F2.map_eq hys
  subst e
  rw [List.nil_append]
  refine ⟨_, neB _ (cmp_7), _, rfl, iteF ?_⟩
  refine ⟨_, rfl, by show 6 ≤ sizeLine; decide, _, ⟨_, _, rfl, rfl, rfl⟩, _, rfl, iteT ?_⟩
  refine ⟨_, rfl, _, rfl, _, IX h, "InvalidAnswer", _, _, .non, rfl, mem_7, fld_7 k t, _, rfl, ?_⟩
  exact ⟨_, _, .non, rfl, rfl, rfl, trivial, _, rfl, iteF (kk _ _)⟩
theorem cmp_8 : (rangeD 0 (20 : Int).toNat).map (jEq 8) = (i20 8).map D.bl := by kernel_rfl
theorem fld_8 (k : Int) (t : Str) : fieldOf ((["player", "word"] : List Str).zip ([.int k, .str "brokenrule"] : List D)) = some (.int k) := by kernel_rfl
theorem wrd_8 (k : Int) (t : Str) : ((["player", "word"] : List Str).zip ([.int k, .str "brokenrule"] : List D)).lookup ("word" : Str) = some (D.str "brokenrule") := by kernel_rfl
theorem bas_8 : decide (("BrokenRule" : Str) ∈ N18) = true := by decide +kernel
theorem mem_8 : ("BrokenRule" : Str) ∈ N20 := by decide +kernel
theorem knd_8 : N20.map (fun y => D.bl (decide (("BrokenRule" : Str) = y))) = (i20 8).map D.bl := kinds_eq (by decide +kernel)
theorem turn_8 {g : Str → Addr} {k : Int} {t : Str} {h : GH} {N : GEnds} {o0 o1 o7 o8 o9 : Option D} (kk : ∀ o7 o8, N.nx [o0, o1, some (.int k), some (.str t), some (.lst (Ex g k t)), some (.lst Ws), some (.int 8), o7, o8, o9] h) :
    b_law g N [o0, o1, some (.int k), some (.str t), some (.lst (Ex g k t)), some (.lst Ws), some (.int 8), o7, o8, o9] h := by
  have IX : ∀ h : GH, RIx h (.lst (Ex g k t)) (.int 8) (.exc (g "BrokenRule") ["player", "word"] [.int k, .str "brokenrule"]) := fun h => ix_of (.inl rfl) (atI_nat (j := 8) rfl)
  have IW : ∀ h : GH, RIx h (.lst Ws) (.int 8) (.str "brokenrule") := fun h => ix_of (.inl rfl) (atI_nat (j := 8) rfl)
  refine ⟨_, rfl, _, rfl, _, rfl, iteT ⟨by show 4 ≤ sizeLine; decide, ?_⟩⟩
  refine ⟨_, rfl, _, rfl, _, IX h, g "BrokenRule", _, _, _, rfl, ⟨_, mem_8, rfl⟩, wrd_8 k t, _, rfl, _, rfl, _, IX h, "BrokenRule", _, _, rfl, mem_8, ?_⟩
  rw [bas_8]
  refine ⟨two_le, _, rfl, _, rfl, _, IW h, _, rfl, two_le, ?_⟩
  refine ⟨_, _, .lst [.str "brokenrule", .lst [.bl true, .bl true, .bl (!true), .bl (!true)]], rfl, rfl, rfl, okD_lst two_le (mem2 (okS _ _) (okD_lst (by show 4 ≤ sizeLine; decide) (memB _ _ _ _))), _, rfl, iteF ?_⟩
  refine ⟨_, rfl, _, rfl, _, IX h, "BrokenRule", _, _, rfl, mem_8, ?_⟩
  rw [knd_8]
  refine ⟨20, rfl, ⟨by decide, by decide⟩, fun p hp => ?_⟩
  refine comp_rel (R := fun d y => y = jEq 8 d) hp _ [] (fun d hd acc Q hq => ?_) (by rw [rangeD_length, List.length_nil]; decide) fun ys hys => ?_
  · obtain ⟨j, hj⟩ := List.mem_iff_getElem?.mp hd
    obtain ⟨_, rfl⟩ := rangeD_get hj
    exact ⟨_, rfl, _, rfl, _, rfl, hq _ rfl⟩
  have e := F2.map_eq hys
  subst e
  rw [List.nil_append]
  refine ⟨_, neB _ (cmp_8), _, rfl, iteF ?_⟩
  refine ⟨_, rfl, by show 6 ≤ sizeLine; decide, _, ⟨_, _, rfl, rfl, rfl⟩, _, rfl, iteF ⟨_, rfl, by show 7 ≤ sizeLine; decide, _, ⟨_, _, rfl, rfl, rfl⟩, _, rfl, iteF ⟨_, rfl, ?_⟩⟩⟩
  refine ⟨_, rfl, _, rfl, _, IX h, "BrokenRule", _, _, .int k, rfl, mem_8, fld_8 k t, _, rfl, ?_⟩
  exact ⟨_, _, .int k, rfl, rfl, rfl, trivial, _, rfl, iteF (kk _ _)⟩
theorem cmp_9 : (rangeD 0 (20 : Int).toNat).map (jEq 9) = (i20 9).map D.bl := by kernel_rfl
theorem fld_9 (k : Int) (t : Str) : fieldOf ((["word"] : List Str).zip ([.str "nothingexpected"] : List D)) = some (.non) := by kernel_rfl
theorem wrd_9 (k : Int) (t : Str) : ((["word"] : List Str).zip ([.str "nothingexpected"] : List D)).lookup ("word" : Str) = some (D.str "nothingexpected") := by kernel_rfl
theorem bas_9 : decide (("NothingExpected" : Str) ∈ N18) = true := by decide +kernel
theorem mem_9 : ("NothingExpected" : Str) ∈ N20 := by decide +kernel
theorem knd_9 : N20.map (fun y => D.bl (decide (("NothingExpected" : Str) = y))) = (i20 9).map D.bl := kinds_eq (by decide +kernel)
theorem turn_9 {g : Str → Addr} {k : Int} {t : Str} {h : GH} {N : GEnds} {o0 o1 o7 o8 o9 : Option D} (kk : ∀ o7 o8, N.nx [o0, o1, some (.int k), some (.str t), some (.lst (Ex g k t)), some (.lst Ws), some (.int 9), o7, o8, o9] h) :
    b_law g N [o0, o1, some (.int k), some (.str t), some (.lst (Ex g k t)), some (.lst Ws), some (.int 9), o7, o8, o9] h := by
  have IX : ∀ h : GH, RIx h (.lst (Ex g k t)) (.int 9) (.exc (g "NothingExpected") ["word"] [.str "nothingexpected"]) := fun h => ix_of (.inl rfl) (atI_nat (j := 9) rfl)
  have IW : ∀ h : GH, RIx h (.lst Ws) (.int 9) (.str "nothingexpected") := fun h => ix_of (.inl rfl) (atI_nat (j := 9) rfl)
  refine ⟨_, rfl, _, rfl, _, rfl, iteT ⟨by show 4 ≤ sizeLine; decide, ?_⟩⟩
  refine ⟨_, rfl, _, rfl, _, IX h, g "NothingExpected", _, _, _, rfl, ⟨_, mem_9, rfl⟩, wrd_9 k t, _, rfl, _, rfl, _, IX h, "NothingExpected", _, _, rfl, mem_9, ?_⟩
  rw [bas_9]
  refine ⟨two_le, _, rfl, _, rfl, _, IW h, _, rfl, two_le, ?_⟩
  refine ⟨_, _, .lst [.str "nothingexpected", .lst [.bl true, .bl true, .bl (!true), .bl (!true)]], rfl, rfl, rfl, okD_lst two_le (mem2 (okS _ _) (okD_lst (by show 4 ≤ sizeLine; decide) (memB _ _ _ _))), _, rfl, iteF ?_⟩
  refine ⟨_, rfl, _, rfl, _, IX h, "NothingExpected", _, _, rfl, mem_9, ?_⟩
  rw [knd_9]
  refine ⟨20, rfl, ⟨by decide, by decide⟩, fun p hp => ?_⟩
  refine comp_rel (R := fun d y => y = jEq 9 d) hp _ [] (fun d hd acc Q hq => ?_) (by rw [rangeD_length, List.length_nil]; decide) fun ys hys => ?_
  · obtain ⟨j, hj⟩ := List.mem_iff_getElem?.mp hd
    obtain ⟨_, rfl⟩ := rangeD_get hj
    exact ⟨_, rfl, _, rfl, _, rfl, hq _ rfl⟩
  have e := F2.map_eq hys
  subst e
  rw [List.nil_append]
  refine ⟨_, neB _ (cmp_9), _, rfl, iteF ?_⟩
  refine ⟨_, rfl, by show 6 ≤ sizeLine; decide, _, ⟨_, _, rfl, rfl, rfl⟩, _, rfl, iteT ?_⟩
  refine ⟨_, rfl, _, rfl, _, IX h, "NothingExpected", _, _, .non, rfl, mem_9, fld_9 k t, _, rfl, ?_⟩
  exact ⟨_, _, .non, rfl, rfl, rfl, trivial, _, rfl, iteF (kk _ _)⟩
theorem cmp_10 : (rangeD 0 (20 : Int).toNat).map (jEq 10) = (i20 10).map D.bl := by kernel_rfl
theorem fld_10 (k : Int) (t : Str) : fieldOf ((["word"] : List Str).zip ([.str "nothingleft"] : List D)) = some (.non) := by kernel_rfl
theorem wrd_10 (k : Int) (t : Str) : ((["word"] : List Str).zip ([.str "nothingleft"] : List D)).lookup ("word" : Str) = some (D.str "nothingleft") := by kernel_rfl
theorem bas_10 : decide (("NothingLeft" : Str) ∈ N18) = true := by decide +kernel
theorem mem_10 : ("NothingLeft" : Str) ∈ N20 := by decide +kernel
theorem knd_10 : N20.map (fun y => D.bl (decide (("NothingLeft" : Str) = y))) = (i20 10).map D.bl := kinds_eq (by decide +kernel)
theorem turn_10 {g : Str → Addr} {k : Int} {t : Str} {h : GH} {N : GEnds} {o0 o1 o7 o8 o9 : Option D} (kk : ∀ o7 o8, N.nx [o0, o1, some (.int k), some (.str t), some (.lst (Ex g k t)), some (.lst Ws), some (.int 10), o7, o8, o9] h) :
    b_law g N [o0, o1, some (.int k), some (.str t), some (.lst (Ex g k t)), some (.lst Ws), some (.int 10), o7, o8, o9] h := by
  have IX : ∀ h : GH, RIx h (.lst (Ex g k t)) (.int 10) (.exc (g "NothingLeft") ["word"] [.str "nothingleft"]) := fun h => ix_of (.inl rfl) (atI_nat (j := 10) rfl)
  have IW : ∀ h : GH, RIx h (.lst Ws) (.int 10) (.str "nothingleft") := fun h => ix_of (.inl rfl) (atI_nat (j := 10) rfl)
  refine ⟨_, rfl, _, rfl, _, rfl, iteT ⟨by show 4 ≤ sizeLine; decide, ?_⟩⟩
  refine ⟨_, rfl, _, rfl, _, IX h, g "NothingLeft", _, _, _, rfl, ⟨_, mem_10, rfl⟩, wrd_10 k t, _, rfl, _, rfl, _, IX h, "NothingLeft", _, _, rfl, mem_10, ?_⟩
  rw [bas_10]
  refine ⟨two_le, _, rfl, _, rfl, _, IW h, _, rfl, two_le, ?_⟩
  refine ⟨_, _, .lst [.str "nothingleft", .lst [.bl true, .bl true, .bl (!true), .bl (!true)]], rfl, rfl, rfl, okD_lst two_le (mem2 (okS _ _) (okD_lst (by show 4 ≤ sizeLine; decide) (memB _ _ _ _))), _, rfl, iteF ?_⟩
  refine ⟨_, rfl, _, rfl, _, IX h, "NothingLeft", _, _, rfl, mem_10, ?_⟩
  rw [knd_10]
  refine ⟨20, rfl, ⟨by decide, by decide⟩, fun p hp => ?_⟩
  refine comp_rel (R := fun d y => y = jEq 10 d) hp _ [] (fun d hd acc Q hq => ?_) (by rw [rangeD_length, List.length_nil]; decide) fun ys hys => ?_
  · obtain ⟨j, hj⟩ := List.mem_iff_getElem?.mp hd
    obtain ⟨_, rfl⟩ := rangeD_get hj
    exact ⟨_, rfl, _, rfl, _, rfl, hq _ rfl⟩
  have e := F2.map_eq hys
  subst e
  rw [List.nil_append]
  refine ⟨_, neB _ (cmp_10), _, rfl, iteF ?_⟩
  refine ⟨_, rfl, by show 6 ≤ sizeLine; decide, _, ⟨_, _, rfl, rfl, rfl⟩, _, rfl, iteT ?_⟩
  refine ⟨_, rfl, _, rfl, _, IX h, "NothingLeft", _, _, .non, rfl, mem_10, fld_10 k t, _, rfl, ?_⟩
  exact ⟨_, _, .non, rfl, rfl, rfl, trivial, _, rfl, iteF (kk _ _)⟩
theorem cmp_11 : (rangeD 0 (20 : Int).toNat).map (jEq 11) = (i20 11).map D.bl := by kernel_rfl
theorem fld_11 (k : Int) (t : Str) : fieldOf ((["place", "word"] : List Str).zip ([.int k, .str "parseerror"] : List D)) = some (.int k) := by kernel_rfl
theorem wrd_11 (k : Int) (t : Str) : ((["place", "word"] : List Str).zip ([.int k, .str "parseerror"] : List D)).lookup ("word" : Str) = some (D.str "parseerror") := by kernel_rfl
theorem bas_11 : decide (("ParseError" : Str) ∈ N18) = true := by decide +kernel
theorem mem_11 : ("ParseError" : Str) ∈ N20 := by decide +kernel
theorem knd_11 : N20.map (fun y => D.bl (decide (("ParseError" : Str) = y))) = (i20 11).map D.bl := kinds_eq (by decide +kernel)
theorem turn_11 {g : Str → Addr} {k : Int} {t : Str} {h : GH} {N : GEnds} {o0 o1 o7 o8 o9 : Option D} (kk : ∀ o7 o8, N.nx [o0, o1, some (.int k), some (.str t), some (.lst (Ex g k t)), some (.lst Ws), some (.int 11), o7, o8, o9] h) :
    b_law g N [o0, o1, some (.int k), some (.str t), some (.lst (Ex g k t)), some (.lst Ws), some (.int 11), o7, o8, o9] h := by
  have IX : ∀ h : GH, RIx h (.lst (Ex g k t)) (.int 11) (.exc (g "ParseError") ["place", "word"] [.int k, .str "parseerror"]) := fun h => ix_of (.inl rfl) (atI_nat (j := 11) rfl)
  have IW : ∀ h : GH, RIx h (.lst Ws) (.int 11) (.str "parseerror") := fun h => ix_of (.inl rfl) (atI_nat (j := 11) rfl)
  refine ⟨_, rfl, _, rfl, _, rfl, iteT ⟨by show 4 ≤ sizeLine; decide, ?_⟩⟩
  refine ⟨_, rfl, _, rfl, _, IX h, g "ParseError", _, _, _, rfl, ⟨_, mem_11, rfl⟩, wrd_11 k t, _, rfl, _, rfl, _, IX h, "ParseError", _, _, rfl, mem_11, ?_⟩
  rw [bas_11]
  refine ⟨two_le, _, rfl, _, rfl, _, IW h, _, rfl, two_le, ?_⟩
  refine ⟨_, _, .lst [.str "parseerror", .lst [.bl true, .bl true, .bl (!true), .bl (!true)]], rfl, rfl, rfl, okD_lst two_le (mem2 (okS _ _) (okD_lst (by show 4 ≤ sizeLine; decide) (memB _ _ _ _))), _, rfl, iteF ?_⟩
  refine ⟨_, rfl, _, rfl, _, IX h, "ParseError", _, _, rfl, mem_11, ?_⟩
  rw [knd_11]
  refine ⟨20, rfl, ⟨by decide, by decide⟩, fun p hp => ?_⟩
  refine comp_rel (R := fun d y => y = jEq 11 d) hp _ [] (fun d hd acc Q hq => ?_) (by rw [rangeD_length, List.length_nil]; decide) fun ys hys => ?_
  · obtain ⟨j, hj⟩ := List.mem_iff_getElem?.mp hd
    obtain ⟨_, rfl⟩ := rangeD_get hj
    exact ⟨_, rfl, _, rfl, _, rfl, hq _ rfl⟩
  have e := F2.map_eq hys
  subst e
  rw [List.nil_append]
  refine ⟨_, neB _ (cmp_11), _, rfl, iteF ?_⟩
  refine ⟨_, rfl, by show 6 ≤ sizeLine; decide, _, ⟨_, _, rfl, rfl, rfl⟩, _, rfl, iteF ⟨_, rfl, by show 7 ≤ sizeLine; decide, _, ⟨_, _, rfl, rfl, rfl⟩, _, rfl, iteF ⟨_, rfl, ?_⟩⟩⟩
  refine ⟨_, rfl, _, rfl, _, IX h, "ParseError", _, _, .int k, rfl, mem_11, fld_11 k t, _, rfl, ?_⟩
  exact ⟨_, _, .int k, rfl, rfl, rfl, trivial, _, rfl, iteF (kk _ _)⟩
theorem cmp_12 : (rangeD 0 (20 : Int).toNat).map (jEq 12) = (i20 12).map D.bl := by kernel_rfl
theorem fld_12 (k : Int) (t : Str) : fieldOf ((["name", "word"] : List Str).zip ([.str t, .str "invalidname"] : List D)) = some (.str t) := by kernel_rfl
theorem wrd_12 (k : Int) (t : Str) : ((["name", "word"] : List Str).zip ([.str t, .str "invalidname"] : List D)).lookup ("word" : Str) = some (D.str "invalidname") := by kernel_rfl
theorem bas_12 : decide (("InvalidName" : Str) ∈ N18) = true := by decide +kernel
theorem mem_12 : ("InvalidName" : Str) ∈ N20 := by decide +kernel
theorem knd_12 : N20.map (fun y => D.bl (decide (("InvalidName" : Str) = y))) = (i20 12).map D.bl := kinds_eq (by decide +kernel)
theorem turn_12 {g : Str → Addr} {k : Int} {t : Str} {h : GH} {N : GEnds} {o0 o1 o7 o8 o9 : Option D} (kk : ∀ o7 o8, N.nx [o0, o1, some (.int k), some (.str t), some (.lst (Ex g k t)), some (.lst Ws), some (.int 12), o7, o8, o9] h) :
    b_law g N [o0, o1, some (.int k), some (.str t), some (.lst (Ex g k t)), some (.lst Ws), some (.int 12), o7, o8, o9] h := by
  have IX : ∀ h : GH, RIx h (.lst (Ex g k t)) (.int 12) (.exc (g "InvalidName") ["name", "word"] [.str t, .str "invalidname"]) := fun h => ix_of (.inl rfl) (atI_nat (j := 12) rfl)
  have IW : ∀ h : GH, RIx h (.lst Ws) (.int 12) (.str "invalidname") := fun h => ix_of (.inl rfl) (atI_nat (j := 12) rfl)
  refine ⟨_, rfl, _, rfl, _, rfl, iteT ⟨by show 4 ≤ sizeLine; decide, ?_⟩⟩
  refine ⟨_, rfl, _, rfl, _, IX h, g "InvalidName", _, _, _, rfl, ⟨_, mem_12, rfl⟩, wrd_12 k t, _, rfl, _, rfl, _, IX h, "InvalidName", _, _, rfl, mem_12, ?_⟩
  rw [bas_12]
  refine ⟨two_le, _, rfl, _, rfl, _, IW h, _, rfl, two_le, ?_⟩
  refine ⟨_, _, .lst [.str "invalidname", .lst [.bl true, .bl true, .bl (!true), .bl (!true)]], rfl, rfl, rfl, okD_lst two_le (mem2 (okS _ _) (okD_lst (by show 4 ≤ sizeLine; decide) (memB _ _ _ _))), _, rfl, iteF ?_⟩
  refine ⟨_, rfl, _, rfl, _, IX h, "InvalidName", _, _, rfl, mem_12, ?_⟩
  rw [knd_12]
  refine ⟨20, rfl, ⟨by decide, by decide⟩, fun p hp => ?_⟩
  refine comp_rel (R := fun d y => y = jEq 12 d) hp _ [] (fun d hd acc Q hq => ?_) (by rw [rangeD_length, List.length_nil]; decide) fun ys hys => ?_
  · obtain ⟨j, hj⟩ := List.mem_iff_getElem?.mp hd
    obtain ⟨_, rfl⟩ := rangeD_get hj
    exact ⟨_, rfl, _, rfl, _, rfl, hq _ rfl⟩
  have e := F2.map_eq hys
  subst e
  rw [List.nil_append]
  refine ⟨_, neB _ (cmp_12), _, rfl, iteF ?_⟩
  refine ⟨_, rfl, by show 6 ≤ sizeLine; decide, _, ⟨_, _, rfl, rfl, rfl⟩, _, rfl, iteF ⟨_, rfl, by show 7 ≤ sizeLine; decide, _, ⟨_, _, rfl, rfl, rfl⟩, _, rfl, iteT ⟨_, rfl, ?_⟩⟩⟩
  refine ⟨_, rfl, _, rfl, _, IX h, "InvalidName", _, _, .str t, rfl, mem_12, fld_12 k t, _, rfl, ?_⟩
  exact ⟨_, _, .str t, rfl, rfl, rfl, trivial, _, rfl, iteF (kk _ _)⟩
theorem cmp_13 : (rangeD 0 (20 : Int).toNat).map (jEq 13) = (i20 13).map D.bl := by kernel_rfl
theorem fld_13 (k : Int) (t : Str) : fieldOf ((["name", "word"] : List Str).zip ([.str t, .str "inuse"] : List D)) = some (.str t) := by kernel_rfl
theorem wrd_13 (k : Int) (t : Str) : ((["name", "word"] : List Str).zip ([.str t, .str "inuse"] : List D)).lookup ("word" : Str) = some (D.str "inuse") := by kernel_rfl
theorem bas_13 : decide (("InUse" : Str) ∈ N18) = true := by decide +kernel
theorem mem_13 : ("InUse" : Str) ∈ N20 := by decide +kernel
theorem knd_13 : N20.map (fun y => D.bl (decide (("InUse" : Str) = y))) = (i20 13).map D.bl := kinds_eq (by decide +kernel)
theorem turn_13 {g : Str → Addr} {k : Int} {t : Str} {h : GH} {N : GEnds} {o0 o1 o7 o8 o9 : Option D} (kk : ∀ o7 o8, N.nx [o0, o1, some (.int k), some (.str t), some (.lst (Ex g k t)), some (.lst Ws), some (.int 13), o7, o8, o9] h) :
    b_law g N [o0, o1, some (.int k), some (.str t), some (.lst (Ex g k t)), some (.lst Ws), some (.int 13), o7, o8, o9] h := by
  have IX : ∀ h : GH, RIx h (.lst (Ex g k t)) (.int 13) (.exc (g "InUse") ["name", "word"] [.str t, .str "inuse"]) := fun h => ix_of (.inl rfl) (atI_nat (j := 13) rfl)
  have IW : ∀ h : GH, RIx h (.lst Ws) (.int 13) (.str "inuse") := fun h => ix_of (.inl rfl) (atI_nat (j := 13) rfl)
  refine ⟨_, rfl, _, rfl, _, rfl, iteT ⟨by show 4 ≤ sizeLine; decide, ?_⟩⟩
  refine ⟨_, rfl, _, rfl, _, IX h, g "InUse", _, _, _, rfl, ⟨_, mem_13, rfl⟩, wrd_13 k t, _, rfl, _, rfl, _, IX h, "InUse", _, _, rfl, mem_13, ?_⟩
  rw [bas_13]
  refine ⟨two_le, _, rfl, _, rfl, _, IW h, _, rfl, two_le, ?_⟩
  refine ⟨_, _, .lst [.str "inuse", .lst [.bl true, .bl true, .bl (!true), .bl (!true)]], rfl, rfl, rfl, okD_lst two_le (mem2 (okS _ _) (okD_lst (by show 4 ≤ sizeLine; decide) (memB _ _ _ _))), _, rfl, iteF ?_⟩
  refine ⟨_, rfl, _, rfl, _, IX h, "InUse", _, _, rfl, mem_13, ?_⟩
  rw [knd_13]
  refine ⟨20, rfl, ⟨by decide, by decide⟩, fun p hp => ?_⟩
  refine comp_rel (R := fun d y => y = jEq 13 d) hp _ [] (fun d hd acc Q hq => ?_) (by rw [rangeD_length, List.length_nil]; decide) fun ys hys => ?_
  · obtain ⟨j, hj⟩ := List.mem_iff_getElem?.mp hd
    obtain ⟨_, rfl⟩ := rangeD_get hj
    exact ⟨_, rfl, _, rfl, _, rfl, hq _ rfl⟩
  have e := F2.map_eq hys
  subst e
  rw [List.nil_append]
  refine ⟨_, neB _ (cmp_13), _, rfl, iteF ?_⟩
  refine ⟨_, rfl, by show 6 ≤ sizeLine; decide, _, ⟨_, _, rfl, rfl, rfl⟩, _, rfl, iteF ⟨_, rfl, by show 7 ≤ sizeLine; decide, _, ⟨_, _, rfl, rfl, rfl⟩, _, rfl, iteT ⟨_, rfl, ?_⟩⟩⟩
  refine ⟨_, rfl, _, rfl, _, IX h, "InUse", _, _, .str t, rfl, mem_13, fld_13 k t, _, rfl, ?_⟩
  exact ⟨_, _, .str t, rfl, rfl, rfl, trivial, _, rfl, iteF (kk _ _)⟩
theorem cmp_14 : (rangeD 0 (20 : Int).toNat).map (jEq 14) = (i20 14).map D.bl := by kernel_rfl
theorem fld_14 (k : Int) (t : Str) : fieldOf ((["name", "word"] : List Str).zip ([.str t, .str "cycle"] : List D)) = some (.str t) := by kernel_rfl
theorem wrd_14 (k : Int) (t : Str) : ((["name", "word"] : List Str).zip ([.str t, .str "cycle"] : List D)).lookup ("word" : Str) = some (D.str "cycle") := by kernel_rfl
theorem bas_14 : decide (("Cycle" : Str) ∈ N18) = true := by decide +kernel
theorem mem_14 : ("Cycle" : Str) ∈ N20 := by decide +kernel
theorem knd_14 : N20.map (fun y => D.bl (decide (("Cycle" : Str) = y))) = (i20 14).map D.bl := kinds_eq (by decide +kernel)
theorem turn_14 {g : Str → Addr} {k : Int} {t : Str} {h : GH} {N : GEnds} {o0 o1 o7 o8 o9 : Option D} (kk : ∀ o7 o8, N.nx [o0, o1, some (.int k), some (.str t), some (.lst (Ex g k t)), some (.lst Ws), some (.int 14), o7, o8, o9] h) :
    b_law g N [o0, o1, some (.int k), some (.str t), some (.lst (Ex g k t)), some (.lst Ws), some (.int 14), o7, o8, o9] h := by
  have IX : ∀ h : GH, RIx h (.lst (Ex g k t)) (.int 14) (.exc (g "Cycle") ["name", "word"] [.str t, .str "cycle"]) := fun h => ix_of (.inl rfl) (atI_nat (j := 14) rfl)
  have IW : ∀ h : GH, RIx h (.lst Ws) (.int 14) (.str "cycle") := fun h => ix_of (.inl rfl) (atI_nat (j := 14) rfl)
  refine ⟨_, rfl, _, rfl, _, rfl, iteT ⟨by show 4 ≤ sizeLine; decide, ?_⟩⟩
  refine ⟨_, rfl, _, rfl, _, IX h, g "Cycle", _, _, _, rfl, ⟨_, mem_14, rfl⟩, wrd_14 k t, _, rfl, _, rfl, _, IX h, "Cycle", _, _, rfl, mem_14, ?_⟩
  rw [bas_14]
  refine ⟨two_le, _, rfl, _, rfl, _, IW h, _, rfl, two_le, ?_⟩
  refine ⟨_, _, .lst [.str "cycle", .lst [.bl true, .bl true, .bl (!true), .bl (!true)]], rfl, rfl, rfl, okD_lst two_le (mem2 (okS _ _) (okD_lst (by show 4 ≤ sizeLine; decide) (memB _ _ _ _))), _, rfl, iteF ?_⟩
  refine ⟨_, rfl, _, rfl, _, IX h, "Cycle", _, _, rfl, mem_14, ?_⟩
  rw [knd_14]
  refine ⟨20, rfl, ⟨by decide, by decide⟩, fun p hp => ?_⟩
  refine comp_rel (R := fun d y => y = jEq 14 d) hp _ [] (fun d hd acc Q hq => ?_) (by rw [rangeD_length, List.length_nil]; decide) fun ys hys => ?_
  · obtain ⟨j, hj⟩ := List.mem_iff_getElem?.mp hd
    obtain ⟨_, rfl⟩ := rangeD_get hj
    exact ⟨_, rfl, _, rfl, _, rfl, hq _ rfl⟩
  have e := F2.map_eq hys
  subst e
  rw [List.nil_append]
  refine ⟨_, neB _ (cmp_14), _, rfl, iteF ?_⟩
  refine ⟨_, rfl, by show 6 ≤ sizeLine; decide, _, ⟨_, _, rfl, rfl, rfl⟩, _, rfl, iteF ⟨_, rfl, by show 7 ≤ sizeLine; decide, _, ⟨_, _, rfl, rfl, rfl⟩, _, rfl, iteT ⟨_, rfl, ?_⟩⟩⟩
  refine ⟨_, rfl, _, rfl, _, IX h, "Cycle", _, _, .str t, rfl, mem_14, fld_14 k t, _, rfl, ?_⟩
  exact ⟨_, _, .str t, rfl, rfl, rfl, trivial, _, rfl, iteF (kk _ _)⟩
theorem cmp_15 : (rangeD 0 (20 : Int).toNat).map (jEq 15) = (i20 15).map D.bl := by kernel_rfl
theorem fld_15 (k : Int) (t : Str) : fieldOf ((["name", "word"] : List Str).zip ([.str t, .str "unfit"] : List D)) = some (.str t) := by kernel_rfl
theorem wrd_15 (k : Int) (t : Str) : ((["name", "word"] : List Str).zip ([.str t, .str "unfit"] : List D)).lookup ("word" : Str) = some (D.str "unfit") := by kernel_rfl
theorem bas_15 : decide (("Unfit" : Str) ∈ N18) = true := by decide +kernel
theorem mem_15 : ("Unfit" : Str) ∈ N20 := by decide +kernel
theorem knd_15 : N20.map (fun y => D.bl (decide (("Unfit" : Str) = y))) = (i20 15).map D.bl := kinds_eq (by decide +kernel)
theorem turn_15 {g : Str → Addr} {k : Int} {t : Str} {h : GH} {N : GEnds} {o0 o1 o7 o8 o9 : Option D} (kk : ∀ o7 o8, N.nx [o0, o1, some (.int k), some (.str t), some (.lst (Ex g k t)), some (.lst Ws), some (.int 15), o7, o8, o9] h) :
    b_law g N [o0, o1, some (.int k), some (.str t), some (.lst (Ex g k t)), some (.lst Ws), some (.int 15), o7, o8, o9] h := by
  have IX : ∀ h : GH, RIx h (.lst (Ex g k t)) (.int 15) (.exc (g "Unfit") ["name", "word"] [.str t, .str "unfit"]) := fun h => ix_of (.inl rfl) (atI_nat (j := 15) rfl)
  have IW : ∀ h : GH, RIx h (.lst Ws) (.int 15) (.str "unfit") := fun h => ix_of (.inl rfl) (atI_nat (j := 15) rfl)
  refine ⟨_, rfl, _, rfl, _, rfl, iteT ⟨by show 4 ≤ sizeLine; decide, ?_⟩⟩
  refine ⟨_, rfl, _, rfl, _, IX h, g "Unfit", _, _, _, rfl, ⟨_, mem_15, rfl⟩, wrd_15 k t, _, rfl, _, rfl, _, IX h, "Unfit", _, _, rfl, mem_15, ?_⟩
  rw [bas_15]
  refine ⟨two_le, _, rfl, _, rfl, _, IW h, _, rfl, two_le, ?_⟩
  refine ⟨_, _, .lst [.str "unfit", .lst [.bl true, .bl true, .bl (!true), .bl (!true)]], rfl, rfl, rfl, okD_lst two_le (mem2 (okS _ _) (okD_lst (by show 4 ≤ sizeLine; decide) (memB _ _ _ _))), _, rfl, iteF ?_⟩
  refine ⟨_, rfl, _, rfl, _, IX h, "Unfit", _, _, rfl, mem_15, ?_⟩
  rw [knd_15]
  refine ⟨20, rfl, ⟨by decide, by decide⟩, fun p hp => ?_⟩
  refine comp_rel (R := fun d y => y = jEq 15 d) hp _ [] (fun d hd acc Q hq => ?_) (by rw [rangeD_length, List.length_nil]; decide) fun ys hys => ?_
  · obtain ⟨j, hj⟩ := List.mem_iff_getElem?.mp hd
    obtain ⟨_, rfl⟩ := rangeD_get hj
    exact ⟨_, rfl, _, rfl, _, rfl, hq _ rfl⟩
  have e := F2.map_eq hys
  subst e
  rw [List.nil_append]
  refine ⟨_, neB _ (cmp_15), _, rfl, iteF ?_⟩
  refine ⟨_, rfl, by show 6 ≤ sizeLine; decide, _, ⟨_, _, rfl, rfl, rfl⟩, _, rfl, iteF ⟨_, rfl, by show 7 ≤ sizeLine; decide, _, ⟨_, _, rfl, rfl, rfl⟩, _, rfl, iteT ⟨_, rfl, ?_⟩⟩⟩
  refine ⟨_, rfl, _, rfl, _, IX h, "Unfit", _, _, .str t, rfl, mem_15, fld_15 k t, _, rfl, ?_⟩
  exact ⟨_, _, .str t, rfl, rfl, rfl, trivial, _, rfl, iteF (kk _ _)⟩
theorem cmp_16 : (rangeD 0 (20 : Int).toNat).map (jEq 16) = (i20 16).map D.bl := by kernel_rfl
theorem fld_16 (k : Int) (t : Str) : fieldOf ((["index", "word"] : List Str).zip ([.int k, .str "invalidcommand"] : List D)) = some (.int k) := by kernel_rfl
theorem wrd_16 (k : Int) (t : Str) : ((["index", "word"] : List Str).zip ([.int k, .str "invalidcommand"] : List D)).lookup ("word" : Str) = some (D.str "invalidcommand") := by kernel_rfl
theorem bas_16 : decide (("InvalidCommand" : Str) ∈ N18) = true := by decide +kernel
theorem mem_16 : ("InvalidCommand" : Str) ∈ N20 := by decide +kernel
theorem knd_16 : N20.map (fun y => D.bl (decide (("InvalidCommand" : Str) = y))) = (i20 16).map D.bl := kinds_eq (by decide +kernel)
theorem turn_16 {g : Str → Addr} {k : Int} {t : Str} {h : GH} {N : GEnds} {o0 o1 o7 o8 o9 : Option D} (kk : ∀ o7 o8, N.nx [o0, o1, some (.int k), some (.str t), some (.lst (Ex g k t)), some (.lst Ws), some (.int 16), o7, o8, o9] h) :
    b_law g N [o0, o1, some (.int k), some (.str t), some (.lst (Ex g k t)), some (.lst Ws), some (.int 16), o7, o8, o9] h := by
  have IX : ∀ h : GH, RIx h (.lst (Ex g k t)) (.int 16) (.exc (g "InvalidCommand") ["index", "word"] [.int k, .str "invalidcommand"]) := fun h => ix_of (.inl rfl) (atI_nat (j := 16) rfl)
  have IW : ∀ h : GH, RIx h (.lst Ws) (.int 16) (.str "invalidcommand") := fun h => ix_of (.inl rfl) (atI_nat (j := 16) rfl)
  refine ⟨_, rfl, _, rfl, _, rfl, iteT ⟨by show 4 ≤ sizeLine; decide, ?_⟩⟩
  refine ⟨_, rfl, _, rfl, _, IX h, g "InvalidCommand", _, _, _, rfl, ⟨_, mem_16, rfl⟩, wrd_16 k t, _, rfl, _, rfl, _, IX h, "InvalidCommand", _, _, rfl, mem_16, ?_⟩
  rw [bas_16]
  refine ⟨two_le, _, rfl, _, rfl, _, IW h, _, rfl, two_le, ?_⟩
  refine ⟨_, _, .lst [.str "invalidcommand", .lst [.bl true, .bl true, .bl (!true), .bl (!true)]], rfl, rfl, rfl, okD_lst two_le (mem2 (okS _ _) (okD_lst (by show 4 ≤ sizeLine; decide) (memB _ _ _ _))), _, rfl, iteF ?_⟩
  refine ⟨_, rfl, _, rfl, _, IX h, "InvalidCommand", _, _, rfl, mem_16, ?_⟩
  rw [knd_16]
  refine ⟨20, rfl, ⟨by decide, by decide⟩, fun p hp => ?_⟩
  refine comp_rel (R := fun d y => y = jEq 16 d) hp _ [] (fun d hd acc Q hq => ?_) (by rw [rangeD_length, List.length_nil]; decide) fun ys hys => ?_
  · obtain ⟨j, hj⟩ := List.mem_iff_getElem?.mp hd
    obtain ⟨_, rfl⟩ := rangeD_get hj
    exact ⟨_, rfl, _, rfl, _, rfl, hq _ rfl⟩
  have e := F2.map_eq hys
  subst e
  rw [List.nil_append]
  refine ⟨_, neB _ (cmp_16), _, rfl, iteF ?_⟩
  refine ⟨_, rfl, by show 6 ≤ sizeLine; decide, _, ⟨_, _, rfl, rfl, rfl⟩, _, rfl, iteF ⟨_, rfl, by show 7 ≤ sizeLine; decide, _, ⟨_, _, rfl, rfl, rfl⟩, _, rfl, iteF ⟨_, rfl, ?_⟩⟩⟩
  refine ⟨_, rfl, _, rfl, _, IX h, "InvalidCommand", _, _, .int k, rfl, mem_16, fld_16 k t, _, rfl, ?_⟩
  exact ⟨_, _, .int k, rfl, rfl, rfl, trivial, _, rfl, iteF (kk _ _)⟩
theorem cmp_17 : (rangeD 0 (20 : Int).toNat).map (jEq 17) = (i20 17).map D.bl := by kernel_rfl
theorem fld_17 (k : Int) (t : Str) : fieldOf ((["row", "word"] : List Str).zip ([.int k, .str "invaliddocument"] : List D)) = some (.int k) := by kernel_rfl
theorem wrd_17 (k : Int) (t : Str) : ((["row", "word"] : List Str).zip ([.int k, .str "invaliddocument"] : List D)).lookup ("word" : Str) = some (D.str "invaliddocument") := by kernel_rfl
theorem bas_17 : decide (("InvalidDocument" : Str) ∈ N18) = true := by decide +kernel
theorem mem_17 : ("InvalidDocument" : Str) ∈ N20 := by decide +kernel
theorem knd_17 : N20.map (fun y => D.bl (decide (("InvalidDocument" : Str) = y))) = (i20 17).map D.bl := kinds_eq (by decide +kernel)
theorem turn_17 {g : Str → Addr} {k : Int} {t : Str} {h : GH} {N : GEnds} {o0 o1 o7 o8 o9 : Option D} (kk : ∀ o7 o8, N.nx [o0, o1, some (.int k), some (.str t), some (.lst (Ex g k t)), some (.lst Ws), some (.int 17), o7, o8, o9] h) :
    b_law g N [o0, o1, some (.int k), some (.str t), some (.lst (Ex g k t)), some (.lst Ws), some (.int 17), o7, o8, o9] h := by
  have IX : ∀ h : GH, RIx h (.lst (Ex g k t)) (.int 17) (.exc (g "InvalidDocument") ["row", "word"] [.int k, .str "invaliddocument"]) := fun h => ix_of (.inl rfl) (atI_nat (j := 17) rfl)
  have IW : ∀ h : GH, RIx h (.lst Ws) (.int 17) (.str "invaliddocument") := fun h => ix_of (.inl rfl) (atI_nat (j := 17) rfl)
  refine ⟨_, rfl, _, rfl, _, rfl, iteT ⟨by show 4 ≤ sizeLine; decide, ?_⟩⟩
  refine ⟨_, rfl, _, rfl, _, IX h, g "InvalidDocument", _, _, _, rfl, ⟨_, mem_17, rfl⟩, wrd_17 k t, _, rfl, _, rfl, _, IX h, "InvalidDocument", _, _, rfl, mem_17, ?_⟩
  rw [bas_17]
  refine ⟨two_le, _, rfl, _, rfl, _, IW h, _, rfl, two_le, ?_⟩
  refine ⟨_, _, .lst [.str "invaliddocument", .lst [.bl true, .bl true, .bl (!true), .bl (!true)]], rfl, rfl, rfl, okD_lst two_le (mem2 (okS _ _) (okD_lst (by show 4 ≤ sizeLine; decide) (memB _ _ _ _))), _, rfl, iteF ?_⟩
  refine ⟨_, rfl, _, rfl, _, IX h, "InvalidDocument", _, _, rfl, mem_17, ?_⟩
  rw [knd_17]
  refine ⟨20, rfl, ⟨by decide, by decide⟩, fun p hp => ?_⟩
  refine comp_rel (R := fun d y => y = jEq 17 d) hp _ [] (fun d hd acc Q hq => ?_) (by rw [rangeD_length, List.length_nil]; decide) fun ys hys => ?_
  · obtain ⟨j, hj⟩ := List.mem_iff_getElem?.mp hd
    obtain ⟨_, rfl⟩ := rangeD_get hj
    exact ⟨_, rfl, _, rfl, _, rfl, hq _ rfl⟩
  have e := F2.map_eq hys
  subst e
  rw [List.nil_append]
  refine ⟨_, neB _ (cmp_17), _, rfl, iteF ?_⟩
  refine ⟨_, rfl, by show 6 ≤ sizeLine; decide, _, ⟨_, _, rfl, rfl, rfl⟩, _, rfl, iteF ⟨_, rfl, by show 7 ≤ sizeLine; decide, _, ⟨_, _, rfl, rfl, rfl⟩, _, rfl, iteF ⟨_, rfl, ?_⟩⟩⟩
  refine ⟨_, rfl, _, rfl, _, IX h, "InvalidDocument", _, _, .int k, rfl, mem_17, fld_17 k t, _, rfl, ?_⟩
  exact ⟨_, _, .int k, rfl, rfl, rfl, trivial, _, rfl, iteF (kk _ _)⟩
theorem cmp_18 : (rangeD 0 (20 : Int).toNat).map (jEq 18) = (i20 18).map D.bl := by kernel_rfl
theorem fld_18 (k : Int) (t : Str) : fieldOf ((["name", "word"] : List Str).zip ([.str t, .str "unknownpiece"] : List D)) = some (.str t) := by kernel_rfl
theorem wrd_18 (k : Int) (t : Str) : ((["name", "word"] : List Str).zip ([.str t, .str "unknownpiece"] : List D)).lookup ("word" : Str) = some (D.str "unknownpiece") := by kernel_rfl
theorem bas_18 : decide (("UnknownPiece" : Str) ∈ N18) = false := by decide +kernel
theorem mem_18 : ("UnknownPiece" : Str) ∈ N20 := by decide +kernel
theorem knd_18 : N20.map (fun y => D.bl (decide (("UnknownPiece" : Str) = y))) = (i20 18).map D.bl := kinds_eq (by decide +kernel)
theorem turn_18 {g : Str → Addr} {k : Int} {t : Str} {h : GH} {N : GEnds} {o0 o1 o7 o8 o9 : Option D} (kk : ∀ o7 o8, N.nx [o0, o1, some (.int k), some (.str t), some (.lst (Ex g k t)), some (.lst Ws), some (.int 18), o7, o8, o9] h) :
    b_law g N [o0, o1, some (.int k), some (.str t), some (.lst (Ex g k t)), some (.lst Ws), some (.int 18), o7, o8, o9] h := by
  have IX : ∀ h : GH, RIx h (.lst (Ex g k t)) (.int 18) (.exc (g "UnknownPiece") ["name", "word"] [.str t, .str "unknownpiece"]) := fun h => ix_of (.inl rfl) (atI_nat (j := 18) rfl)
  have IW : ∀ h : GH, RIx h (.lst Ws) (.int 18) (.str "unknownpiece") := fun h => ix_of (.inl rfl) (atI_nat (j := 18) rfl)
  refine ⟨_, rfl, _, rfl, _, rfl, iteF ⟨by show 4 ≤ sizeLine; decide, ?_⟩⟩
  refine ⟨_, rfl, _, rfl, _, IX h, g "UnknownPiece", _, _, _, rfl, ⟨_, mem_18, rfl⟩, wrd_18 k t, _, rfl, _, rfl, _, IX h, "UnknownPiece", _, _, rfl, mem_18, ?_⟩
  rw [bas_18]
  refine ⟨two_le, _, rfl, _, rfl, _, IW h, _, rfl, two_le, ?_⟩
  refine ⟨_, _, .lst [.str "unknownpiece", .lst [.bl false, .bl false, .bl (!false), .bl (!false)]], rfl, rfl, rfl, okD_lst two_le (mem2 (okS _ _) (okD_lst (by show 4 ≤ sizeLine; decide) (memB _ _ _ _))), _, rfl, iteF ?_⟩
  refine ⟨_, rfl, _, rfl, _, IX h, "UnknownPiece", _, _, rfl, mem_18, ?_⟩
  rw [knd_18]
  refine ⟨20, rfl, ⟨by decide, by decide⟩, fun p hp => ?_⟩
  refine comp_rel (R := fun d y => y = jEq 18 d) hp _ [] (fun d hd acc Q hq => ?_) (by rw [rangeD_length, List.length_nil]; decide) fun ys hys => ?_
  · obtain ⟨j, hj⟩ := List.mem_iff_getElem?.mp hd
    obtain ⟨_, rfl⟩ := rangeD_get hj
    exact ⟨_, rfl, _, rfl, _, rfl, hq _ rfl⟩
  have e := F2.map_eq hys
  subst e
  rw [List.nil_append]
  refine ⟨_, neB _ (cmp_18), _, rfl, iteF ?_⟩
  refine ⟨_, rfl, by show 6 ≤ sizeLine; decide, _, ⟨_, _, rfl, rfl, rfl⟩, _, rfl, iteF ⟨_, rfl, by show 7 ≤ sizeLine; decide, _, ⟨_, _, rfl, rfl, rfl⟩, _, rfl, iteT ⟨_, rfl, ?_⟩⟩⟩
  refine ⟨_, rfl, _, rfl, _, IX h, "UnknownPiece", _, _, .str t, rfl, mem_18, fld_18 k t, _, rfl, ?_⟩
  exact ⟨_, _, .str t, rfl, rfl, rfl, trivial, _, rfl, iteF (kk _ _)⟩
theorem cmp_19 : (rangeD 0 (20 : Int).toNat).map (jEq 19) = (i20 19).map D.bl := by kernel_rfl
theorem fld_19 (k : Int) (t : Str) : fieldOf ((["name", "word"] : List Str).zip ([.str t, .str "unknownname"] : List D)) = some (.str t) := by kernel_rfl
theorem wrd_19 (k : Int) (t : Str) : ((["name", "word"] : List Str).zip ([.str t, .str "unknownname"] : List D)).lookup ("word" : Str) = some (D.str "unknownname") := by kernel_rfl
theorem bas_19 : decide (("UnknownName" : Str) ∈ N18) = false := by decide +kernel
theorem mem_19 : ("UnknownName" : Str) ∈ N20 := by decide +kernel
theorem knd_19 : N20.map (fun y => D.bl (decide (("UnknownName" : Str) = y))) = (i20 19).map D.bl := kinds_eq (by decide +kernel)
theorem turn_19 {g : Str → Addr} {k : Int} {t : Str} {h : GH} {N : GEnds} {o0 o1 o7 o8 o9 : Option D} (kk : ∀ o7 o8, N.nx [o0, o1, some (.int k), some (.str t), some (.lst (Ex g k t)), some (.lst Ws), some (.int 19), o7, o8, o9] h) :
    b_law g N [o0, o1, some (.int k), some (.str t), some (.lst (Ex g k t)), some (.lst Ws), some (.int 19), o7, o8, o9] h := by
  have IX : ∀ h : GH, RIx h (.lst (Ex g k t)) (.int 19) (.exc (g "UnknownName") ["name", "word"] [.str t, .str "unknownname"]) := fun h => ix_of (.inl rfl) (atI_nat (j := 19) rfl)
  have IW : ∀ h : GH, RIx h (.lst Ws) (.int 19) (.str "unknownname") := fun h => ix_of (.inl rfl) (atI_nat (j := 19) rfl)
  refine ⟨_, rfl, _, rfl, _, rfl, iteF ⟨by show 4 ≤ sizeLine; decide, ?_⟩⟩
  refine ⟨_, rfl, _, rfl, _, IX h, g "UnknownName", _, _, _, rfl, ⟨_, mem_19, rfl⟩, wrd_19 k t, _, rfl, _, rfl, _, IX h, "UnknownName", _, _, rfl, mem_19, ?_⟩
  rw [bas_19]
  refine ⟨two_le, _, rfl, _, rfl, _, IW h, _, rfl, two_le, ?_⟩
  refine ⟨_, _, .lst [.str "unknownname", .lst [.bl false, .bl false, .bl (!false), .bl (!false)]], rfl, rfl, rfl, okD_lst two_le (mem2 (okS _ _) (okD_lst (by show 4 ≤ sizeLine; decide) (memB _ _ _ _))), _, rfl, iteF ?_⟩
  refine ⟨_, rfl, _, rfl, _, IX h, "UnknownName", _, _, rfl, mem_19, ?_⟩
  rw [knd_19]
  refine ⟨20, rfl, ⟨by decide, by decide⟩, fun p hp => ?_⟩
  refine comp_rel (R := fun d y => y = jEq 19 d) hp _ [] (fun d hd acc Q hq => ?_) (by rw [rangeD_length, List.length_nil]; decide) fun ys hys => ?_
  · obtain ⟨j, hj⟩ := List.mem_iff_getElem?.mp hd
    obtain ⟨_, rfl⟩ := rangeD_get hj
    exact ⟨_, rfl, _, rfl, _, rfl, hq _ rfl⟩
  have e := F2.map_eq hys
  subst e
  rw [List.nil_append]
  refine ⟨_, neB _ (cmp_19), _, rfl, iteF ?_⟩
  refine ⟨_, rfl, by show 6 ≤ sizeLine; decide, _, ⟨_, _, rfl, rfl, rfl⟩, _, rfl, iteF ⟨_, rfl, by show 7 ≤ sizeLine; decide, _, ⟨_, _, rfl, rfl, rfl⟩, _, rfl, iteT ⟨_, rfl, ?_⟩⟩⟩
  refine ⟨_, rfl, _, rfl, _, IX h, "UnknownName", _, _, .str t, rfl, mem_19, fld_19 k t, _, rfl, ?_⟩
  exact ⟨_, _, .str t, rfl, rfl, rfl, trivial, _, rfl, iteF (kk _ _)⟩
theorem loop {g : Str → Addr} {k : Int} {t : Str} {h : GH} {N : GEnds} {o0 o1 o9 : Option D} (o6 o7 o8 : Option D) (kk : ∀ o6 o7 o8, N.nx [o0, o1, some (.int k), some (.str t), some (.lst (Ex g k t)), some (.lst Ws), o6, o7, o8, o9] h) :
    gLoop (tgName 6) (b_law g) N (rangeD 0 (20 : Int).toNat) [o0, o1, some (.int k), some (.str t), some (.lst (Ex g k t)), some (.lst Ws), o6, o7, o8, o9] h := by
  have e : rangeD 0 (20 : Int).toNat = [.int 0, .int 1, .int 2, .int 3, .int 4, .int 5, .int 6, .int 7, .int 8, .int 9, .int 10, .int 11, .int 12, .int 13, .int 14, .int 15, .int 16, .int 17, .int 18, .int 19] := by kernel_rfl
  rw [e]
  refine turn_0 (N := { nx := gLoop (tgName 6) (b_law g) N [.int 1, .int 2, .int 3, .int 4, .int 5, .int 6, .int 7, .int 8, .int 9, .int 10, .int 11, .int 12, .int 13, .int 14, .int 15, .int 16, .int 17, .int 18, .int 19], ct := gLoop (tgName 6) (b_law g) N [.int 1, .int 2, .int 3, .int 4, .int 5, .int 6, .int 7, .int 8, .int 9, .int 10, .int 11, .int 12, .int 13, .int 14, .int 15, .int 16, .int 17, .int 18, .int 19], bk := N.nx, rt := N.rt }) fun o7 o8 => ?_
  refine turn_1 (N := { nx := gLoop (tgName 6) (b_law g) N [.int 2, .int 3, .int 4, .int 5, .int 6, .int 7, .int 8, .int 9, .int 10, .int 11, .int 12, .int 13, .int 14, .int 15, .int 16, .int 17, .int 18, .int 19], ct := gLoop (tgName 6) (b_law g) N [.int 2, .int 3, .int 4, .int 5, .int 6, .int 7, .int 8, .int 9, .int 10, .int 11, .int 12, .int 13, .int 14, .int 15, .int 16, .int 17, .int 18, .int 19], bk := N.nx, rt := N.rt }) fun o7 o8 => ?_
  refine turn_2 (N := { nx := gLoop (tgName 6) (b_law g) N [.int 3, .int 4, .int 5, .int 6, .int 7, .int 8, .int 9, .int 10, .int 11, .int 12, .int 13, .int 14, .int 15, .int 16, .int 17, .int 18, .int 19], ct := gLoop (tgName 6) (b_law g) N [.int 3, .int 4, .int 5, .int 6, .int 7, .int 8, .int 9, .int 10, .int 11, .int 12, .int 13, .int 14, .int 15, .int 16, .int 17, .int 18, .int 19], bk := N.nx, rt := N.rt }) fun o7 o8 => ?_
  refine turn_3 (N := { nx := gLoop (tgName 6) (b_law g) N [.int 4, .int 5, .int 6, .int 7, .int 8, .int 9, .int 10, .int 11, .int 12, .int 13, .int 14, .int 15, .int 16, .int 17, .int 18, .int 19], ct := gLoop (tgName 6) (b_law g) N [.int 4, .int 5, .int 6, .int 7, .int 8, .int 9, .int 10, .int 11, .int 12, .int 13, .int 14, .int 15, .int 16, .int 17, .int 18, .int 19], bk := N.nx, rt := N.rt }) fun o7 o8 => ?_
  refine turn_4 (N := { nx := gLoop (tgName 6) (b_law g) N [.int 5, .int 6, .int 7, .int 8, .int 9, .int 10, .int 11, .int 12, .int 13, .int 14, .int 15, .int 16, .int 17, .int 18, .int 19], ct := gLoop (tgName 6) (b_law g) N [.int 5, .int 6, .int 7, .int 8, .int 9, .int 10, .int 11, .int 12, .int 13, .int 14, .int 15, .int 16, .int 17, .int 18, .int 19], bk := N.nx, rt := N.rt }) fun o7 o8 => ?_
  refine turn_5 (N := { nx := gLoop (tgName 6) (b_law g) N [.int 6, .int 7, .int 8, .int 9, .int 10, .int 11, .int 12, .int 13, .int 14, .int 15, .int 16, .int 17, .int 18, .int 19], ct := gLoop (tgName 6) (b_law g) N [.int 6, .int 7, .int 8, .int 9, .int 10, .int 11, .int 12, .int 13, .int 14, .int 15, .int 16, .int 17, .int 18, .int 19], bk := N.nx, rt := N.rt }) fun o7 o8 => ?_
  refine turn_6 (N := { nx := gLoop (tgName 6) (b_law g) N [.int 7, .int 8, .int 9, .int 10, .int 11, .int 12, .int 13, .int 14, .int 15, .int 16, .int 17, .int 18, .int 19], ct := gLoop (tgName 6) (b_law g) N [.int 7, .int 8, .int 9, .int 10, .int 11, .int 12, .int 13, .int 14, .int 15, .int 16, .int 17, .int 18, .int 19], bk := N.nx, rt := N.rt }) fun o7 o8 => ?_
  refine turn_7 (N := { nx := gLoop (tgName 6) (b_law g) N [.int 8, .int 9, .int 10, .int 11, .int 12, .int 13, .int 14, .int 15, .int 16, .int 17, .int 18, .int 19], ct := gLoop (tgName 6) (b_law g) N [.int 8, .int 9, .int 10, .int 11, .int 12, .int 13, .int 14, .int 15, .int 16, .int 17, .int 18, .int 19], bk := N.nx, rt := N.rt }) fun o7 o8 => ?_
  refine turn_8 (N := { nx := gLoop (tgName 6) (b_law g) N [.int 9, .int 10, .int 11, .int 12, .int 13, .int 14, .int 15, .int 16, .int 17, .int 18, .int 19], ct := gLoop (tgName 6) (b_law g) N [.int 9, .int 10, .int 11, .int 12, .int 13, .int 14, .int 15, .int 16, .int 17, .int 18, .int 19], bk := N.nx, rt := N.rt }) fun o7 o8 => ?_
  refine turn_9 (N := { nx := gLoop (tgName 6) (b_law g) N [.int 10, .int 11, .int 12, .int 13, .int 14, .int 15, .int 16, .int 17, .int 18, .int 19], ct := gLoop (tgName 6) (b_law g) N [.int 10, .int 11, .int 12, .int 13, .int 14, .int 15, .int 16, .int 17, .int 18, .int 19], bk := N.nx, rt := N.rt }) fun o7 o8 => ?_
  refine turn_10 (N := { nx := gLoop (tgName 6) (b_law g) N [.int 11, .int 12, .int 13, .int 14, .int 15, .int 16, .int 17, .int 18, .int 19], ct := gLoop (tgName 6) (b_law g) N [.int 11, .int 12, .int 13, .int 14, .int 15, .int 16, .int 17, .int 18, .int 19], bk := N.nx, rt := N.rt }) fun o7 o8 => ?_
  refine turn_11 (N := { nx := gLoop (tgName 6) (b_law g) N [.int 12, .int 13, .int 14, .int 15, .int 16, .int 17, .int 18, .int 19], ct := gLoop (tgName 6) (b_law g) N [.int 12, .int 13, .int 14, .int 15, .int 16, .int 17, .int 18, .int 19], bk := N.nx, rt := N.rt }) fun o7 o8 => ?_
  refine turn_12 (N := { nx := gLoop (tgName 6) (b_law g) N [.int 13, .int 14, .int 15, .int 16, .int 17, .int 18, .int 19], ct := gLoop (tgName 6) (b_law g) N [.int 13, .int 14, .int 15, .int 16, .int 17, .int 18, .int 19], bk := N.nx, rt := N.rt }) fun o7 o8 => ?_
  refine turn_13 (N := { nx := gLoop (tgName 6) (b_law g) N [.int 14, .int 15, .int 16, .int 17, .int 18, .int 19], ct := gLoop (tgName 6) (b_law g) N [.int 14, .int 15, .int 16, .int 17, .int 18, .int 19], bk := N.nx, rt := N.rt }) fun o7 o8 => ?_
  refine turn_14 (N := { nx := gLoop (tgName 6) (b_law g) N [.int 15, .int 16, .int 17, .int 18, .int 19], ct := gLoop (tgName 6) (b_law g) N [.int 15, .int 16, .int 17, .int 18, .int 19], bk := N.nx, rt := N.rt }) fun o7 o8 => ?_
  refine turn_15 (N := { nx := gLoop (tgName 6) (b_law g) N [.int 16, .int 17, .int 18, .int 19], ct := gLoop (tgName 6) (b_law g) N [.int 16, .int 17, .int 18, .int 19], bk := N.nx, rt := N.rt }) fun o7 o8 => ?_
  refine turn_16 (N := { nx := gLoop (tgName 6) (b_law g) N [.int 17, .int 18, .int 19], ct := gLoop (tgName 6) (b_law g) N [.int 17, .int 18, .int 19], bk := N.nx, rt := N.rt }) fun o7 o8 => ?_
  refine turn_17 (N := { nx := gLoop (tgName 6) (b_law g) N [.int 18, .int 19], ct := gLoop (tgName 6) (b_law g) N [.int 18, .int 19], bk := N.nx, rt := N.rt }) fun o7 o8 => ?_
  refine turn_18 (N := { nx := gLoop (tgName 6) (b_law g) N [.int 19], ct := gLoop (tgName 6) (b_law g) N [.int 19], bk := N.nx, rt := N.rt }) fun o7 o8 => ?_
  refine turn_19 (N := { nx := gLoop (tgName 6) (b_law g) N [], ct := gLoop (tgName 6) (b_law g) N [], bk := N.nx, rt := N.rt }) fun o7 o8 => ?_
  exact kk _ _ _
theorem split_eq : Txt.split (((("invalidfraction invalidstatement toolarge unknownplayer duplicatepiece invalidweights invalidworths" : Str) ++ (" invalidanswer brokenrule nothingexpected nothingleft parseerror invalidname inuse" : Str)) ++ (" cycle unfit" : Str)) ++ (" invalidcommand invaliddocument unknownpiece unknownname" : Str)) " " = Wd := by decide +kernel
theorem pure_law (g : Str → Addr) (ns : List Int) (hl : ns.length ≤ 63) : g_law g { nx := fun _ _ => False, rt := fun d _ => d = .bl true } (startG ["_law_script", "_law_bag_here", "_law_k", "_law_text", "_law_some", "_law_words", "_law_at", "_law_bases_here", "_law_due", "_law_j"] [.fro (ns.map .int)]) (fun _ => none) := by
  refine ⟨_, rfl, ns, rfl, hl, fun b hb => ?_⟩
  refine ⟨_, rfl, _, ⟨⟨by decide, by decide, by decide⟩, rfl⟩, b, 10 ^ 9, rfl, put_same, by decide, by decide +kernel, fun u u0 u1 => ⟨_, rfl, ?_⟩⟩
  refine ⟨_, rfl, by show 4 ≤ sizeLine; decide, b, _, _, rfl, put_same, rfl, (by intro z; cases z), by show 4 ≤ sizeLine; decide, fun x hx => ⟨_, _, rfl, ?_⟩⟩
  obtain ⟨t, rfl⟩ : ∃ t : Str, x = .str t := by
    rcases List.mem_cons.mp hx with rfl | hx
    · exact ⟨_, rfl⟩
    rcases List.mem_cons.mp hx with rfl | hx
    · exact ⟨_, rfl⟩
    rcases List.mem_cons.mp hx with rfl | hx
    · exact ⟨_, rfl⟩
    cases List.mem_singleton.mp hx
    exact ⟨_, rfl⟩
  generalize (u - 5 : Int) = k
  refine ⟨_, rfl, _, rfl, _, rfl, _, rfl, by show 5 ≤ sizeLine; decide, ?_⟩
  refine ⟨_, rfl, _, rfl, by show 5 ≤ sizeLine; decide, _, ⟨by show 10 ≤ sizeLine; decide, rfl⟩, ?_⟩
  refine ⟨_, rfl, _, rfl, _, rfl, _, rfl, _, rfl, _, rfl, by show 6 ≤ sizeLine; decide, _, ⟨by show 16 ≤ sizeLine; decide, rfl⟩, ?_⟩
  refine ⟨_, rfl, _, rfl, _, rfl, _, rfl, _, rfl, by show 4 ≤ sizeLine; decide, _, ⟨by show 20 ≤ sizeLine; decide, rfl⟩, ?_⟩
  refine ⟨_, rfl, _, ⟨by decide +kernel, rfl⟩, ?_⟩
  refine ⟨_, rfl, _, ⟨by decide +kernel, rfl⟩, ?_⟩
  refine ⟨_, rfl, _, ⟨by decide +kernel, rfl⟩, _, rfl, _, rfl, by decide +kernel, by decide +kernel, ?_⟩
  rw [split_eq]
  refine ⟨20, rfl, ⟨by decide, by decide⟩, ?_⟩
  refine loop (g := g) (k := k) (t := t) none none none fun o6 o7 o8 => ?_
  exact .inl rfl
end K01

set_option maxHeartbeats 4000000
namespace K01
open PySem PySem.Spec PyProof.Rows L2 Gh
theorem bindsLaw {K : Fg} {x qual p : Str} {st : Stmt} {f : Addr} {fd : FuncData} (F : Fun K x qual st f fd) (h : ∀ (kV doc pm : Value) (an : Option Addr) (cdv ct u : Value), bindArgs (PySem.W.fnOf x qual (defArgs st) (defBody st) (defScope st) .none kV doc pm an cdv ct) ⟨[u], []⟩ = pure [(p, u)]) (s : Shared) (u : Value) : BindsTo s fd ⟨[u], []⟩ [(p, u)] := by
  obtain ⟨oc, od, kV, doc, pm, an, cdv, ct, osl, rfl, lk, hcd⟩ := F.ex
  exact .of_eq (h kV doc pm an cdv ct u)
def M0 : List (Str × Str) := [("InvalidFraction", "invalidfraction"), ("InvalidWeights", "invalidweights"), ("InvalidWorths", "invalidworths"), ("InvalidAnswer", "invalidanswer"), ("NothingExpected", "nothingexpected"), ("NothingLeft", "nothingleft")]
def M1 : List (Str × Str × Str) := [("InvalidStatement", "invalidstatement", "place"), ("TooLarge", "toolarge", "limit"), ("UnknownPlayer", "unknownplayer", "player"), ("DuplicatePiece", "duplicatepiece", "name"), ("BrokenRule", "brokenrule", "player"), ("ParseError", "parseerror", "place"), ("InvalidName", "invalidname", "name"), ("InUse", "inuse", "name"), ("Cycle", "cycle", "name"), ("Unfit", "unfit", "name"), ("InvalidCommand", "invalidcommand", "index"), ("InvalidDocument", "invaliddocument", "row"), ("UnknownPiece", "unknownpiece", "name"), ("UnknownName", "unknownname", "name")]
structure OF (P : Program) (w : World) (K : Fg) (mg : Str → Option Value) (base : Heap) (g : Str → Addr) : Prop where
  n : ∀ x : Str, x ∈ ((["GrainError", "MissingError"] : List Str) ++ N20) → mg x = some (.ref (g x))
  rd : ∀ f : Str, f ∈ (["word", "player", "name", "place", "limit", "index", "row"] : List Str) → ∀ C, XF g C → XfC K C ∧ PySem.W.findIn K (.ref C) f = some none
  m0 : ∀ x wd : Str, (x, wd) ∈ M0 → Xmk P w K mg base x (g x) (spX0 (g x) wd)
  m1 : ∀ x wd f : Str, (x, wd, f) ∈ M1 → Xmk P w K mg base x (g x) (spX1 (g x) wd f)
  isi : ∀ C t b, isx g C t b → XiC K C ∧ ∃ cv, ClsD t cv ∧ PySem.W.kitOne K (.ref C) cv = some b
def leBase : List Value := [.type "LookupError", .type "Exception", .type "BaseException", .type "object"]
def oxB (K : Fg) (x : Str) (le : Bool) : Bool := (if le then PySem.W.excOver K (He.ga K x) leBase && PySem.W.excInitIn K (He.ga K x) leBase "LookupError.__new__" else PySem.W.excOver K (He.ga K x) He.veBase && PySem.W.excInitIn K (He.ga K x) He.veBase "ValueError.__new__") &&
  (He.eqO (PySem.W.findIn K (.ref (He.ga K x)) "__setattr__") (some (some (.builtin "object.__setattr__"))) && (PySem.W.keepIn K (.ref (He.ga K x)) && xfB K (He.ga K x)))
theorem ox_ok {K : Fg} {x : Str} {le : Bool} (c : oxB K x le = true) : OxG K (He.ga K x) := by
  obtain ⟨c1, c⟩ := He.ba c
  obtain ⟨c2, c⟩ := He.ba c
  obtain ⟨c3, c4⟩ := He.ba c
  refine ⟨?_, He.eqO_ok c2, c3, xfB_ok c4⟩
  cases le with
  | true =>
    obtain ⟨d1, d2⟩ := He.ba (show (PySem.W.excOver K (He.ga K x) leBase && PySem.W.excInitIn K (He.ga K x) leBase "LookupError.__new__") = true from c1)
    exact ⟨_, _, _, _, F.excBase_LookupError, F.store_LookupError, d1, d2⟩
  | false =>
    obtain ⟨d1, d2⟩ := He.ba (show (PySem.W.excOver K (He.ga K x) He.veBase && PySem.W.excInitIn K (He.ga K x) He.veBase "ValueError.__new__") = true from c1)
    exact ⟨_, _, _, _, F.excBase_ValueError, F.store_ValueError, d1, d2⟩
def nofB (K : Fg) (x : Str) : Bool := (["word", "player", "name", "place", "limit", "index", "row"] : List Str).all fun f => He.eqO (PySem.W.findIn K (.ref (He.ga K x)) f) (some none)
theorem nof_ok {K : Fg} {x f : Str} (c : nofB K x = true) (hf : f ∈ (["word", "player", "name", "place", "limit", "index", "row"] : List Str)) : PySem.W.findIn K (.ref (He.ga K x)) f = some none := He.eqO_ok (List.all_eq_true.mp c f hf)
def insB (K : Fg) (x : Str) : Bool := He.eqO (PySem.W.findIn K (.ref (He.ga K x)) "__class__") (some (some (.builtin "object.__class__"))) && (He.eqO (PySem.W.specialIn K (.builtin "object.__class__") "__get__") (some (some (.builtin "getset_descriptor.__get__"))) && (decide (PySem.W.takesIn K (.builtin "object.__class__") = some true) && decide (PySem.W.mroIn K (He.ga K x) (.type "object") = some true)))
theorem ins_ok {K : Fg} {x : Str} (c : insB K x = true) (r : XfC K (He.ga K x)) : XiC K (He.ga K x) := by
  obtain ⟨c1, c⟩ := He.ba c
  obtain ⟨c2, c⟩ := He.ba c
  obtain ⟨c3, c4⟩ := He.ba c
  exact ⟨r, He.eqO_ok c1, He.eqO_ok c2, of_decide_eq_true c3, of_decide_eq_true c4⟩
def inpB (K : Fg) (x : Str) : Bool := He.eqO (PySem.W.findIn K (.ref (He.ga K x)) "__init__") (some (some (.ref (He.fAd K (x, some "__init__"))))) && decide (PySem.W.typeIn K (.ref (He.fAd K (x, some "__init__"))) = some (.type "function"))
theorem inp_ok {K : Fg} {x : Str} (c : inpB K x = true) : PySem.W.findIn K (.ref (He.ga K x)) "__init__" = some (some (.ref (He.fAd K (x, some "__init__")))) ∧ PySem.W.typeIn K (.ref (He.fAd K (x, some "__init__"))) = some (.type "function") := by
  obtain ⟨c1, c2⟩ := He.ba c
  exact ⟨He.eqO_ok c1, of_decide_eq_true c2⟩
def kitB1 (K : Fg) (x : Str) : Bool := N20.all fun y => decide (PySem.W.kitOne K (.ref (He.ga K x)) (.ref (He.ga K y)) = some (decide (x = y)))
def kitB2 (K : Fg) (x : Str) : Bool := decide (PySem.W.kitOne K (.ref (He.ga K x)) (.ref (He.ga K "GrainError")) = some (decide (x ∈ N18))) && (decide (PySem.W.kitOne K (.ref (He.ga K x)) (.type "ValueError") = some (decide (x ∈ N18))) && (decide (PySem.W.kitOne K (.ref (He.ga K x)) (.ref (He.ga K "MissingError")) = some (!decide (x ∈ N18))) && decide (PySem.W.kitOne K (.ref (He.ga K x)) (.type "LookupError") = some (!decide (x ∈ N18)))))
theorem isi_ok {K : Fg} (h1 : ∀ x, x ∈ N20 → XiC K (He.ga K x)) (h2 : ∀ x, x ∈ N20 → kitB1 K x = true) (h3 : ∀ x, x ∈ N20 → kitB2 K x = true) : ∀ C t b, isx (He.ga K) C t b → XiC K C ∧ ∃ cv, ClsD t cv ∧ PySem.W.kitOne K (.ref C) cv = some b := by
  intro C t b h
  obtain ⟨x, hx, rfl, h⟩ := h
  obtain ⟨k1, k⟩ := He.ba (h3 x hx)
  obtain ⟨k2, k⟩ := He.ba k
  obtain ⟨k3, k4⟩ := He.ba k
  refine ⟨h1 x hx, ?_⟩
  rcases h with ⟨y, hy, rfl, rfl⟩ | ⟨h, rfl⟩ | ⟨h, rfl⟩
  · exact ⟨_, .own _, of_decide_eq_true (List.all_eq_true.mp (h2 x hx) y hy)⟩
  · rcases h with rfl | rfl
    · exact ⟨_, .own _, of_decide_eq_true k1⟩
    · exact ⟨_, .ty _, of_decide_eq_true k2⟩
  · rcases h with rfl | rfl
    · exact ⟨_, .own _, of_decide_eq_true k3⟩
    · exact ⟨_, .ty _, of_decide_eq_true k4⟩
def topS (i : Nat) : Stmt := PySem.Challenge.pw_graincourse_k01_error_classes.main.body.getD i (.Pass ⟨0, 0, 0, 0⟩)
def memS (i j : Nat) : Stmt := (clsBody (topS i)).getD j (.Pass ⟨0, 0, 0, 0⟩)
structure Bi (mg : Str → Option Value) : Prop where
  list : mg "list" = none
  len : mg "len" = none
  isinstance : mg "isinstance" = none
  tuple : mg "tuple" = none
  all : mg "all" = none
  range : mg "range" = none
  bool : mg "bool" = none
  int : mg "int" = none
  str : mg "str" = none
  ValueError : mg "ValueError" = none
  LookupError : mg "LookupError" = none
abbrev st_law_bag : Stmt := topS 24
theorem sc_law_bag : FnScope ["_law_script", "_law_salt", "_law_cell"] ["_law_script"] (defScope st_law_bag) := ⟨rfl, rfl, rfl, by decide +kernel, rfl, by decide +kernel, by decide +kernel⟩
abbrev st_law_pull : Stmt := topS 25
theorem sc_law_pull : FnScope ["_law_bag_here", "_law_many", "_law_cell", "_law_digit", "_law_seed"] ["_law_bag_here", "_law_many"] (defScope st_law_pull) := ⟨rfl, rfl, rfl, by decide +kernel, rfl, by decide +kernel, by decide +kernel⟩
abbrev st_law_of : Stmt := topS 26
theorem sc_law_of : FnScope ["_law_bag_here", "_law_some"] ["_law_bag_here", "_law_some"] (defScope st_law_of) := ⟨rfl, rfl, rfl, by decide +kernel, rfl, by decide +kernel, by decide +kernel⟩
abbrev st_law_same : Stmt := topS 27
theorem sc_law_same : FnScope ["_law_found", "_law_due", "_law_k"] ["_law_found", "_law_due"] (defScope st_law_same) := ⟨rfl, rfl, rfl, by decide +kernel, rfl, by decide +kernel, by decide +kernel⟩
abbrev st_law_field : Stmt := topS 28
theorem sc_law_field : FnScope ["_law_e"] ["_law_e"] (defScope st_law_field) := ⟨rfl, rfl, rfl, by decide +kernel, rfl, by decide +kernel, by decide +kernel⟩
abbrev st_law_bases : Stmt := topS 29
theorem sc_law_bases : FnScope ["_law_e", "_law_some"] ["_law_e"] (defScope st_law_bases) := ⟨rfl, rfl, rfl, by decide +kernel, rfl, by decide +kernel, by decide +kernel⟩
abbrev st_law_kinds : Stmt := topS 30
theorem sc_law_kinds : FnScope ["_law_e", "_law_some"] ["_law_e"] (defScope st_law_kinds) := ⟨rfl, rfl, rfl, by decide +kernel, rfl, by decide +kernel, by decide +kernel⟩
abbrev st_law : Stmt := topS 31
theorem sc_law : FnScope ["_law_script", "_law_bag_here", "_law_k", "_law_text", "_law_some", "_law_words", "_law_at", "_law_bases_here", "_law_due", "_law_j"] ["_law_script"] (defScope st_law) := ⟨rfl, rfl, rfl, by decide +kernel, rfl, by decide +kernel, by decide +kernel⟩
section
variable {P : Program} {w : World} {K : PySem.W.Frag} {mg : Str → Option Value} {base : Heap}
theorem d_law_bag {f : Addr} (B : Bi mg) (cdv : Value) (A : Around) (outer : List Env) (s : Shared) (H : Hp) (E : XK) (hr : Room 0 (A.deeper (PyProof.Rows.envOfC "_law_bag" (defScope st_law_bag) s.heap.objs.size f cdv))) :
    PSs (cxOf CX0 P w K mg base ["_law_script", "_law_salt", "_law_cell"] "_law_bag" (defScope st_law_bag) f cdv A outer s H E).nox (defBody st_law_bag) (gS K AN.top g_law_bag) :=
  (b_cons (s_set (i := 1) sc_law_bag.nd e_int)
 (b_cons (s_for PassesOwn.never rfl (i_seq (e_sl (e_var 0) o_none (o_some e_int))) (g_name 2 sc_law_bag.nd)
  (b_one (s_set (i := 1) sc_law_bag.nd (e_mod (e_add (e_add (e_mul (e_var 1) e_int) (e_mod (e_var 2) e_int)) e_int) e_int))))
 (b_one (s_retO (f_lst (a_cons (e_fr (f_list B.list (a_cons (e_sl (e_var 0) o_none (o_some e_int)) a_nil))) (a_cons e_int (a_cons e_int (a_cons (e_var 1) (a_cons e_int a_nil))))))))))
theorem d_law_pull {f : Addr} (B : Bi mg) (cdv : Value) (A : Around) (outer : List Env) (s : Shared) (H : Hp) (E : XK) (hr : Room 0 (A.deeper (PyProof.Rows.envOfC "_law_pull" (defScope st_law_pull) s.heap.objs.size f cdv))) :
    PSs (cxOf CX0 P w K mg base ["_law_bag_here", "_law_many", "_law_cell", "_law_digit", "_law_seed"] "_law_pull" (defScope st_law_pull) f cdv A outer s H E).nox (defBody st_law_pull) (gS K AN.top g_law_pull) :=
  (b_cons (s_if (PW.pt (w_and (t_eq hr (e_ix (e_var 0) e_int) e_int) (w_and1 (t_lt (e_ix (e_var 0) e_int) (e_len B.len (a_cons (e_ix (e_var 0) e_int) a_nil))))))
  (b_cons (s_set (i := 2) sc_law_pull.nd (e_ix (e_ix (e_var 0) e_int) (e_ix (e_var 0) e_int)))
 (b_cons (s_asg (e_add (e_ix (e_var 0) e_int) e_int) (g_sub (e_var 0) e_int))
 (b_one (s_if (t_ge (e_var 2) (e_pow e_int e_int))
  (b_one (s_asg (e_var 2) (g_sub (e_var 0) e_int)))
  (b_one (s_asg (e_mod (e_add (e_add (e_mul (e_ix (e_var 0) e_int) e_int) (e_mul (e_mod (e_var 2) e_int) e_int)) e_int) e_int) (g_sub (e_var 0) e_int)))))))
  b_nil)
 (b_cons (s_if (t_gt (e_ix (e_var 0) e_int) e_int)
  (b_cons (s_set (i := 3) sc_law_pull.nd (e_mod (e_ix (e_var 0) e_int) (e_var 1)))
 (b_cons (s_asg (e_fdiv (e_ix (e_var 0) e_int) (e_var 1)) (g_sub (e_var 0) e_int))
 (b_one (s_ret (e_var 3)))))
  b_nil)
 (b_cons (s_asg (e_add (e_ix (e_var 0) e_int) e_int) (g_sub (e_var 0) e_int))
 (b_cons (s_set (i := 4) sc_law_pull.nd (e_mod (e_add (e_ix (e_var 0) e_int) (e_mul (e_ix (e_var 0) e_int) e_int)) e_int))
 (b_cons (s_asg (e_mod (e_add (e_add (e_mul (e_mod (e_mul (e_var 4) (e_var 4)) e_int) (e_var 4)) (e_mul e_int (e_var 4))) e_int) e_int) (g_sub (e_var 0) e_int))
 (b_one (s_ret (e_mod (e_add (e_fdiv (e_ix (e_var 0) e_int) e_int) (e_mul (e_mod (e_ix (e_var 0) e_int) e_int) e_int)) (e_var 1)))))))))
theorem d_law_of {f : Addr} (c_law_pull : Fc P w K mg base 1 "_law_pull" S_law_pull) (B : Bi mg) (cdv : Value) (A : Around) (outer : List Env) (s : Shared) (H : Hp) (E : XK) (hr : Room 1 (A.deeper (PyProof.Rows.envOfC "_law_of" (defScope st_law_of) s.heap.objs.size f cdv))) :
    PSs (cxOf CX0 P w K mg base ["_law_bag_here", "_law_some"] "_law_of" (defScope st_law_of) f cdv A outer s H E).nox (defBody st_law_of) (gS K AN.top g_law_of) :=
  (b_one (s_ret (e_ix (e_var 1) (e_call c_law_pull hr (by omega) (a_cons (e_var 0) (a_cons (e_len B.len (a_cons (e_var 1) a_nil)) a_nil))))))
theorem d_law_same (n : Nat) {f : Addr} (c_law_same : Fc P w K mg base n "_law_same" ((S_prev S_law_same n))) (B : Bi mg) (cdv : Value) (A : Around) (outer : List Env) (s : Shared) (H : Hp) (E : XK) (hr : Room n (A.deeper (PyProof.Rows.envOfC "_law_same" (defScope st_law_same) s.heap.objs.size f cdv))) :
    PSs (cxOf CX0 P w K mg base ["_law_found", "_law_due", "_law_k"] "_law_same" (defScope st_law_same) f cdv A outer s H E).nox (defBody st_law_same) (gS K AN.top (g_law_same (S_prev S_law_same n))) :=
  (b_cons (s_if (PW.pt (w_or (t_isN (e_var 1)) (w_or1 (t_isN (e_var 0)))))
  (b_one (s_ret (e_and (e_isN (e_var 0)) (e_one (e_isN (e_var 1))))))
  b_nil)
 (b_cons (s_if (t_val (e_isi2 (n := "list") (m := "tuple") B.isinstance B.list B.tuple (by decide +kernel) (by decide +kernel) (e_var 1)))
  (b_cons (s_if (PW.pt (w_or (t_ne hr (e_isi B.isinstance (a_cons (e_var 0) (a_cons (e_ty (n := "list") B.list (by decide +kernel)) a_nil))) (e_isi B.isinstance (a_cons (e_var 1) (a_cons (e_ty (n := "list") B.list (by decide +kernel)) a_nil)))) (w_or1 (t_ne hr (e_isi B.isinstance (a_cons (e_var 0) (a_cons (e_ty (n := "tuple") B.tuple (by decide +kernel)) a_nil))) (e_isi B.isinstance (a_cons (e_var 1) (a_cons (e_ty (n := "tuple") B.tuple (by decide +kernel)) a_nil)))))))
  (b_one (s_ret e_bl))
  b_nil)
 (b_one (s_ret (e_and (e_eq hr (e_len B.len (a_cons (e_var 0) a_nil)) (e_len B.len (a_cons (e_var 1) a_nil))) (e_one (e_all rfl B.all (a_cons (e_fr (f_lc rfl sc_law_same.nd (i_range1 B.range (a_cons (e_len B.len (a_cons (e_var 1) a_nil)) a_nil)) (blkOk_by (N := ["_law_found", "_law_due", "_law_k"]) (sc := defScope st_law_same) (by decide +kernel)) (fun _ _ _ _ _ => pg_name (i := 2) sc_law_same.nd rfl (Or.inl rfl)) (fun _ _ _ _ _ => (e_call c_law_same hr (by omega) (a_cons (e_ix (e_var 0) (e_var 2)) (a_cons (e_ix (e_var 1) (e_var 2)) a_nil)))))) a_nil)))))))
  b_nil)
 (b_cons (s_if (PW.pt (w_or (t_ne hr (e_isi B.isinstance (a_cons (e_var 1) (a_cons (e_ty (n := "bool") B.bool (by decide +kernel)) a_nil))) (e_isi B.isinstance (a_cons (e_var 0) (a_cons (e_ty (n := "bool") B.bool (by decide +kernel)) a_nil)))) (w_or1 (t_ne hr (e_isi B.isinstance (a_cons (e_var 1) (a_cons (e_ty (n := "int") B.int (by decide +kernel)) a_nil))) (e_isi B.isinstance (a_cons (e_var 0) (a_cons (e_ty (n := "int") B.int (by decide +kernel)) a_nil)))))))
  (b_one (s_ret e_bl))
  b_nil)
 (b_one (s_ret (e_and (e_eq hr (e_isi B.isinstance (a_cons (e_var 1) (a_cons (e_ty (n := "str") B.str (by decide +kernel)) a_nil))) (e_isi B.isinstance (a_cons (e_var 0) (a_cons (e_ty (n := "str") B.str (by decide +kernel)) a_nil)))) (e_one (e_eq hr (e_var 0) (e_var 1)))))))))
theorem d_law_field {g : Str → Addr} (o : OF P w K mg base g) {f : Addr} (cdv : Value) (A : Around) (outer : List Env) (s : Shared) (H : Hp) (E : XK) (hr : Room 0 (A.deeper (PyProof.Rows.envOfC "_law_field" (defScope st_law_field) s.heap.objs.size f cdv))) :
    PSs (cxOf CX0 P w K mg base ["_law_e"] "_law_field" (defScope st_law_field) f cdv A outer s H E).nox (defBody st_law_field) (gS K AN.top (g_field g)) :=
  (b_cons (s_if (t_in (e_xr (o.rd "word" (by decide)) (e_var 0)) (e_tup (a_cons e_str (a_cons e_str a_nil))))
  (b_one (s_ret (e_xr (o.rd "player" (by decide)) (e_var 0))))
  b_nil)
 (b_cons (s_if (t_in (e_xr (o.rd "word" (by decide)) (e_var 0)) (e_tup (a_cons e_str (a_cons e_str (a_cons e_str (a_cons e_str (a_cons e_str (a_cons e_str (a_cons e_str a_nil)))))))))
  (b_one (s_ret (e_xr (o.rd "name" (by decide)) (e_var 0))))
  b_nil)
 (b_cons (s_if (t_in (e_xr (o.rd "word" (by decide)) (e_var 0)) (e_tup (a_cons e_str (a_cons e_str a_nil))))
  (b_one (s_ret (e_xr (o.rd "place" (by decide)) (e_var 0))))
  b_nil)
 (b_cons (s_if (t_in (e_xr (o.rd "word" (by decide)) (e_var 0)) (e_tup (a_cons e_str (a_cons e_str a_nil))))
  (b_one (s_ret (e_if (t_eq hr (e_xr (o.rd "word" (by decide)) (e_var 0)) e_str) (e_xr (o.rd "limit" (by decide)) (e_var 0)) (e_xr (o.rd "index" (by decide)) (e_var 0)))))
  b_nil)
 (b_one (s_ret (e_if (t_eq hr (e_xr (o.rd "word" (by decide)) (e_var 0)) e_str) (e_xr (o.rd "row" (by decide)) (e_var 0)) e_non)))))))
theorem d_law_bases {g : Str → Addr} (o : OF P w K mg base g) {f : Addr} (B : Bi mg) (cdv : Value) (A : Around) (outer : List Env) (s : Shared) (H : Hp) (E : XK) (hr : Room 0 (A.deeper (PyProof.Rows.envOfC "_law_bases" (defScope st_law_bases) s.heap.objs.size f cdv))) :
    PSs (cxOf CX0 P w K mg base ["_law_e", "_law_some"] "_law_bases" (defScope st_law_bases) f cdv A outer s H E).nox (defBody st_law_bases) (gS K AN.top (g_bases g)) :=
  (b_cons (s_set (i := 1) sc_law_bases.nd (e_fr (f_lst (a_cons (e_isX o.isi B.isinstance (a_cons (e_var 0) (a_cons (e_cls (o.n "GrainError" (by decide))) a_nil))) (a_cons (e_isX o.isi B.isinstance (a_cons (e_var 0) (a_cons (e_ty (n := "ValueError") B.ValueError (by decide +kernel)) a_nil))) a_nil)))))
 (b_one (s_ret (e_add (e_var 1) (e_fr (f_lst (a_cons (e_isX o.isi B.isinstance (a_cons (e_var 0) (a_cons (e_cls (o.n "MissingError" (by decide))) a_nil))) (a_cons (e_isX o.isi B.isinstance (a_cons (e_var 0) (a_cons (e_ty (n := "LookupError") B.LookupError (by decide +kernel)) a_nil))) a_nil))))))))
theorem d_law_kinds {g : Str → Addr} (o : OF P w K mg base g) {f : Addr} (B : Bi mg) (cdv : Value) (A : Around) (outer : List Env) (s : Shared) (H : Hp) (E : XK) (hr : Room 0 (A.deeper (PyProof.Rows.envOfC "_law_kinds" (defScope st_law_kinds) s.heap.objs.size f cdv))) :
    PSs (cxOf CX0 P w K mg base ["_law_e", "_law_some"] "_law_kinds" (defScope st_law_kinds) f cdv A outer s H E).nox (defBody st_law_kinds) (gS K AN.top (g_kinds g)) :=
  (b_cons (s_set (i := 1) sc_law_kinds.nd (e_fr (f_lst (a_cons (e_isX o.isi B.isinstance (a_cons (e_var 0) (a_cons (e_cls (o.n "InvalidFraction" (by decide))) a_nil))) (a_cons (e_isX o.isi B.isinstance (a_cons (e_var 0) (a_cons (e_cls (o.n "InvalidStatement" (by decide))) a_nil))) (a_cons (e_isX o.isi B.isinstance (a_cons (e_var 0) (a_cons (e_cls (o.n "TooLarge" (by decide))) a_nil))) a_nil))))))
 (b_cons (s_set (i := 1) sc_law_kinds.nd (e_add (e_var 1) (e_fr (f_lst (a_cons (e_isX o.isi B.isinstance (a_cons (e_var 0) (a_cons (e_cls (o.n "UnknownPlayer" (by decide))) a_nil))) (a_cons (e_isX o.isi B.isinstance (a_cons (e_var 0) (a_cons (e_cls (o.n "DuplicatePiece" (by decide))) a_nil))) (a_cons (e_isX o.isi B.isinstance (a_cons (e_var 0) (a_cons (e_cls (o.n "InvalidWeights" (by decide))) a_nil))) a_nil)))))))
 (b_cons (s_set (i := 1) sc_law_kinds.nd (e_add (e_var 1) (e_fr (f_lst (a_cons (e_isX o.isi B.isinstance (a_cons (e_var 0) (a_cons (e_cls (o.n "InvalidWorths" (by decide))) a_nil))) (a_cons (e_isX o.isi B.isinstance (a_cons (e_var 0) (a_cons (e_cls (o.n "InvalidAnswer" (by decide))) a_nil))) (a_cons (e_isX o.isi B.isinstance (a_cons (e_var 0) (a_cons (e_cls (o.n "BrokenRule" (by decide))) a_nil))) a_nil)))))))
 (b_cons (s_set (i := 1) sc_law_kinds.nd (e_add (e_var 1) (e_fr (f_lst (a_cons (e_isX o.isi B.isinstance (a_cons (e_var 0) (a_cons (e_cls (o.n "NothingExpected" (by decide))) a_nil))) (a_cons (e_isX o.isi B.isinstance (a_cons (e_var 0) (a_cons (e_cls (o.n "NothingLeft" (by decide))) a_nil))) (a_cons (e_isX o.isi B.isinstance (a_cons (e_var 0) (a_cons (e_cls (o.n "ParseError" (by decide))) a_nil))) a_nil)))))))
 (b_cons (s_set (i := 1) sc_law_kinds.nd (e_add (e_var 1) (e_fr (f_lst (a_cons (e_isX o.isi B.isinstance (a_cons (e_var 0) (a_cons (e_cls (o.n "InvalidName" (by decide))) a_nil))) (a_cons (e_isX o.isi B.isinstance (a_cons (e_var 0) (a_cons (e_cls (o.n "InUse" (by decide))) a_nil))) (a_cons (e_isX o.isi B.isinstance (a_cons (e_var 0) (a_cons (e_cls (o.n "Cycle" (by decide))) a_nil))) (a_cons (e_isX o.isi B.isinstance (a_cons (e_var 0) (a_cons (e_cls (o.n "Unfit" (by decide))) a_nil))) a_nil))))))))
 (b_cons (s_set (i := 1) sc_law_kinds.nd (e_add (e_var 1) (e_fr (f_lst (a_cons (e_isX o.isi B.isinstance (a_cons (e_var 0) (a_cons (e_cls (o.n "InvalidCommand" (by decide))) a_nil))) (a_cons (e_isX o.isi B.isinstance (a_cons (e_var 0) (a_cons (e_cls (o.n "InvalidDocument" (by decide))) a_nil))) (a_cons (e_isX o.isi B.isinstance (a_cons (e_var 0) (a_cons (e_cls (o.n "UnknownPiece" (by decide))) a_nil))) a_nil)))))))
 (b_one (s_ret (e_add (e_var 1) (e_fr (f_lst (a_cons (e_isX o.isi B.isinstance (a_cons (e_var 0) (a_cons (e_cls (o.n "UnknownName" (by decide))) a_nil))) a_nil))))))))))))
theorem d_law {g : Str → Addr} (o : OF P w K mg base g) {f : Addr} (c_law_bag : Fc P w K mg base 1 "_law_bag" S_law_bag) (c_law_pull : Fc P w K mg base 1 "_law_pull" S_law_pull) (c_law_of : Fc P w K mg base 2 "_law_of" S_law_of) (c_law_same : Fc P w K mg base (3 + 1) "_law_same" (S_law_same 3)) (c_law_bases : Fc P w K mg base 1 "_law_bases" (S_bases g)) (c_law_kinds : Fc P w K mg base 1 "_law_kinds" (S_kinds g)) (c_law_field : Fc P w K mg base 1 "_law_field" (S_fieldX g)) (B : Bi mg) (cdv : Value) (A : Around) (outer : List Env) (s : Shared) (H : Hp) (E : XK) (hr : Room 4 (A.deeper (PyProof.Rows.envOfC "law" (defScope st_law) s.heap.objs.size f cdv))) :
    PSs (cxOf CX0 P w K mg base ["_law_script", "_law_bag_here", "_law_k", "_law_text", "_law_some", "_law_words", "_law_at", "_law_bases_here", "_law_due", "_law_j"] "law" (defScope st_law) f cdv A outer s H E).nox (defBody st_law) (gS K AN.top (g_law g)) :=
  (b_cons (s_set (i := 1) sc_law.nd (e_call c_law_bag hr (by omega) (a_cons (e_var 0) a_nil)))
 (b_cons (s_par (i := 2) (j := 3) rfl sc_law.nd rfl rfl (by decide) rfl rfl (a_cons (e_sub (e_call c_law_pull hr (by omega) (a_cons (e_var 1) (a_cons (e_pow e_int e_int) a_nil))) e_int) (a_cons (e_call c_law_of hr (by omega) (a_cons (e_var 1) (a_cons (e_fr (f_lst (a_cons e_str (a_cons e_str (a_cons e_str (a_cons e_str a_nil)))))) a_nil))) a_nil)) (by rfl))
 (b_cons (s_set (i := 4) sc_law.nd (e_fr (f_lst (a_cons (e_mk0 (o.m0 "InvalidFraction" "invalidfraction" (by decide)) hr (by omega)) (a_cons (e_mk1 (o.m1 "InvalidStatement" "invalidstatement" "place" (by decide)) hr (by omega) (e_var 2)) (a_cons (e_mk1 (o.m1 "TooLarge" "toolarge" "limit" (by decide)) hr (by omega) (e_var 2)) (a_cons (e_mk1 (o.m1 "UnknownPlayer" "unknownplayer" "player" (by decide)) hr (by omega) (e_var 2)) (a_cons (e_mk1 (o.m1 "DuplicatePiece" "duplicatepiece" "name" (by decide)) hr (by omega) (e_var 3)) a_nil))))))))
 (b_cons (s_set (i := 4) sc_law.nd (e_add (e_var 4) (e_fr (f_lst (a_cons (e_mk0 (o.m0 "InvalidWeights" "invalidweights" (by decide)) hr (by omega)) (a_cons (e_mk0 (o.m0 "InvalidWorths" "invalidworths" (by decide)) hr (by omega)) (a_cons (e_mk0 (o.m0 "InvalidAnswer" "invalidanswer" (by decide)) hr (by omega)) (a_cons (e_mk1 (o.m1 "BrokenRule" "brokenrule" "player" (by decide)) hr (by omega) (e_var 2)) (a_cons (e_mk0 (o.m0 "NothingExpected" "nothingexpected" (by decide)) hr (by omega)) a_nil)))))))))
 (b_cons (s_set (i := 4) sc_law.nd (e_add (e_var 4) (e_fr (f_lst (a_cons (e_mk0 (o.m0 "NothingLeft" "nothingleft" (by decide)) hr (by omega)) (a_cons (e_mk1 (o.m1 "ParseError" "parseerror" "place" (by decide)) hr (by omega) (e_var 2)) (a_cons (e_mk1 (o.m1 "InvalidName" "invalidname" "name" (by decide)) hr (by omega) (e_var 3)) (a_cons (e_mk1 (o.m1 "InUse" "inuse" "name" (by decide)) hr (by omega) (e_var 3)) (a_cons (e_mk1 (o.m1 "Cycle" "cycle" "name" (by decide)) hr (by omega) (e_var 3)) (a_cons (e_mk1 (o.m1 "Unfit" "unfit" "name" (by decide)) hr (by omega) (e_var 3)) a_nil))))))))))
 (b_cons (s_set (i := 4) sc_law.nd (e_add (e_var 4) (e_fr (f_lst (a_cons (e_mk1 (o.m1 "InvalidCommand" "invalidcommand" "index" (by decide)) hr (by omega) (e_var 2)) (a_cons (e_mk1 (o.m1 "InvalidDocument" "invaliddocument" "row" (by decide)) hr (by omega) (e_var 2)) (a_cons (e_mk1 (o.m1 "UnknownPiece" "unknownpiece" "name" (by decide)) hr (by omega) (e_var 3)) (a_cons (e_mk1 (o.m1 "UnknownName" "unknownname" "name" (by decide)) hr (by omega) (e_var 3)) a_nil))))))))
 (b_cons (s_set (i := 5) sc_law.nd e_str)
 (b_cons (s_set (i := 5) sc_law.nd (e_add (e_var 5) e_str))
 (b_cons (s_set (i := 5) sc_law.nd (e_add (e_var 5) e_str))
 (b_cons (s_set (i := 5) sc_law.nd (e_fr (f_split (e_add (e_var 5) e_str) e_str)))
 (b_cons (s_for PassesOwn.never rfl (i_range1 B.range (a_cons e_int a_nil)) (g_name 6 sc_law.nd)
  (b_cons (s_set (i := 7) sc_law.nd (e_if (t_lt (e_var 6) e_int) (e_fr (f_lst (a_cons e_bl (a_cons e_bl (a_cons e_bl (a_cons e_bl a_nil)))))) (e_fr (f_lst (a_cons e_bl (a_cons e_bl (a_cons e_bl (a_cons e_bl a_nil))))))))
 (b_cons (s_if (t_not (t_val (e_call c_law_same hr (by omega) (a_cons (e_fr (f_lst (a_cons (e_xr (o.rd "word" (by decide)) (e_ix (e_var 4) (e_var 6))) (a_cons (e_call c_law_bases hr (by omega) (a_cons (e_ix (e_var 4) (e_var 6)) a_nil)) a_nil)))) (a_cons (e_fr (f_lst (a_cons (e_ix (e_var 5) (e_var 6)) (a_cons (e_var 7) a_nil)))) a_nil)))))
  (b_one (s_ret e_bl))
  b_nil)
 (b_cons (s_if (t_ne hr (e_call c_law_kinds hr (by omega) (a_cons (e_ix (e_var 4) (e_var 6)) a_nil)) (e_fr (f_lc rfl sc_law.nd (i_range1 B.range (a_cons e_int a_nil)) (blkOk_by (N := ["_law_script", "_law_bag_here", "_law_k", "_law_text", "_law_some", "_law_words", "_law_at", "_law_bases_here", "_law_due", "_law_j"]) (sc := defScope st_law) (by decide +kernel)) (fun _ _ _ _ _ => pg_name (i := 9) sc_law.nd rfl (Or.inl rfl)) (fun _ _ _ _ _ => (e_eq hr (e_var 9) (e_var 6))))))
  (b_one (s_ret e_bl))
  b_nil)
 (b_cons (s_set (i := 8) sc_law.nd (e_if (t_in (e_var 6) (e_tup (a_cons e_int (a_cons e_int (a_cons e_int (a_cons e_int (a_cons e_int (a_cons e_int a_nil)))))))) e_non (e_if (t_in (e_var 6) (e_tup (a_cons e_int (a_cons e_int (a_cons e_int (a_cons e_int (a_cons e_int (a_cons e_int (a_cons e_int a_nil))))))))) (e_var 3) (e_var 2))))
 (b_one (s_if (t_not (t_val (e_call c_law_same hr (by omega) (a_cons (e_call c_law_field hr (by omega) (a_cons (e_ix (e_var 4) (e_var 6)) a_nil)) (a_cons (e_var 8) a_nil)))))
  (b_one (s_ret e_bl))
  b_nil)))))))
 (b_one (s_ret e_bl)))))))))))))
end
abbrev in_InvalidFraction : Stmt := memS 3 0
theorem sci_InvalidFraction : FnScope ["self"] ["self"] (defScope in_InvalidFraction) := ⟨rfl, rfl, rfl, by decide +kernel, rfl, by decide +kernel, by decide +kernel⟩
abbrev in_InvalidStatement : Stmt := memS 4 0
theorem sci_InvalidStatement : FnScope ["self", "place"] ["self", "place"] (defScope in_InvalidStatement) := ⟨rfl, rfl, rfl, by decide +kernel, rfl, by decide +kernel, by decide +kernel⟩
abbrev in_TooLarge : Stmt := memS 5 0
theorem sci_TooLarge : FnScope ["self", "limit"] ["self", "limit"] (defScope in_TooLarge) := ⟨rfl, rfl, rfl, by decide +kernel, rfl, by decide +kernel, by decide +kernel⟩
abbrev in_UnknownPlayer : Stmt := memS 6 0
theorem sci_UnknownPlayer : FnScope ["self", "player"] ["self", "player"] (defScope in_UnknownPlayer) := ⟨rfl, rfl, rfl, by decide +kernel, rfl, by decide +kernel, by decide +kernel⟩
abbrev in_DuplicatePiece : Stmt := memS 7 0
theorem sci_DuplicatePiece : FnScope ["self", "name"] ["self", "name"] (defScope in_DuplicatePiece) := ⟨rfl, rfl, rfl, by decide +kernel, rfl, by decide +kernel, by decide +kernel⟩
abbrev in_InvalidWeights : Stmt := memS 8 0
theorem sci_InvalidWeights : FnScope ["self"] ["self"] (defScope in_InvalidWeights) := ⟨rfl, rfl, rfl, by decide +kernel, rfl, by decide +kernel, by decide +kernel⟩
abbrev in_InvalidWorths : Stmt := memS 9 0
theorem sci_InvalidWorths : FnScope ["self"] ["self"] (defScope in_InvalidWorths) := ⟨rfl, rfl, rfl, by decide +kernel, rfl, by decide +kernel, by decide +kernel⟩
abbrev in_InvalidAnswer : Stmt := memS 10 0
theorem sci_InvalidAnswer : FnScope ["self"] ["self"] (defScope in_InvalidAnswer) := ⟨rfl, rfl, rfl, by decide +kernel, rfl, by decide +kernel, by decide +kernel⟩
abbrev in_BrokenRule : Stmt := memS 11 0
theorem sci_BrokenRule : FnScope ["self", "player"] ["self", "player"] (defScope in_BrokenRule) := ⟨rfl, rfl, rfl, by decide +kernel, rfl, by decide +kernel, by decide +kernel⟩
abbrev in_NothingExpected : Stmt := memS 12 0
theorem sci_NothingExpected : FnScope ["self"] ["self"] (defScope in_NothingExpected) := ⟨rfl, rfl, rfl, by decide +kernel, rfl, by decide +kernel, by decide +kernel⟩
abbrev in_NothingLeft : Stmt := memS 13 0
theorem sci_NothingLeft : FnScope ["self"] ["self"] (defScope in_NothingLeft) := ⟨rfl, rfl, rfl, by decide +kernel, rfl, by decide +kernel, by decide +kernel⟩
abbrev in_ParseError : Stmt := memS 14 0
theorem sci_ParseError : FnScope ["self", "place"] ["self", "place"] (defScope in_ParseError) := ⟨rfl, rfl, rfl, by decide +kernel, rfl, by decide +kernel, by decide +kernel⟩
abbrev in_InvalidName : Stmt := memS 15 0
theorem sci_InvalidName : FnScope ["self", "name"] ["self", "name"] (defScope in_InvalidName) := ⟨rfl, rfl, rfl, by decide +kernel, rfl, by decide +kernel, by decide +kernel⟩
abbrev in_InUse : Stmt := memS 16 0
theorem sci_InUse : FnScope ["self", "name"] ["self", "name"] (defScope in_InUse) := ⟨rfl, rfl, rfl, by decide +kernel, rfl, by decide +kernel, by decide +kernel⟩
abbrev in_Cycle : Stmt := memS 17 0
theorem sci_Cycle : FnScope ["self", "name"] ["self", "name"] (defScope in_Cycle) := ⟨rfl, rfl, rfl, by decide +kernel, rfl, by decide +kernel, by decide +kernel⟩
abbrev in_Unfit : Stmt := memS 18 0
theorem sci_Unfit : FnScope ["self", "name"] ["self", "name"] (defScope in_Unfit) := ⟨rfl, rfl, rfl, by decide +kernel, rfl, by decide +kernel, by decide +kernel⟩
abbrev in_InvalidCommand : Stmt := memS 19 0
theorem sci_InvalidCommand : FnScope ["self", "index"] ["self", "index"] (defScope in_InvalidCommand) := ⟨rfl, rfl, rfl, by decide +kernel, rfl, by decide +kernel, by decide +kernel⟩
abbrev in_InvalidDocument : Stmt := memS 20 0
theorem sci_InvalidDocument : FnScope ["self", "row"] ["self", "row"] (defScope in_InvalidDocument) := ⟨rfl, rfl, rfl, by decide +kernel, rfl, by decide +kernel, by decide +kernel⟩
abbrev in_UnknownPiece : Stmt := memS 21 0
theorem sci_UnknownPiece : FnScope ["self", "name"] ["self", "name"] (defScope in_UnknownPiece) := ⟨rfl, rfl, rfl, by decide +kernel, rfl, by decide +kernel, by decide +kernel⟩
abbrev in_UnknownName : Stmt := memS 22 0
theorem sci_UnknownName : FnScope ["self", "name"] ["self", "name"] (defScope in_UnknownName) := ⟨rfl, rfl, rfl, by decide +kernel, rfl, by decide +kernel, by decide +kernel⟩
def fas0 : List He.Fa := [.glo "_law_bag",
  .glo "_law_pull",
  .glo "_law_of",
  .glo "_law_same",
  .glo "_law_field",
  .glo "_law_bases",
  .glo "_law_kinds",
  .glo "law",
  .free "list",
  .free "len",
  .free "isinstance",
  .free "tuple",
  .free "all",
  .free "range",
  .free "bool",
  .free "int",
  .free "str",
  .free "ValueError",
  .free "LookupError"]
def fas : List He.Fa := fas0
def fex : List ((PySem.W.Frag → Bool)) := []
def fns0 : List He.FnD := [⟨("_law_bag", none), "_law_bag", "_law_bag", defArgs st_law_bag, defBody st_law_bag, defScope st_law_bag⟩,
  ⟨("_law_pull", none), "_law_pull", "_law_pull", defArgs st_law_pull, defBody st_law_pull, defScope st_law_pull⟩,
  ⟨("_law_of", none), "_law_of", "_law_of", defArgs st_law_of, defBody st_law_of, defScope st_law_of⟩,
  ⟨("_law_same", none), "_law_same", "_law_same", defArgs st_law_same, defBody st_law_same, defScope st_law_same⟩,
  ⟨("_law_field", none), "_law_field", "_law_field", defArgs st_law_field, defBody st_law_field, defScope st_law_field⟩,
  ⟨("_law_bases", none), "_law_bases", "_law_bases", defArgs st_law_bases, defBody st_law_bases, defScope st_law_bases⟩,
  ⟨("_law_kinds", none), "_law_kinds", "_law_kinds", defArgs st_law_kinds, defBody st_law_kinds, defScope st_law_kinds⟩,
  ⟨("law", none), "law", "law", defArgs st_law, defBody st_law, defScope st_law⟩]
def fns : List He.FnD := fns0
def fas20 : List He.Fa := [.glo "GrainError",
  .glo "MissingError",
  .glo "InvalidFraction",
  .glo "InvalidStatement",
  .glo "TooLarge",
  .glo "UnknownPlayer",
  .glo "DuplicatePiece",
  .glo "InvalidWeights",
  .glo "InvalidWorths",
  .glo "InvalidAnswer",
  .glo "BrokenRule",
  .glo "NothingExpected",
  .glo "NothingLeft",
  .glo "ParseError",
  .glo "InvalidName",
  .glo "InUse",
  .glo "Cycle",
  .glo "Unfit",
  .glo "InvalidCommand",
  .glo "InvalidDocument"]
def fas21 : List He.Fa := [.glo "UnknownPiece",
  .glo "UnknownName"]
def fas2 : List He.Fa := fas20 ++ fas21
def fex20 : List ((PySem.W.Frag → Bool)) := [fun K => oxB K "InvalidFraction" false,
  fun K => nofB K "InvalidFraction",
  fun K => insB K "InvalidFraction",
  fun K => inpB K "InvalidFraction",
  fun K => kitB1 K "InvalidFraction",
  fun K => kitB2 K "InvalidFraction",
  fun K => oxB K "InvalidStatement" false,
  fun K => nofB K "InvalidStatement",
  fun K => insB K "InvalidStatement",
  fun K => inpB K "InvalidStatement",
  fun K => kitB1 K "InvalidStatement",
  fun K => kitB2 K "InvalidStatement",
  fun K => oxB K "TooLarge" false,
  fun K => nofB K "TooLarge",
  fun K => insB K "TooLarge",
  fun K => inpB K "TooLarge",
  fun K => kitB1 K "TooLarge",
  fun K => kitB2 K "TooLarge",
  fun K => oxB K "UnknownPlayer" false,
  fun K => nofB K "UnknownPlayer"]
def fex21 : List ((PySem.W.Frag → Bool)) := [fun K => insB K "UnknownPlayer",
  fun K => inpB K "UnknownPlayer",
  fun K => kitB1 K "UnknownPlayer",
  fun K => kitB2 K "UnknownPlayer",
  fun K => oxB K "DuplicatePiece" false,
  fun K => nofB K "DuplicatePiece",
  fun K => insB K "DuplicatePiece",
  fun K => inpB K "DuplicatePiece",
  fun K => kitB1 K "DuplicatePiece",
  fun K => kitB2 K "DuplicatePiece",
  fun K => oxB K "InvalidWeights" false,
  fun K => nofB K "InvalidWeights",
  fun K => insB K "InvalidWeights",
  fun K => inpB K "InvalidWeights",
  fun K => kitB1 K "InvalidWeights",
  fun K => kitB2 K "InvalidWeights",
  fun K => oxB K "InvalidWorths" false,
  fun K => nofB K "InvalidWorths",
  fun K => insB K "InvalidWorths",
  fun K => inpB K "InvalidWorths"]
def fex22 : List ((PySem.W.Frag → Bool)) := [fun K => kitB1 K "InvalidWorths",
  fun K => kitB2 K "InvalidWorths",
  fun K => oxB K "InvalidAnswer" false,
  fun K => nofB K "InvalidAnswer",
  fun K => insB K "InvalidAnswer",
  fun K => inpB K "InvalidAnswer",
  fun K => kitB1 K "InvalidAnswer",
  fun K => kitB2 K "InvalidAnswer",
  fun K => oxB K "BrokenRule" false,
  fun K => nofB K "BrokenRule",
  fun K => insB K "BrokenRule",
  fun K => inpB K "BrokenRule",
  fun K => kitB1 K "BrokenRule",
  fun K => kitB2 K "BrokenRule",
  fun K => oxB K "NothingExpected" false,
  fun K => nofB K "NothingExpected",
  fun K => insB K "NothingExpected",
  fun K => inpB K "NothingExpected",
  fun K => kitB1 K "NothingExpected",
  fun K => kitB2 K "NothingExpected"]
def fex23 : List ((PySem.W.Frag → Bool)) := [fun K => oxB K "NothingLeft" false,
  fun K => nofB K "NothingLeft",
  fun K => insB K "NothingLeft",
  fun K => inpB K "NothingLeft",
  fun K => kitB1 K "NothingLeft",
  fun K => kitB2 K "NothingLeft",
  fun K => oxB K "ParseError" false,
  fun K => nofB K "ParseError",
  fun K => insB K "ParseError",
  fun K => inpB K "ParseError",
  fun K => kitB1 K "ParseError",
  fun K => kitB2 K "ParseError",
  fun K => oxB K "InvalidName" false,
  fun K => nofB K "InvalidName",
  fun K => insB K "InvalidName",
  fun K => inpB K "InvalidName",
  fun K => kitB1 K "InvalidName",
  fun K => kitB2 K "InvalidName",
  fun K => oxB K "InUse" false,
  fun K => nofB K "InUse"]
def fex24 : List ((PySem.W.Frag → Bool)) := [fun K => insB K "InUse",
  fun K => inpB K "InUse",
  fun K => kitB1 K "InUse",
  fun K => kitB2 K "InUse",
  fun K => oxB K "Cycle" false,
  fun K => nofB K "Cycle",
  fun K => insB K "Cycle",
  fun K => inpB K "Cycle",
  fun K => kitB1 K "Cycle",
  fun K => kitB2 K "Cycle",
  fun K => oxB K "Unfit" false,
  fun K => nofB K "Unfit",
  fun K => insB K "Unfit",
  fun K => inpB K "Unfit",
  fun K => kitB1 K "Unfit",
  fun K => kitB2 K "Unfit",
  fun K => oxB K "InvalidCommand" false,
  fun K => nofB K "InvalidCommand",
  fun K => insB K "InvalidCommand",
  fun K => inpB K "InvalidCommand"]
def fex25 : List ((PySem.W.Frag → Bool)) := [fun K => kitB1 K "InvalidCommand",
  fun K => kitB2 K "InvalidCommand",
  fun K => oxB K "InvalidDocument" false,
  fun K => nofB K "InvalidDocument",
  fun K => insB K "InvalidDocument",
  fun K => inpB K "InvalidDocument",
  fun K => kitB1 K "InvalidDocument",
  fun K => kitB2 K "InvalidDocument",
  fun K => oxB K "UnknownPiece" true,
  fun K => nofB K "UnknownPiece",
  fun K => insB K "UnknownPiece",
  fun K => inpB K "UnknownPiece",
  fun K => kitB1 K "UnknownPiece",
  fun K => kitB2 K "UnknownPiece",
  fun K => oxB K "UnknownName" true,
  fun K => nofB K "UnknownName",
  fun K => insB K "UnknownName",
  fun K => inpB K "UnknownName",
  fun K => kitB1 K "UnknownName",
  fun K => kitB2 K "UnknownName"]
def fex2 : List ((PySem.W.Frag → Bool)) := fex20 ++ fex21 ++ fex22 ++ fex23 ++ fex24 ++ fex25
def fnsI0 : List He.FnD := [⟨("InvalidFraction", some "__init__"), "__init__", "InvalidFraction.__init__", defArgs in_InvalidFraction, defBody in_InvalidFraction, defScope in_InvalidFraction⟩,
  ⟨("InvalidStatement", some "__init__"), "__init__", "InvalidStatement.__init__", defArgs in_InvalidStatement, defBody in_InvalidStatement, defScope in_InvalidStatement⟩,
  ⟨("TooLarge", some "__init__"), "__init__", "TooLarge.__init__", defArgs in_TooLarge, defBody in_TooLarge, defScope in_TooLarge⟩,
  ⟨("UnknownPlayer", some "__init__"), "__init__", "UnknownPlayer.__init__", defArgs in_UnknownPlayer, defBody in_UnknownPlayer, defScope in_UnknownPlayer⟩,
  ⟨("DuplicatePiece", some "__init__"), "__init__", "DuplicatePiece.__init__", defArgs in_DuplicatePiece, defBody in_DuplicatePiece, defScope in_DuplicatePiece⟩,
  ⟨("InvalidWeights", some "__init__"), "__init__", "InvalidWeights.__init__", defArgs in_InvalidWeights, defBody in_InvalidWeights, defScope in_InvalidWeights⟩,
  ⟨("InvalidWorths", some "__init__"), "__init__", "InvalidWorths.__init__", defArgs in_InvalidWorths, defBody in_InvalidWorths, defScope in_InvalidWorths⟩,
  ⟨("InvalidAnswer", some "__init__"), "__init__", "InvalidAnswer.__init__", defArgs in_InvalidAnswer, defBody in_InvalidAnswer, defScope in_InvalidAnswer⟩,
  ⟨("BrokenRule", some "__init__"), "__init__", "BrokenRule.__init__", defArgs in_BrokenRule, defBody in_BrokenRule, defScope in_BrokenRule⟩,
  ⟨("NothingExpected", some "__init__"), "__init__", "NothingExpected.__init__", defArgs in_NothingExpected, defBody in_NothingExpected, defScope in_NothingExpected⟩,
  ⟨("NothingLeft", some "__init__"), "__init__", "NothingLeft.__init__", defArgs in_NothingLeft, defBody in_NothingLeft, defScope in_NothingLeft⟩,
  ⟨("ParseError", some "__init__"), "__init__", "ParseError.__init__", defArgs in_ParseError, defBody in_ParseError, defScope in_ParseError⟩,
  ⟨("InvalidName", some "__init__"), "__init__", "InvalidName.__init__", defArgs in_InvalidName, defBody in_InvalidName, defScope in_InvalidName⟩,
  ⟨("InUse", some "__init__"), "__init__", "InUse.__init__", defArgs in_InUse, defBody in_InUse, defScope in_InUse⟩,
  ⟨("Cycle", some "__init__"), "__init__", "Cycle.__init__", defArgs in_Cycle, defBody in_Cycle, defScope in_Cycle⟩,
  ⟨("Unfit", some "__init__"), "__init__", "Unfit.__init__", defArgs in_Unfit, defBody in_Unfit, defScope in_Unfit⟩,
  ⟨("InvalidCommand", some "__init__"), "__init__", "InvalidCommand.__init__", defArgs in_InvalidCommand, defBody in_InvalidCommand, defScope in_InvalidCommand⟩,
  ⟨("InvalidDocument", some "__init__"), "__init__", "InvalidDocument.__init__", defArgs in_InvalidDocument, defBody in_InvalidDocument, defScope in_InvalidDocument⟩,
  ⟨("UnknownPiece", some "__init__"), "__init__", "UnknownPiece.__init__", defArgs in_UnknownPiece, defBody in_UnknownPiece, defScope in_UnknownPiece⟩,
  ⟨("UnknownName", some "__init__"), "__init__", "UnknownName.__init__", defArgs in_UnknownName, defBody in_UnknownName, defScope in_UnknownName⟩]
def fnsI : List He.FnD := fnsI0
def plan : Plan := ⟨((fas.map fun f K => f.ok K) ++ fex) ++ ((fas2.map fun f K => f.ok K) ++ fex2), fns ++ fnsI, [], []⟩
def loose0 : List Str := ["GrainError",
  "MissingError",
  "InvalidFraction",
  "InvalidStatement",
  "TooLarge",
  "UnknownPlayer",
  "DuplicatePiece",
  "InvalidWeights",
  "InvalidWorths",
  "InvalidAnswer",
  "BrokenRule",
  "NothingExpected",
  "NothingLeft",
  "ParseError",
  "InvalidName",
  "InUse",
  "Cycle",
  "Unfit",
  "InvalidCommand",
  "InvalidDocument"]
def loose1 : List Str := ["UnknownPiece",
  "UnknownName",
  "_law_bag",
  "_law_pull",
  "_law_of",
  "_law_same",
  "_law_field",
  "_law_bases",
  "_law_kinds"]
def loose : List Str := loose0 ++ loose1
abbrev R : PySem.W.OpenRow := PySem.W.OpenLaw.row PySem.Challenge.rw_graincourse_k01_error_classes
def ob (s : PySem.W.SharedT) : AlQ := plan.obsG (HandSHeadRun.getT s)
theorem ob_eq (s : PySem.W.SharedT) : ob s = plan.hook.obs s.abs := Plan.obsG_eq (HandSHeadRun.getT_eq s)
set_option maxHeartbeats 0 in
theorem runF (w : World) : HandSHeadRun.RunEq R (PySem.W.view R.prog [31]) plan.hook ob 20000 loose (w.withFollow "special-get-raises" false) := by
  intro os
  kernel_rfl
set_option maxHeartbeats 0 in
theorem runT (w : World) : HandSHeadRun.RunEq R (PySem.W.view R.prog [31]) plan.hook ob 20000 loose (w.withFollow "special-get-raises" true) := by
  intro os
  kernel_rfl
theorem run (w : World) : HandSHeadRun.RunEq R (PySem.W.view R.prog [31]) plan.hook ob 20000 loose w := PySem.W.byRow2 "special-get-raises" (P := fun w => HandSHeadRun.RunEq R (PySem.W.view R.prog [31]) plan.hook ob 20000 loose w) runF runT w
theorem rec_law_same {P : Program} {w : World} {K : PySem.W.Frag} {mg : Str → Option Value} {base : Heap} {f : Addr} {fd : FuncData} (F : Fun K "_law_same" "_law_same" st_law_same f fd) (hm : mg "_law_same" = some (.ref f)) (b : Binds K fd ["_law_found", "_law_due"] []) (B : Bi mg) : ∀ n : Nat, Fc P w K mg base (n + 1) "_law_same" (S_law_same n)
  | 0 => gfun F hm b sc_law_same (len_law_same 0) (fun cdv A outer s H E hr => d_law_same 0 (fc_none F hm) B cdv A outer s H E hr) (pure_law_same 0)
  | n + 1 => gfun F hm b sc_law_same (len_law_same (n + 1)) (fun cdv A outer s H E hr => d_law_same (n + 1) (rec_law_same F hm b B n) B cdv A outer s H E hr) (pure_law_same (n + 1))
theorem all_mk {l : PySem.W.OpenLaw} {w : World} {K : PySem.W.Frag} {h : Heap} {mg : Str → Option Value} {fa : Addr} (X : K.In h) (G : h.Ns mainGlobals mg) (hfa : mg "law" = some (.ref fa)) (c : plan.Says h K) : ∃ fd : FuncData, (∀ (s : Shared) (v : Value), BindsTo s fd ⟨[v], []⟩ [("_law_script", v)]) ∧ ∀ base : Heap, K.In base → base.Ns mainGlobals mg → FnOk l.prog w K mg base CX0 5 fa fd ["_law_script"] (spLaw K) := by
  have e := hfa.symm.trans (He.glo_ok X G (c.factAt 7 (f := fun K => (He.Fa.glo "law").ok K) rfl))
  cases e
  have B : Bi mg := { list := He.free_ok X G (c.factAt 8 (f := fun K => (He.Fa.free "list").ok K) rfl), len := He.free_ok X G (c.factAt 9 (f := fun K => (He.Fa.free "len").ok K) rfl), isinstance := He.free_ok X G (c.factAt 10 (f := fun K => (He.Fa.free "isinstance").ok K) rfl), tuple := He.free_ok X G (c.factAt 11 (f := fun K => (He.Fa.free "tuple").ok K) rfl), all := He.free_ok X G (c.factAt 12 (f := fun K => (He.Fa.free "all").ok K) rfl), range := He.free_ok X G (c.factAt 13 (f := fun K => (He.Fa.free "range").ok K) rfl), bool := He.free_ok X G (c.factAt 14 (f := fun K => (He.Fa.free "bool").ok K) rfl), int := He.free_ok X G (c.factAt 15 (f := fun K => (He.Fa.free "int").ok K) rfl), str := He.free_ok X G (c.factAt 16 (f := fun K => (He.Fa.free "str").ok K) rfl), ValueError := He.free_ok X G (c.factAt 17 (f := fun K => (He.Fa.free "ValueError").ok K) rfl), LookupError := He.free_ok X G (c.factAt 18 (f := fun K => (He.Fa.free "LookupError").ok K) rfl) }
  obtain ⟨fd_law_bag, F_law_bag⟩ := c.fun_ 0 (x := "_law_bag") (q := "_law_bag") (at_ := ("_law_bag", none)) (st := st_law_bag) rfl
  have m_law_bag := He.glo_ok X G (c.factAt 0 (f := fun K => (He.Fa.glo "_law_bag").ok K) rfl)
  have b_law_bag := F_law_bag.binds (ps := ["_law_script"]) fun _ _ _ _ _ _ us hl => match us, hl with | [_], _ => rfl
  obtain ⟨fd_law_pull, F_law_pull⟩ := c.fun_ 1 (x := "_law_pull") (q := "_law_pull") (at_ := ("_law_pull", none)) (st := st_law_pull) rfl
  have m_law_pull := He.glo_ok X G (c.factAt 1 (f := fun K => (He.Fa.glo "_law_pull").ok K) rfl)
  have b_law_pull := F_law_pull.binds (ps := ["_law_bag_here", "_law_many"]) fun _ _ _ _ _ _ us hl => match us, hl with | [_, _], _ => rfl
  obtain ⟨fd_law_of, F_law_of⟩ := c.fun_ 2 (x := "_law_of") (q := "_law_of") (at_ := ("_law_of", none)) (st := st_law_of) rfl
  have m_law_of := He.glo_ok X G (c.factAt 2 (f := fun K => (He.Fa.glo "_law_of").ok K) rfl)
  have b_law_of := F_law_of.binds (ps := ["_law_bag_here", "_law_some"]) fun _ _ _ _ _ _ us hl => match us, hl with | [_, _], _ => rfl
  obtain ⟨fd_law_same, F_law_same⟩ := c.fun_ 3 (x := "_law_same") (q := "_law_same") (at_ := ("_law_same", none)) (st := st_law_same) rfl
  have m_law_same := He.glo_ok X G (c.factAt 3 (f := fun K => (He.Fa.glo "_law_same").ok K) rfl)
  have b_law_same := F_law_same.binds (ps := ["_law_found", "_law_due"]) fun _ _ _ _ _ _ us hl => match us, hl with | [_, _], _ => rfl
  obtain ⟨fd_law_field, F_law_field⟩ := c.fun_ 4 (x := "_law_field") (q := "_law_field") (at_ := ("_law_field", none)) (st := st_law_field) rfl
  have m_law_field := He.glo_ok X G (c.factAt 4 (f := fun K => (He.Fa.glo "_law_field").ok K) rfl)
  have b_law_field := F_law_field.binds (ps := ["_law_e"]) fun _ _ _ _ _ _ us hl => match us, hl with | [_], _ => rfl
  obtain ⟨fd_law_bases, F_law_bases⟩ := c.fun_ 5 (x := "_law_bases") (q := "_law_bases") (at_ := ("_law_bases", none)) (st := st_law_bases) rfl
  have m_law_bases := He.glo_ok X G (c.factAt 5 (f := fun K => (He.Fa.glo "_law_bases").ok K) rfl)
  have b_law_bases := F_law_bases.binds (ps := ["_law_e"]) fun _ _ _ _ _ _ us hl => match us, hl with | [_], _ => rfl
  obtain ⟨fd_law_kinds, F_law_kinds⟩ := c.fun_ 6 (x := "_law_kinds") (q := "_law_kinds") (at_ := ("_law_kinds", none)) (st := st_law_kinds) rfl
  have m_law_kinds := He.glo_ok X G (c.factAt 6 (f := fun K => (He.Fa.glo "_law_kinds").ok K) rfl)
  have b_law_kinds := F_law_kinds.binds (ps := ["_law_e"]) fun _ _ _ _ _ _ us hl => match us, hl with | [_], _ => rfl
  obtain ⟨fd_law, F_law⟩ := c.fun_ 7 (x := "law") (q := "law") (at_ := ("law", none)) (st := st_law) rfl
  refine ⟨fd_law, bindsLaw F_law (fun _ _ _ _ _ _ _ => rfl), fun base _ _ => ?_⟩
  have ox_InvalidFraction := ox_ok (c.factAt 41 (f := fun K => oxB K "InvalidFraction" false) rfl)
  have ox_InvalidStatement := ox_ok (c.factAt 47 (f := fun K => oxB K "InvalidStatement" false) rfl)
  have ox_TooLarge := ox_ok (c.factAt 53 (f := fun K => oxB K "TooLarge" false) rfl)
  have ox_UnknownPlayer := ox_ok (c.factAt 59 (f := fun K => oxB K "UnknownPlayer" false) rfl)
  have ox_DuplicatePiece := ox_ok (c.factAt 65 (f := fun K => oxB K "DuplicatePiece" false) rfl)
  have ox_InvalidWeights := ox_ok (c.factAt 71 (f := fun K => oxB K "InvalidWeights" false) rfl)
  have ox_InvalidWorths := ox_ok (c.factAt 77 (f := fun K => oxB K "InvalidWorths" false) rfl)
  have ox_InvalidAnswer := ox_ok (c.factAt 83 (f := fun K => oxB K "InvalidAnswer" false) rfl)
  have ox_BrokenRule := ox_ok (c.factAt 89 (f := fun K => oxB K "BrokenRule" false) rfl)
  have ox_NothingExpected := ox_ok (c.factAt 95 (f := fun K => oxB K "NothingExpected" false) rfl)
  have ox_NothingLeft := ox_ok (c.factAt 101 (f := fun K => oxB K "NothingLeft" false) rfl)
  have ox_ParseError := ox_ok (c.factAt 107 (f := fun K => oxB K "ParseError" false) rfl)
  have ox_InvalidName := ox_ok (c.factAt 113 (f := fun K => oxB K "InvalidName" false) rfl)
  have ox_InUse := ox_ok (c.factAt 119 (f := fun K => oxB K "InUse" false) rfl)
  have ox_Cycle := ox_ok (c.factAt 125 (f := fun K => oxB K "Cycle" false) rfl)
  have ox_Unfit := ox_ok (c.factAt 131 (f := fun K => oxB K "Unfit" false) rfl)
  have ox_InvalidCommand := ox_ok (c.factAt 137 (f := fun K => oxB K "InvalidCommand" false) rfl)
  have ox_InvalidDocument := ox_ok (c.factAt 143 (f := fun K => oxB K "InvalidDocument" false) rfl)
  have ox_UnknownPiece := ox_ok (c.factAt 149 (f := fun K => oxB K "UnknownPiece" true) rfl)
  have ox_UnknownName := ox_ok (c.factAt 155 (f := fun K => oxB K "UnknownName" true) rfl)
  have h1 : ∀ x, x ∈ N20 → XiC K (He.ga K x) := fun x hx => by
    rcases List.mem_cons.mp hx with rfl | hx
    · exact ins_ok (c.factAt 43 (f := fun K => insB K "InvalidFraction") rfl) ox_InvalidFraction.rd
    rcases List.mem_cons.mp hx with rfl | hx
    · exact ins_ok (c.factAt 49 (f := fun K => insB K "InvalidStatement") rfl) ox_InvalidStatement.rd
    rcases List.mem_cons.mp hx with rfl | hx
    · exact ins_ok (c.factAt 55 (f := fun K => insB K "TooLarge") rfl) ox_TooLarge.rd
    rcases List.mem_cons.mp hx with rfl | hx
    · exact ins_ok (c.factAt 61 (f := fun K => insB K "UnknownPlayer") rfl) ox_UnknownPlayer.rd
    rcases List.mem_cons.mp hx with rfl | hx
    · exact ins_ok (c.factAt 67 (f := fun K => insB K "DuplicatePiece") rfl) ox_DuplicatePiece.rd
    rcases List.mem_cons.mp hx with rfl | hx
    · exact ins_ok (c.factAt 73 (f := fun K => insB K "InvalidWeights") rfl) ox_InvalidWeights.rd
    rcases List.mem_cons.mp hx with rfl | hx
    · exact ins_ok (c.factAt 79 (f := fun K => insB K "InvalidWorths") rfl) ox_InvalidWorths.rd
    rcases List.mem_cons.mp hx with rfl | hx
    · exact ins_ok (c.factAt 85 (f := fun K => insB K "InvalidAnswer") rfl) ox_InvalidAnswer.rd
    rcases List.mem_cons.mp hx with rfl | hx
    · exact ins_ok (c.factAt 91 (f := fun K => insB K "BrokenRule") rfl) ox_BrokenRule.rd
    rcases List.mem_cons.mp hx with rfl | hx
    · exact ins_ok (c.factAt 97 (f := fun K => insB K "NothingExpected") rfl) ox_NothingExpected.rd
    rcases List.mem_cons.mp hx with rfl | hx
    · exact ins_ok (c.factAt 103 (f := fun K => insB K "NothingLeft") rfl) ox_NothingLeft.rd
    rcases List.mem_cons.mp hx with rfl | hx
    · exact ins_ok (c.factAt 109 (f := fun K => insB K "ParseError") rfl) ox_ParseError.rd
    rcases List.mem_cons.mp hx with rfl | hx
    · exact ins_ok (c.factAt 115 (f := fun K => insB K "InvalidName") rfl) ox_InvalidName.rd
    rcases List.mem_cons.mp hx with rfl | hx
    · exact ins_ok (c.factAt 121 (f := fun K => insB K "InUse") rfl) ox_InUse.rd
    rcases List.mem_cons.mp hx with rfl | hx
    · exact ins_ok (c.factAt 127 (f := fun K => insB K "Cycle") rfl) ox_Cycle.rd
    rcases List.mem_cons.mp hx with rfl | hx
    · exact ins_ok (c.factAt 133 (f := fun K => insB K "Unfit") rfl) ox_Unfit.rd
    rcases List.mem_cons.mp hx with rfl | hx
    · exact ins_ok (c.factAt 139 (f := fun K => insB K "InvalidCommand") rfl) ox_InvalidCommand.rd
    rcases List.mem_cons.mp hx with rfl | hx
    · exact ins_ok (c.factAt 145 (f := fun K => insB K "InvalidDocument") rfl) ox_InvalidDocument.rd
    rcases List.mem_cons.mp hx with rfl | hx
    · exact ins_ok (c.factAt 151 (f := fun K => insB K "UnknownPiece") rfl) ox_UnknownPiece.rd
    rcases List.mem_cons.mp hx with rfl | hx
    · exact ins_ok (c.factAt 157 (f := fun K => insB K "UnknownName") rfl) ox_UnknownName.rd
    exact nomatch hx
  have h2 : ∀ x, x ∈ N20 → kitB1 K x = true := fun x hx => by
    rcases List.mem_cons.mp hx with rfl | hx
    · exact (c.factAt 45 (f := fun K => kitB1 K "InvalidFraction") rfl)
    rcases List.mem_cons.mp hx with rfl | hx
    · exact (c.factAt 51 (f := fun K => kitB1 K "InvalidStatement") rfl)
    rcases List.mem_cons.mp hx with rfl | hx
    · exact (c.factAt 57 (f := fun K => kitB1 K "TooLarge") rfl)
    rcases List.mem_cons.mp hx with rfl | hx
    · exact (c.factAt 63 (f := fun K => kitB1 K "UnknownPlayer") rfl)
    rcases List.mem_cons.mp hx with rfl | hx
    · exact (c.factAt 69 (f := fun K => kitB1 K "DuplicatePiece") rfl)
    rcases List.mem_cons.mp hx with rfl | hx
    · exact (c.factAt 75 (f := fun K => kitB1 K "InvalidWeights") rfl)
    rcases List.mem_cons.mp hx with rfl | hx
    · exact (c.factAt 81 (f := fun K => kitB1 K "InvalidWorths") rfl)
    rcases List.mem_cons.mp hx with rfl | hx
    · exact (c.factAt 87 (f := fun K => kitB1 K "InvalidAnswer") rfl)
    rcases List.mem_cons.mp hx with rfl | hx
    · exact (c.factAt 93 (f := fun K => kitB1 K "BrokenRule") rfl)
    rcases List.mem_cons.mp hx with rfl | hx
    · exact (c.factAt 99 (f := fun K => kitB1 K "NothingExpected") rfl)
    rcases List.mem_cons.mp hx with rfl | hx
    · exact (c.factAt 105 (f := fun K => kitB1 K "NothingLeft") rfl)
    rcases List.mem_cons.mp hx with rfl | hx
    · exact (c.factAt 111 (f := fun K => kitB1 K "ParseError") rfl)
    rcases List.mem_cons.mp hx with rfl | hx
    · exact (c.factAt 117 (f := fun K => kitB1 K "InvalidName") rfl)
    rcases List.mem_cons.mp hx with rfl | hx
    · exact (c.factAt 123 (f := fun K => kitB1 K "InUse") rfl)
    rcases List.mem_cons.mp hx with rfl | hx
    · exact (c.factAt 129 (f := fun K => kitB1 K "Cycle") rfl)
    rcases List.mem_cons.mp hx with rfl | hx
    · exact (c.factAt 135 (f := fun K => kitB1 K "Unfit") rfl)
    rcases List.mem_cons.mp hx with rfl | hx
    · exact (c.factAt 141 (f := fun K => kitB1 K "InvalidCommand") rfl)
    rcases List.mem_cons.mp hx with rfl | hx
    · exact (c.factAt 147 (f := fun K => kitB1 K "InvalidDocument") rfl)
    rcases List.mem_cons.mp hx with rfl | hx
    · exact (c.factAt 153 (f := fun K => kitB1 K "UnknownPiece") rfl)
    rcases List.mem_cons.mp hx with rfl | hx
    · exact (c.factAt 159 (f := fun K => kitB1 K "UnknownName") rfl)
    exact nomatch hx
  have h3 : ∀ x, x ∈ N20 → kitB2 K x = true := fun x hx => by
    rcases List.mem_cons.mp hx with rfl | hx
    · exact (c.factAt 46 (f := fun K => kitB2 K "InvalidFraction") rfl)
    rcases List.mem_cons.mp hx with rfl | hx
    · exact (c.factAt 52 (f := fun K => kitB2 K "InvalidStatement") rfl)
    rcases List.mem_cons.mp hx with rfl | hx
    · exact (c.factAt 58 (f := fun K => kitB2 K "TooLarge") rfl)
    rcases List.mem_cons.mp hx with rfl | hx
    · exact (c.factAt 64 (f := fun K => kitB2 K "UnknownPlayer") rfl)
    rcases List.mem_cons.mp hx with rfl | hx
    · exact (c.factAt 70 (f := fun K => kitB2 K "DuplicatePiece") rfl)
    rcases List.mem_cons.mp hx with rfl | hx
    · exact (c.factAt 76 (f := fun K => kitB2 K "InvalidWeights") rfl)
    rcases List.mem_cons.mp hx with rfl | hx
    · exact (c.factAt 82 (f := fun K => kitB2 K "InvalidWorths") rfl)
    rcases List.mem_cons.mp hx with rfl | hx
    · exact (c.factAt 88 (f := fun K => kitB2 K "InvalidAnswer") rfl)
    rcases List.mem_cons.mp hx with rfl | hx
    · exact (c.factAt 94 (f := fun K => kitB2 K "BrokenRule") rfl)
    rcases List.mem_cons.mp hx with rfl | hx
    · exact (c.factAt 100 (f := fun K => kitB2 K "NothingExpected") rfl)
    rcases List.mem_cons.mp hx with rfl | hx
    · exact (c.factAt 106 (f := fun K => kitB2 K "NothingLeft") rfl)
    rcases List.mem_cons.mp hx with rfl | hx
    · exact (c.factAt 112 (f := fun K => kitB2 K "ParseError") rfl)
    rcases List.mem_cons.mp hx with rfl | hx
    · exact (c.factAt 118 (f := fun K => kitB2 K "InvalidName") rfl)
    rcases List.mem_cons.mp hx with rfl | hx
    · exact (c.factAt 124 (f := fun K => kitB2 K "InUse") rfl)
    rcases List.mem_cons.mp hx with rfl | hx
    · exact (c.factAt 130 (f := fun K => kitB2 K "Cycle") rfl)
    rcases List.mem_cons.mp hx with rfl | hx
    · exact (c.factAt 136 (f := fun K => kitB2 K "Unfit") rfl)
    rcases List.mem_cons.mp hx with rfl | hx
    · exact (c.factAt 142 (f := fun K => kitB2 K "InvalidCommand") rfl)
    rcases List.mem_cons.mp hx with rfl | hx
    · exact (c.factAt 148 (f := fun K => kitB2 K "InvalidDocument") rfl)
    rcases List.mem_cons.mp hx with rfl | hx
    · exact (c.factAt 154 (f := fun K => kitB2 K "UnknownPiece") rfl)
    rcases List.mem_cons.mp hx with rfl | hx
    · exact (c.factAt 160 (f := fun K => kitB2 K "UnknownName") rfl)
    exact nomatch hx
  have h4 : ∀ x, x ∈ N20 → nofB K x = true := fun x hx => by
    rcases List.mem_cons.mp hx with rfl | hx
    · exact (c.factAt 42 (f := fun K => nofB K "InvalidFraction") rfl)
    rcases List.mem_cons.mp hx with rfl | hx
    · exact (c.factAt 48 (f := fun K => nofB K "InvalidStatement") rfl)
    rcases List.mem_cons.mp hx with rfl | hx
    · exact (c.factAt 54 (f := fun K => nofB K "TooLarge") rfl)
    rcases List.mem_cons.mp hx with rfl | hx
    · exact (c.factAt 60 (f := fun K => nofB K "UnknownPlayer") rfl)
    rcases List.mem_cons.mp hx with rfl | hx
    · exact (c.factAt 66 (f := fun K => nofB K "DuplicatePiece") rfl)
    rcases List.mem_cons.mp hx with rfl | hx
    · exact (c.factAt 72 (f := fun K => nofB K "InvalidWeights") rfl)
    rcases List.mem_cons.mp hx with rfl | hx
    · exact (c.factAt 78 (f := fun K => nofB K "InvalidWorths") rfl)
    rcases List.mem_cons.mp hx with rfl | hx
    · exact (c.factAt 84 (f := fun K => nofB K "InvalidAnswer") rfl)
    rcases List.mem_cons.mp hx with rfl | hx
    · exact (c.factAt 90 (f := fun K => nofB K "BrokenRule") rfl)
    rcases List.mem_cons.mp hx with rfl | hx
    · exact (c.factAt 96 (f := fun K => nofB K "NothingExpected") rfl)
    rcases List.mem_cons.mp hx with rfl | hx
    · exact (c.factAt 102 (f := fun K => nofB K "NothingLeft") rfl)
    rcases List.mem_cons.mp hx with rfl | hx
    · exact (c.factAt 108 (f := fun K => nofB K "ParseError") rfl)
    rcases List.mem_cons.mp hx with rfl | hx
    · exact (c.factAt 114 (f := fun K => nofB K "InvalidName") rfl)
    rcases List.mem_cons.mp hx with rfl | hx
    · exact (c.factAt 120 (f := fun K => nofB K "InUse") rfl)
    rcases List.mem_cons.mp hx with rfl | hx
    · exact (c.factAt 126 (f := fun K => nofB K "Cycle") rfl)
    rcases List.mem_cons.mp hx with rfl | hx
    · exact (c.factAt 132 (f := fun K => nofB K "Unfit") rfl)
    rcases List.mem_cons.mp hx with rfl | hx
    · exact (c.factAt 138 (f := fun K => nofB K "InvalidCommand") rfl)
    rcases List.mem_cons.mp hx with rfl | hx
    · exact (c.factAt 144 (f := fun K => nofB K "InvalidDocument") rfl)
    rcases List.mem_cons.mp hx with rfl | hx
    · exact (c.factAt 150 (f := fun K => nofB K "UnknownPiece") rfl)
    rcases List.mem_cons.mp hx with rfl | hx
    · exact (c.factAt 156 (f := fun K => nofB K "UnknownName") rfl)
    exact nomatch hx
  have h5 : ∀ x, x ∈ N20 → mg x = some (.ref (He.ga K x)) := fun x hx => by
    rcases List.mem_cons.mp hx with rfl | hx
    · exact He.glo_ok X G (c.factAt 21 (f := fun K => (He.Fa.glo "InvalidFraction").ok K) rfl)
    rcases List.mem_cons.mp hx with rfl | hx
    · exact He.glo_ok X G (c.factAt 22 (f := fun K => (He.Fa.glo "InvalidStatement").ok K) rfl)
    rcases List.mem_cons.mp hx with rfl | hx
    · exact He.glo_ok X G (c.factAt 23 (f := fun K => (He.Fa.glo "TooLarge").ok K) rfl)
    rcases List.mem_cons.mp hx with rfl | hx
    · exact He.glo_ok X G (c.factAt 24 (f := fun K => (He.Fa.glo "UnknownPlayer").ok K) rfl)
    rcases List.mem_cons.mp hx with rfl | hx
    · exact He.glo_ok X G (c.factAt 25 (f := fun K => (He.Fa.glo "DuplicatePiece").ok K) rfl)
    rcases List.mem_cons.mp hx with rfl | hx
    · exact He.glo_ok X G (c.factAt 26 (f := fun K => (He.Fa.glo "InvalidWeights").ok K) rfl)
    rcases List.mem_cons.mp hx with rfl | hx
    · exact He.glo_ok X G (c.factAt 27 (f := fun K => (He.Fa.glo "InvalidWorths").ok K) rfl)
    rcases List.mem_cons.mp hx with rfl | hx
    · exact He.glo_ok X G (c.factAt 28 (f := fun K => (He.Fa.glo "InvalidAnswer").ok K) rfl)
    rcases List.mem_cons.mp hx with rfl | hx
    · exact He.glo_ok X G (c.factAt 29 (f := fun K => (He.Fa.glo "BrokenRule").ok K) rfl)
    rcases List.mem_cons.mp hx with rfl | hx
    · exact He.glo_ok X G (c.factAt 30 (f := fun K => (He.Fa.glo "NothingExpected").ok K) rfl)
    rcases List.mem_cons.mp hx with rfl | hx
    · exact He.glo_ok X G (c.factAt 31 (f := fun K => (He.Fa.glo "NothingLeft").ok K) rfl)
    rcases List.mem_cons.mp hx with rfl | hx
    · exact He.glo_ok X G (c.factAt 32 (f := fun K => (He.Fa.glo "ParseError").ok K) rfl)
    rcases List.mem_cons.mp hx with rfl | hx
    · exact He.glo_ok X G (c.factAt 33 (f := fun K => (He.Fa.glo "InvalidName").ok K) rfl)
    rcases List.mem_cons.mp hx with rfl | hx
    · exact He.glo_ok X G (c.factAt 34 (f := fun K => (He.Fa.glo "InUse").ok K) rfl)
    rcases List.mem_cons.mp hx with rfl | hx
    · exact He.glo_ok X G (c.factAt 35 (f := fun K => (He.Fa.glo "Cycle").ok K) rfl)
    rcases List.mem_cons.mp hx with rfl | hx
    · exact He.glo_ok X G (c.factAt 36 (f := fun K => (He.Fa.glo "Unfit").ok K) rfl)
    rcases List.mem_cons.mp hx with rfl | hx
    · exact He.glo_ok X G (c.factAt 37 (f := fun K => (He.Fa.glo "InvalidCommand").ok K) rfl)
    rcases List.mem_cons.mp hx with rfl | hx
    · exact He.glo_ok X G (c.factAt 38 (f := fun K => (He.Fa.glo "InvalidDocument").ok K) rfl)
    rcases List.mem_cons.mp hx with rfl | hx
    · exact He.glo_ok X G (c.factAt 39 (f := fun K => (He.Fa.glo "UnknownPiece").ok K) rfl)
    rcases List.mem_cons.mp hx with rfl | hx
    · exact He.glo_ok X G (c.factAt 40 (f := fun K => (He.Fa.glo "UnknownName").ok K) rfl)
    exact nomatch hx
  obtain ⟨fdi_InvalidFraction, Fi_InvalidFraction⟩ := c.fun_ 8 (x := "__init__") (q := "InvalidFraction.__init__") (at_ := ("InvalidFraction", some "__init__")) (st := in_InvalidFraction) rfl
  have bi_InvalidFraction := Fi_InvalidFraction.binds (ps := ["self"]) fun _ _ _ _ _ _ us hl => match us, hl with | [_], _ => rfl
  have mk_InvalidFraction : Xmk l.prog w K mg base "InvalidFraction" (He.ga K "InvalidFraction") (spX0 (He.ga K "InvalidFraction") "invalidfraction") := ⟨ox_InvalidFraction, h5 _ (by decide +kernel : ("InvalidFraction" : Str) ∈ N20), _, (inp_ok (c.factAt 44 (f := fun K => inpB K "InvalidFraction") rfl)).1, (inp_ok (c.factAt 44 (f := fun K => inpB K "InvalidFraction") rfl)).2, xinit0 Fi_InvalidFraction bi_InvalidFraction sci_InvalidFraction ⟨_, _, _, _, _, rfl⟩ (Or.inl rfl) ox_InvalidFraction (nof_ok (c.factAt 42 (f := fun K => nofB K "InvalidFraction") rfl) (by decide +kernel))⟩
  obtain ⟨fdi_InvalidStatement, Fi_InvalidStatement⟩ := c.fun_ 9 (x := "__init__") (q := "InvalidStatement.__init__") (at_ := ("InvalidStatement", some "__init__")) (st := in_InvalidStatement) rfl
  have bi_InvalidStatement := Fi_InvalidStatement.binds (ps := ["self", "place"]) fun _ _ _ _ _ _ us hl => match us, hl with | [_, _], _ => rfl
  have mk_InvalidStatement : Xmk l.prog w K mg base "InvalidStatement" (He.ga K "InvalidStatement") (spX1 (He.ga K "InvalidStatement") "invalidstatement" "place") := ⟨ox_InvalidStatement, h5 _ (by decide +kernel : ("InvalidStatement" : Str) ∈ N20), _, (inp_ok (c.factAt 50 (f := fun K => inpB K "InvalidStatement") rfl)).1, (inp_ok (c.factAt 50 (f := fun K => inpB K "InvalidStatement") rfl)).2, xinit1 Fi_InvalidStatement bi_InvalidStatement sci_InvalidStatement ⟨_, _, _, _, _, _, _, _, _, rfl⟩ (Or.inl rfl) (Or.inl rfl) (by decide) (by decide) ox_InvalidStatement (nof_ok (c.factAt 48 (f := fun K => nofB K "InvalidStatement") rfl) (by decide +kernel)) (nof_ok (c.factAt 48 (f := fun K => nofB K "InvalidStatement") rfl) (by decide +kernel))⟩
  obtain ⟨fdi_TooLarge, Fi_TooLarge⟩ := c.fun_ 10 (x := "__init__") (q := "TooLarge.__init__") (at_ := ("TooLarge", some "__init__")) (st := in_TooLarge) rfl
  have bi_TooLarge := Fi_TooLarge.binds (ps := ["self", "limit"]) fun _ _ _ _ _ _ us hl => match us, hl with | [_, _], _ => rfl
  have mk_TooLarge : Xmk l.prog w K mg base "TooLarge" (He.ga K "TooLarge") (spX1 (He.ga K "TooLarge") "toolarge" "limit") := ⟨ox_TooLarge, h5 _ (by decide +kernel : ("TooLarge" : Str) ∈ N20), _, (inp_ok (c.factAt 56 (f := fun K => inpB K "TooLarge") rfl)).1, (inp_ok (c.factAt 56 (f := fun K => inpB K "TooLarge") rfl)).2, xinit1 Fi_TooLarge bi_TooLarge sci_TooLarge ⟨_, _, _, _, _, _, _, _, _, rfl⟩ (Or.inl rfl) (Or.inl rfl) (by decide) (by decide) ox_TooLarge (nof_ok (c.factAt 54 (f := fun K => nofB K "TooLarge") rfl) (by decide +kernel)) (nof_ok (c.factAt 54 (f := fun K => nofB K "TooLarge") rfl) (by decide +kernel))⟩
  obtain ⟨fdi_UnknownPlayer, Fi_UnknownPlayer⟩ := c.fun_ 11 (x := "__init__") (q := "UnknownPlayer.__init__") (at_ := ("UnknownPlayer", some "__init__")) (st := in_UnknownPlayer) rfl
  have bi_UnknownPlayer := Fi_UnknownPlayer.binds (ps := ["self", "player"]) fun _ _ _ _ _ _ us hl => match us, hl with | [_, _], _ => rfl
  have mk_UnknownPlayer : Xmk l.prog w K mg base "UnknownPlayer" (He.ga K "UnknownPlayer") (spX1 (He.ga K "UnknownPlayer") "unknownplayer" "player") := ⟨ox_UnknownPlayer, h5 _ (by decide +kernel : ("UnknownPlayer" : Str) ∈ N20), _, (inp_ok (c.factAt 62 (f := fun K => inpB K "UnknownPlayer") rfl)).1, (inp_ok (c.factAt 62 (f := fun K => inpB K "UnknownPlayer") rfl)).2, xinit1 Fi_UnknownPlayer bi_UnknownPlayer sci_UnknownPlayer ⟨_, _, _, _, _, _, _, _, _, rfl⟩ (Or.inl rfl) (Or.inl rfl) (by decide) (by decide) ox_UnknownPlayer (nof_ok (c.factAt 60 (f := fun K => nofB K "UnknownPlayer") rfl) (by decide +kernel)) (nof_ok (c.factAt 60 (f := fun K => nofB K "UnknownPlayer") rfl) (by decide +kernel))⟩
  obtain ⟨fdi_DuplicatePiece, Fi_DuplicatePiece⟩ := c.fun_ 12 (x := "__init__") (q := "DuplicatePiece.__init__") (at_ := ("DuplicatePiece", some "__init__")) (st := in_DuplicatePiece) rfl
  have bi_DuplicatePiece := Fi_DuplicatePiece.binds (ps := ["self", "name"]) fun _ _ _ _ _ _ us hl => match us, hl with | [_, _], _ => rfl
  have mk_DuplicatePiece : Xmk l.prog w K mg base "DuplicatePiece" (He.ga K "DuplicatePiece") (spX1 (He.ga K "DuplicatePiece") "duplicatepiece" "name") := ⟨ox_DuplicatePiece, h5 _ (by decide +kernel : ("DuplicatePiece" : Str) ∈ N20), _, (inp_ok (c.factAt 68 (f := fun K => inpB K "DuplicatePiece") rfl)).1, (inp_ok (c.factAt 68 (f := fun K => inpB K "DuplicatePiece") rfl)).2, xinit1 Fi_DuplicatePiece bi_DuplicatePiece sci_DuplicatePiece ⟨_, _, _, _, _, _, _, _, _, rfl⟩ (Or.inl rfl) (Or.inl rfl) (by decide) (by decide) ox_DuplicatePiece (nof_ok (c.factAt 66 (f := fun K => nofB K "DuplicatePiece") rfl) (by decide +kernel)) (nof_ok (c.factAt 66 (f := fun K => nofB K "DuplicatePiece") rfl) (by decide +kernel))⟩
  obtain ⟨fdi_InvalidWeights, Fi_InvalidWeights⟩ := c.fun_ 13 (x := "__init__") (q := "InvalidWeights.__init__") (at_ := ("InvalidWeights", some "__init__")) (st := in_InvalidWeights) rfl
  have bi_InvalidWeights := Fi_InvalidWeights.binds (ps := ["self"]) fun _ _ _ _ _ _ us hl => match us, hl with | [_], _ => rfl
  have mk_InvalidWeights : Xmk l.prog w K mg base "InvalidWeights" (He.ga K "InvalidWeights") (spX0 (He.ga K "InvalidWeights") "invalidweights") := ⟨ox_InvalidWeights, h5 _ (by decide +kernel : ("InvalidWeights" : Str) ∈ N20), _, (inp_ok (c.factAt 74 (f := fun K => inpB K "InvalidWeights") rfl)).1, (inp_ok (c.factAt 74 (f := fun K => inpB K "InvalidWeights") rfl)).2, xinit0 Fi_InvalidWeights bi_InvalidWeights sci_InvalidWeights ⟨_, _, _, _, _, rfl⟩ (Or.inl rfl) ox_InvalidWeights (nof_ok (c.factAt 72 (f := fun K => nofB K "InvalidWeights") rfl) (by decide +kernel))⟩
  obtain ⟨fdi_InvalidWorths, Fi_InvalidWorths⟩ := c.fun_ 14 (x := "__init__") (q := "InvalidWorths.__init__") (at_ := ("InvalidWorths", some "__init__")) (st := in_InvalidWorths) rfl
  have bi_InvalidWorths := Fi_InvalidWorths.binds (ps := ["self"]) fun _ _ _ _ _ _ us hl => match us, hl with | [_], _ => rfl
  have mk_InvalidWorths : Xmk l.prog w K mg base "InvalidWorths" (He.ga K "InvalidWorths") (spX0 (He.ga K "InvalidWorths") "invalidworths") := ⟨ox_InvalidWorths, h5 _ (by decide +kernel : ("InvalidWorths" : Str) ∈ N20), _, (inp_ok (c.factAt 80 (f := fun K => inpB K "InvalidWorths") rfl)).1, (inp_ok (c.factAt 80 (f := fun K => inpB K "InvalidWorths") rfl)).2, xinit0 Fi_InvalidWorths bi_InvalidWorths sci_InvalidWorths ⟨_, _, _, _, _, rfl⟩ (Or.inl rfl) ox_InvalidWorths (nof_ok (c.factAt 78 (f := fun K => nofB K "InvalidWorths") rfl) (by decide +kernel))⟩
  obtain ⟨fdi_InvalidAnswer, Fi_InvalidAnswer⟩ := c.fun_ 15 (x := "__init__") (q := "InvalidAnswer.__init__") (at_ := ("InvalidAnswer", some "__init__")) (st := in_InvalidAnswer) rfl
  have bi_InvalidAnswer := Fi_InvalidAnswer.binds (ps := ["self"]) fun _ _ _ _ _ _ us hl => match us, hl with | [_], _ => rfl
  have mk_InvalidAnswer : Xmk l.prog w K mg base "InvalidAnswer" (He.ga K "InvalidAnswer") (spX0 (He.ga K "InvalidAnswer") "invalidanswer") := ⟨ox_InvalidAnswer, h5 _ (by decide +kernel : ("InvalidAnswer" : Str) ∈ N20), _, (inp_ok (c.factAt 86 (f := fun K => inpB K "InvalidAnswer") rfl)).1, (inp_ok (c.factAt 86 (f := fun K => inpB K "InvalidAnswer") rfl)).2, xinit0 Fi_InvalidAnswer bi_InvalidAnswer sci_InvalidAnswer ⟨_, _, _, _, _, rfl⟩ (Or.inl rfl) ox_InvalidAnswer (nof_ok (c.factAt 84 (f := fun K => nofB K "InvalidAnswer") rfl) (by decide +kernel))⟩
  obtain ⟨fdi_BrokenRule, Fi_BrokenRule⟩ := c.fun_ 16 (x := "__init__") (q := "BrokenRule.__init__") (at_ := ("BrokenRule", some "__init__")) (st := in_BrokenRule) rfl
  have bi_BrokenRule := Fi_BrokenRule.binds (ps := ["self", "player"]) fun _ _ _ _ _ _ us hl => match us, hl with | [_, _], _ => rfl
  have mk_BrokenRule : Xmk l.prog w K mg base "BrokenRule" (He.ga K "BrokenRule") (spX1 (He.ga K "BrokenRule") "brokenrule" "player") := ⟨ox_BrokenRule, h5 _ (by decide +kernel : ("BrokenRule" : Str) ∈ N20), _, (inp_ok (c.factAt 92 (f := fun K => inpB K "BrokenRule") rfl)).1, (inp_ok (c.factAt 92 (f := fun K => inpB K "BrokenRule") rfl)).2, xinit1 Fi_BrokenRule bi_BrokenRule sci_BrokenRule ⟨_, _, _, _, _, _, _, _, _, rfl⟩ (Or.inl rfl) (Or.inl rfl) (by decide) (by decide) ox_BrokenRule (nof_ok (c.factAt 90 (f := fun K => nofB K "BrokenRule") rfl) (by decide +kernel)) (nof_ok (c.factAt 90 (f := fun K => nofB K "BrokenRule") rfl) (by decide +kernel))⟩
  obtain ⟨fdi_NothingExpected, Fi_NothingExpected⟩ := c.fun_ 17 (x := "__init__") (q := "NothingExpected.__init__") (at_ := ("NothingExpected", some "__init__")) (st := in_NothingExpected) rfl
  have bi_NothingExpected := Fi_NothingExpected.binds (ps := ["self"]) fun _ _ _ _ _ _ us hl => match us, hl with | [_], _ => rfl
  have mk_NothingExpected : Xmk l.prog w K mg base "NothingExpected" (He.ga K "NothingExpected") (spX0 (He.ga K "NothingExpected") "nothingexpected") := ⟨ox_NothingExpected, h5 _ (by decide +kernel : ("NothingExpected" : Str) ∈ N20), _, (inp_ok (c.factAt 98 (f := fun K => inpB K "NothingExpected") rfl)).1, (inp_ok (c.factAt 98 (f := fun K => inpB K "NothingExpected") rfl)).2, xinit0 Fi_NothingExpected bi_NothingExpected sci_NothingExpected ⟨_, _, _, _, _, rfl⟩ (Or.inl rfl) ox_NothingExpected (nof_ok (c.factAt 96 (f := fun K => nofB K "NothingExpected") rfl) (by decide +kernel))⟩
  obtain ⟨fdi_NothingLeft, Fi_NothingLeft⟩ := c.fun_ 18 (x := "__init__") (q := "NothingLeft.__init__") (at_ := ("NothingLeft", some "__init__")) (st := in_NothingLeft) rfl
  have bi_NothingLeft := Fi_NothingLeft.binds (ps := ["self"]) fun _ _ _ _ _ _ us hl => match us, hl with | [_], _ => rfl
  have mk_NothingLeft : Xmk l.prog w K mg base "NothingLeft" (He.ga K "NothingLeft") (spX0 (He.ga K "NothingLeft") "nothingleft") := ⟨ox_NothingLeft, h5 _ (by decide +kernel : ("NothingLeft" : Str) ∈ N20), _, (inp_ok (c.factAt 104 (f := fun K => inpB K "NothingLeft") rfl)).1, (inp_ok (c.factAt 104 (f := fun K => inpB K "NothingLeft") rfl)).2, xinit0 Fi_NothingLeft bi_NothingLeft sci_NothingLeft ⟨_, _, _, _, _, rfl⟩ (Or.inl rfl) ox_NothingLeft (nof_ok (c.factAt 102 (f := fun K => nofB K "NothingLeft") rfl) (by decide +kernel))⟩
  obtain ⟨fdi_ParseError, Fi_ParseError⟩ := c.fun_ 19 (x := "__init__") (q := "ParseError.__init__") (at_ := ("ParseError", some "__init__")) (st := in_ParseError) rfl
  have bi_ParseError := Fi_ParseError.binds (ps := ["self", "place"]) fun _ _ _ _ _ _ us hl => match us, hl with | [_, _], _ => rfl
  have mk_ParseError : Xmk l.prog w K mg base "ParseError" (He.ga K "ParseError") (spX1 (He.ga K "ParseError") "parseerror" "place") := ⟨ox_ParseError, h5 _ (by decide +kernel : ("ParseError" : Str) ∈ N20), _, (inp_ok (c.factAt 110 (f := fun K => inpB K "ParseError") rfl)).1, (inp_ok (c.factAt 110 (f := fun K => inpB K "ParseError") rfl)).2, xinit1 Fi_ParseError bi_ParseError sci_ParseError ⟨_, _, _, _, _, _, _, _, _, rfl⟩ (Or.inl rfl) (Or.inl rfl) (by decide) (by decide) ox_ParseError (nof_ok (c.factAt 108 (f := fun K => nofB K "ParseError") rfl) (by decide +kernel)) (nof_ok (c.factAt 108 (f := fun K => nofB K "ParseError") rfl) (by decide +kernel))⟩
  obtain ⟨fdi_InvalidName, Fi_InvalidName⟩ := c.fun_ 20 (x := "__init__") (q := "InvalidName.__init__") (at_ := ("InvalidName", some "__init__")) (st := in_InvalidName) rfl
  have bi_InvalidName := Fi_InvalidName.binds (ps := ["self", "name"]) fun _ _ _ _ _ _ us hl => match us, hl with | [_, _], _ => rfl
  have mk_InvalidName : Xmk l.prog w K mg base "InvalidName" (He.ga K "InvalidName") (spX1 (He.ga K "InvalidName") "invalidname" "name") := ⟨ox_InvalidName, h5 _ (by decide +kernel : ("InvalidName" : Str) ∈ N20), _, (inp_ok (c.factAt 116 (f := fun K => inpB K "InvalidName") rfl)).1, (inp_ok (c.factAt 116 (f := fun K => inpB K "InvalidName") rfl)).2, xinit1 Fi_InvalidName bi_InvalidName sci_InvalidName ⟨_, _, _, _, _, _, _, _, _, rfl⟩ (Or.inl rfl) (Or.inl rfl) (by decide) (by decide) ox_InvalidName (nof_ok (c.factAt 114 (f := fun K => nofB K "InvalidName") rfl) (by decide +kernel)) (nof_ok (c.factAt 114 (f := fun K => nofB K "InvalidName") rfl) (by decide +kernel))⟩
  obtain ⟨fdi_InUse, Fi_InUse⟩ := c.fun_ 21 (x := "__init__") (q := "InUse.__init__") (at_ := ("InUse", some "__init__")) (st := in_InUse) rfl
  have bi_InUse := Fi_InUse.binds (ps := ["self", "name"]) fun _ _ _ _ _ _ us hl => match us, hl with | [_, _], _ => rfl
  have mk_InUse : Xmk l.prog w K mg base "InUse" (He.ga K "InUse") (spX1 (He.ga K "InUse") "inuse" "name") := ⟨ox_InUse, h5 _ (by decide +kernel : ("InUse" : Str) ∈ N20), _, (inp_ok (c.factAt 122 (f := fun K => inpB K "InUse") rfl)).1, (inp_ok (c.factAt 122 (f := fun K => inpB K "InUse") rfl)).2, xinit1 Fi_InUse bi_InUse sci_InUse ⟨_, _, _, _, _, _, _, _, _, rfl⟩ (Or.inl rfl) (Or.inl rfl) (by decide) (by decide) ox_InUse (nof_ok (c.factAt 120 (f := fun K => nofB K "InUse") rfl) (by decide +kernel)) (nof_ok (c.factAt 120 (f := fun K => nofB K "InUse") rfl) (by decide +kernel))⟩
  obtain ⟨fdi_Cycle, Fi_Cycle⟩ := c.fun_ 22 (x := "__init__") (q := "Cycle.__init__") (at_ := ("Cycle", some "__init__")) (st := in_Cycle) rfl
  have bi_Cycle := Fi_Cycle.binds (ps := ["self", "name"]) fun _ _ _ _ _ _ us hl => match us, hl with | [_, _], _ => rfl
  have mk_Cycle : Xmk l.prog w K mg base "Cycle" (He.ga K "Cycle") (spX1 (He.ga K "Cycle") "cycle" "name") := ⟨ox_Cycle, h5 _ (by decide +kernel : ("Cycle" : Str) ∈ N20), _, (inp_ok (c.factAt 128 (f := fun K => inpB K "Cycle") rfl)).1, (inp_ok (c.factAt 128 (f := fun K => inpB K "Cycle") rfl)).2, xinit1 Fi_Cycle bi_Cycle sci_Cycle ⟨_, _, _, _, _, _, _, _, _, rfl⟩ (Or.inl rfl) (Or.inl rfl) (by decide) (by decide) ox_Cycle (nof_ok (c.factAt 126 (f := fun K => nofB K "Cycle") rfl) (by decide +kernel)) (nof_ok (c.factAt 126 (f := fun K => nofB K "Cycle") rfl) (by decide +kernel))⟩
  obtain ⟨fdi_Unfit, Fi_Unfit⟩ := c.fun_ 23 (x := "__init__") (q := "Unfit.__init__") (at_ := ("Unfit", some "__init__")) (st := in_Unfit) rfl
  have bi_Unfit := Fi_Unfit.binds (ps := ["self", "name"]) fun _ _ _ _ _ _ us hl => match us, hl with | [_, _], _ => rfl
  have mk_Unfit : Xmk l.prog w K mg base "Unfit" (He.ga K "Unfit") (spX1 (He.ga K "Unfit") "unfit" "name") := ⟨ox_Unfit, h5 _ (by decide +kernel : ("Unfit" : Str) ∈ N20), _, (inp_ok (c.factAt 134 (f := fun K => inpB K "Unfit") rfl)).1, (inp_ok (c.factAt 134 (f := fun K => inpB K "Unfit") rfl)).2, xinit1 Fi_Unfit bi_Unfit sci_Unfit ⟨_, _, _, _, _, _, _, _, _, rfl⟩ (Or.inl rfl) (Or.inl rfl) (by decide) (by decide) ox_Unfit (nof_ok (c.factAt 132 (f := fun K => nofB K "Unfit") rfl) (by decide +kernel)) (nof_ok (c.factAt 132 (f := fun K => nofB K "Unfit") rfl) (by decide +kernel))⟩
  obtain ⟨fdi_InvalidCommand, Fi_InvalidCommand⟩ := c.fun_ 24 (x := "__init__") (q := "InvalidCommand.__init__") (at_ := ("InvalidCommand", some "__init__")) (st := in_InvalidCommand) rfl
  have bi_InvalidCommand := Fi_InvalidCommand.binds (ps := ["self", "index"]) fun _ _ _ _ _ _ us hl => match us, hl with | [_, _], _ => rfl
  have mk_InvalidCommand : Xmk l.prog w K mg base "InvalidCommand" (He.ga K "InvalidCommand") (spX1 (He.ga K "InvalidCommand") "invalidcommand" "index") := ⟨ox_InvalidCommand, h5 _ (by decide +kernel : ("InvalidCommand" : Str) ∈ N20), _, (inp_ok (c.factAt 140 (f := fun K => inpB K "InvalidCommand") rfl)).1, (inp_ok (c.factAt 140 (f := fun K => inpB K "InvalidCommand") rfl)).2, xinit1 Fi_InvalidCommand bi_InvalidCommand sci_InvalidCommand ⟨_, _, _, _, _, _, _, _, _, rfl⟩ (Or.inl rfl) (Or.inl rfl) (by decide) (by decide) ox_InvalidCommand (nof_ok (c.factAt 138 (f := fun K => nofB K "InvalidCommand") rfl) (by decide +kernel)) (nof_ok (c.factAt 138 (f := fun K => nofB K "InvalidCommand") rfl) (by decide +kernel))⟩
  obtain ⟨fdi_InvalidDocument, Fi_InvalidDocument⟩ := c.fun_ 25 (x := "__init__") (q := "InvalidDocument.__init__") (at_ := ("InvalidDocument", some "__init__")) (st := in_InvalidDocument) rfl
  have bi_InvalidDocument := Fi_InvalidDocument.binds (ps := ["self", "row"]) fun _ _ _ _ _ _ us hl => match us, hl with | [_, _], _ => rfl
  have mk_InvalidDocument : Xmk l.prog w K mg base "InvalidDocument" (He.ga K "InvalidDocument") (spX1 (He.ga K "InvalidDocument") "invaliddocument" "row") := ⟨ox_InvalidDocument, h5 _ (by decide +kernel : ("InvalidDocument" : Str) ∈ N20), _, (inp_ok (c.factAt 146 (f := fun K => inpB K "InvalidDocument") rfl)).1, (inp_ok (c.factAt 146 (f := fun K => inpB K "InvalidDocument") rfl)).2, xinit1 Fi_InvalidDocument bi_InvalidDocument sci_InvalidDocument ⟨_, _, _, _, _, _, _, _, _, rfl⟩ (Or.inl rfl) (Or.inl rfl) (by decide) (by decide) ox_InvalidDocument (nof_ok (c.factAt 144 (f := fun K => nofB K "InvalidDocument") rfl) (by decide +kernel)) (nof_ok (c.factAt 144 (f := fun K => nofB K "InvalidDocument") rfl) (by decide +kernel))⟩
  obtain ⟨fdi_UnknownPiece, Fi_UnknownPiece⟩ := c.fun_ 26 (x := "__init__") (q := "UnknownPiece.__init__") (at_ := ("UnknownPiece", some "__init__")) (st := in_UnknownPiece) rfl
  have bi_UnknownPiece := Fi_UnknownPiece.binds (ps := ["self", "name"]) fun _ _ _ _ _ _ us hl => match us, hl with | [_, _], _ => rfl
  have mk_UnknownPiece : Xmk l.prog w K mg base "UnknownPiece" (He.ga K "UnknownPiece") (spX1 (He.ga K "UnknownPiece") "unknownpiece" "name") := ⟨ox_UnknownPiece, h5 _ (by decide +kernel : ("UnknownPiece" : Str) ∈ N20), _, (inp_ok (c.factAt 152 (f := fun K => inpB K "UnknownPiece") rfl)).1, (inp_ok (c.factAt 152 (f := fun K => inpB K "UnknownPiece") rfl)).2, xinit1 Fi_UnknownPiece bi_UnknownPiece sci_UnknownPiece ⟨_, _, _, _, _, _, _, _, _, rfl⟩ (Or.inl rfl) (Or.inl rfl) (by decide) (by decide) ox_UnknownPiece (nof_ok (c.factAt 150 (f := fun K => nofB K "UnknownPiece") rfl) (by decide +kernel)) (nof_ok (c.factAt 150 (f := fun K => nofB K "UnknownPiece") rfl) (by decide +kernel))⟩
  obtain ⟨fdi_UnknownName, Fi_UnknownName⟩ := c.fun_ 27 (x := "__init__") (q := "UnknownName.__init__") (at_ := ("UnknownName", some "__init__")) (st := in_UnknownName) rfl
  have bi_UnknownName := Fi_UnknownName.binds (ps := ["self", "name"]) fun _ _ _ _ _ _ us hl => match us, hl with | [_, _], _ => rfl
  have mk_UnknownName : Xmk l.prog w K mg base "UnknownName" (He.ga K "UnknownName") (spX1 (He.ga K "UnknownName") "unknownname" "name") := ⟨ox_UnknownName, h5 _ (by decide +kernel : ("UnknownName" : Str) ∈ N20), _, (inp_ok (c.factAt 158 (f := fun K => inpB K "UnknownName") rfl)).1, (inp_ok (c.factAt 158 (f := fun K => inpB K "UnknownName") rfl)).2, xinit1 Fi_UnknownName bi_UnknownName sci_UnknownName ⟨_, _, _, _, _, _, _, _, _, rfl⟩ (Or.inl rfl) (Or.inl rfl) (by decide) (by decide) ox_UnknownName (nof_ok (c.factAt 156 (f := fun K => nofB K "UnknownName") rfl) (by decide +kernel)) (nof_ok (c.factAt 156 (f := fun K => nofB K "UnknownName") rfl) (by decide +kernel))⟩
  have o : OF l.prog w K mg base (He.ga K) := {
    n := fun x hx => by
      rcases List.mem_cons.mp hx with rfl | hx
      · exact He.glo_ok X G (c.factAt 19 (f := fun K => (He.Fa.glo "GrainError").ok K) rfl)
      rcases List.mem_cons.mp hx with rfl | hx
      · exact He.glo_ok X G (c.factAt 20 (f := fun K => (He.Fa.glo "MissingError").ok K) rfl)
      exact h5 x hx
    rd := fun f hf C hC => by
      obtain ⟨x, hx, rfl⟩ := hC
      exact ⟨(h1 x hx).rd, nof_ok (h4 x hx) hf⟩
    m0 := fun x wd hx => by
      rcases List.mem_cons.mp hx with e | hx
      · cases e; exact mk_InvalidFraction
      rcases List.mem_cons.mp hx with e | hx
      · cases e; exact mk_InvalidWeights
      rcases List.mem_cons.mp hx with e | hx
      · cases e; exact mk_InvalidWorths
      rcases List.mem_cons.mp hx with e | hx
      · cases e; exact mk_InvalidAnswer
      rcases List.mem_cons.mp hx with e | hx
      · cases e; exact mk_NothingExpected
      rcases List.mem_cons.mp hx with e | hx
      · cases e; exact mk_NothingLeft
      exact nomatch hx
    m1 := fun x wd f hx => by
      rcases List.mem_cons.mp hx with e | hx
      · cases e; exact mk_InvalidStatement
      rcases List.mem_cons.mp hx with e | hx
      · cases e; exact mk_TooLarge
      rcases List.mem_cons.mp hx with e | hx
      · cases e; exact mk_UnknownPlayer
      rcases List.mem_cons.mp hx with e | hx
      · cases e; exact mk_DuplicatePiece
      rcases List.mem_cons.mp hx with e | hx
      · cases e; exact mk_BrokenRule
      rcases List.mem_cons.mp hx with e | hx
      · cases e; exact mk_ParseError
      rcases List.mem_cons.mp hx with e | hx
      · cases e; exact mk_InvalidName
      rcases List.mem_cons.mp hx with e | hx
      · cases e; exact mk_InUse
      rcases List.mem_cons.mp hx with e | hx
      · cases e; exact mk_Cycle
      rcases List.mem_cons.mp hx with e | hx
      · cases e; exact mk_Unfit
      rcases List.mem_cons.mp hx with e | hx
      · cases e; exact mk_InvalidCommand
      rcases List.mem_cons.mp hx with e | hx
      · cases e; exact mk_InvalidDocument
      rcases List.mem_cons.mp hx with e | hx
      · cases e; exact mk_UnknownPiece
      rcases List.mem_cons.mp hx with e | hx
      · cases e; exact mk_UnknownName
      exact nomatch hx
    isi := isi_ok h1 h2 h3
  }
  have c_law_bag : Fc l.prog w K mg base 1 "_law_bag" S_law_bag := gfun_bag F_law_bag m_law_bag b_law_bag sc_law_bag (fun cdv A outer s H E hr => d_law_bag B cdv A outer s H E hr)
  have c_law_pull : Fc l.prog w K mg base 1 "_law_pull" S_law_pull := gfun_pull F_law_pull m_law_pull b_law_pull sc_law_pull (fun cdv A outer s H E hr => d_law_pull B cdv A outer s H E hr)
  have c_law_of : Fc l.prog w K mg base 2 "_law_of" S_law_of := gfun F_law_of m_law_of b_law_of sc_law_of len_law_of (fun cdv A outer s H E hr => d_law_of c_law_pull B cdv A outer s H E hr) pure_law_of
  have c_law_same : Fc l.prog w K mg base (3 + 1) "_law_same" (S_law_same 3) := rec_law_same F_law_same m_law_same b_law_same B 3
  have c_law_field : Fc l.prog w K mg base 1 "_law_field" (S_fieldX (He.ga K)) := gfun F_law_field m_law_field b_law_field sc_law_field (len_field _) (fun cdv A outer s H E hr => d_law_field o cdv A outer s H E hr) (pure_field _)
  have c_law_bases : Fc l.prog w K mg base 1 "_law_bases" (S_bases (He.ga K)) := gfun F_law_bases m_law_bases b_law_bases sc_law_bases (len_bases _) (fun cdv A outer s H E hr => d_law_bases o B cdv A outer s H E hr) (pure_bases _)
  have c_law_kinds : Fc l.prog w K mg base 1 "_law_kinds" (S_kinds (He.ga K)) := gfun F_law_kinds m_law_kinds b_law_kinds sc_law_kinds (len_kinds _) (fun cdv A outer s H E hr => d_law_kinds o B cdv A outer s H E hr) (pure_kinds _)
  exact law_of F_law sc_law rfl (fun cdv A outer s H E hr => d_law o c_law_bag c_law_pull c_law_of c_law_same c_law_bases c_law_kinds c_law_field B cdv A outer s H E hr) (pure_law _)
end K01
open PySem PySem.W PySem.Calls PyProof.Rows
set_option maxRecDepth 100000 in
set_option maxHeartbeats 0 in
theorem PySem.Challenge.cw_graincourse_k01_error_classes_holds : PySem.Challenge.rw_graincourse_k01_error_classes.Holds := by
  w_on; o_law
  refine HandSHeadRun.head_any (r := OpenLaw.row PySem.Challenge.rw_graincourse_k01_error_classes) (q := view (OpenLaw.row PySem.Challenge.rw_graincourse_k01_error_classes).prog [31]) (H := K01.plan.hook) (ob := K01.ob) (M := 20000) (loose := K01.loose) (d := HandSHeadRun.topDef (OpenLaw.row PySem.Challenge.rw_graincourse_k01_error_classes).prog 31) (kwd := []) K01.ob_eq
    (by kernel_rfl) (fun s => by kernel_rfl) K01.run (by kernel_rfl) (by kernel_rfl) (by kernel_rfl) (by rfl) (by first | assumption | decide +kernel) (by decide +kernel) ⟨rfl, rfl, rfl, rfl, rfl, by decide +kernel⟩ ?hw ?hc
  case hw => w_witness2
  case hc =>
    refine L2.walk_ofE (l := PySem.Challenge.rw_graincourse_k01_error_classes) (n := 63) (k := 5) (x := "_law_script") (CX := L2.CX0) rfl (by decide) (by kernel_rfl) ⟨rfl, by decide, by decide⟩ ?F (fun _ _ _ _ z => z)
    intro w mg fa h Y G hmg0
    obtain ⟨K, KX, c⟩ := Y
    have hmg : mg ("law" : PySem.Str) = some (.ref fa) := by
      have e : (HandSHeadRun.topDef (OpenLaw.row PySem.Challenge.rw_graincourse_k01_error_classes).prog 31).name = ("law" : PySem.Str) := by kernel_rfl
      rw [← e]
      exact hmg0
    obtain ⟨fd, hb, hF⟩ := K01.all_mk (l := PySem.Challenge.rw_graincourse_k01_error_classes) (w := w) KX G hmg c
    exact ⟨K, fd, Gh.spLaw K, KX, hb, fun H a ns hl _ hS => ⟨a, ns, rfl, hS, hl, fun _ => rfl⟩, hF⟩
