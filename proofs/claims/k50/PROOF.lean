import PyProof.Rows.All
import Wide.All
import OpenK.AllK
import Wide.FinOn
import HandS.ForMost
import HandS.ForExc
import KE.KDictKeyed
import HandS.WideBits
import HandS.TupAny
import HandS.Wide
import HandS.Deep
import HandS.IsInst
import HandS.Flow
import HandS.Conv
import HandS.Style
import HandS.ExcInit
import HandS.Zip
import KE.GoesMore
import KE.GoesEnum
import HandS.Lambda
import KE.KeyNested
import PyProof.Rows.MatchSeqLen
import HandS.TryOnly
import KE.KExcIs
import HandS.WordsExc
import HandS.EndBits
import HandS.ExcIs
import PySem.Challenge.RW_rootsreckon_k50_code_checked
set_option Elab.async false
set_option linter.all false
set_option maxRecDepth 100000
set_option maxHeartbeats 2000000
namespace Bv
open PySem PySem.Spec L2

abbrev D := PyData
def keyD : Key → D
  | .inl i => .int i
  | .inr x => .str x
mutual
def toKey : D → Option NestedKey
  | .none => some .none
  | .bool b => some (.num (if b = true then 1 else 0))
  | .int i => some (.num i)
  | .str x => some (.text x)
  | .tuple ds => (toKeys ds).map .tup
  | .list _ => none
  | .dict _ => none
def toKeys : List D → Option (List NestedKey)
  | [] => some []
  | d :: ds => match toKey d, toKeys ds with
    | some k, some ks => some (k :: ks)
    | _, _ => none
end
def entN (w : World) (x : NestedKey × Addr × Value) : DictEntry := ⟨x.1.hash w, .ref x.2.1, x.2.2⟩

section
variable (w : World) (K : PySem.W.Frag)
mutual
/-- the data d is read at v, in the part F of the heap that never changes -/
inductive Rep (F : Hp) : D → V → Prop
  | non : Rep F .none .non
  | bl (b : Bool) : Rep F (.bool b) (.bl b)
  | int (i : Int) : Rep F (.int i) (.int i)
  | str (x : Str) : Rep F (.str x) (.str x)
  | lst {a : Addr} {vs : List V} {ds : List D} : F a = some (.lst vs) → RepAll F ds vs → Rep F (.list ds) (.ref a)
  /-- a list that is only read: the script, a list of the module's -/
  | rol {a : Addr} {vs : List V} {ds : List D} : SqL K F a vs → RepAll F ds vs → Rep F (.dict [(.none, .tuple ds)]) (.ref a)
  | tup {a : Addr} {vs : List V} {ds : List D} : SqT K F a vs → RepAll F ds vs → Rep F (.tuple ds) (.ref a)
  | dct {a : Addr} {o : HO} {kvs : List (D × D)} : F a = some o → DRep F a o kvs → Rep F (.dict kvs) (.ref a)
inductive RepAll (F : Hp) : List D → List V → Prop
  | nil : RepAll F [] []
  | cons {d : D} {v : V} {ds : List D} {vs : List V} : Rep F d v → RepAll F ds vs → RepAll F (d :: ds) (v :: vs)
inductive DRep (F : Hp) : Addr → HO → List (D × D) → Prop
  | dk {a : Addr} {m : List (Key × V)} {kvs : List (D × D)} : DKs F m kvs → DRep F a (.dK m) kvs
  | nk {a : Addr} {ob : Obj} {es : Array DictEntry} {ep : Nat} {xs : List (NestedKey × Addr × Value)} {kvs : List (D × D)} : ob.ExactDict → ob.data = .dict es ep → es.toList = xs.map (entN w) →
      (xs.map (·.1)).Nodup → (a == sysModules) = false → xs.length ≤ sizeLine → DNs F xs kvs → DRep F a (.ext fun h => h.get? a = some ob) ((.bool true, .none) :: kvs)
inductive DKs (F : Hp) : List (Key × V) → List (D × D) → Prop
  | nil : DKs F [] []
  | cons {k : Key} {v : V} {d : D} {m : List (Key × V)} {kvs : List (D × D)} : Rep F d v → DKs F m kvs → DKs F ((k, v) :: m) ((keyD k, d) :: kvs)
inductive DNs (F : Hp) : List (NestedKey × Addr × Value) → List (D × D) → Prop
  | nil : DNs F [] []
  | cons {k : NestedKey} {q : Addr} {u : Value} {v : V} {kd d : D} {xs : List (NestedKey × Addr × Value)} {kvs : List (D × D)} : toKey kd = some k → k.depth ≤ 8 → Rep F kd (.ref q) → Rep F d v → RelV v u → DNs F xs kvs →
      DNs F ((k, q, u) :: xs) ((kd, d) :: kvs)
end
end

section
variable {w : World} {K : PySem.W.Frag} {F F' : Hp}
theorem SqL.mono (h : Same F F') {a : Addr} {xs : List V} (x : SqL K F a xs) : SqL K F' a xs := h.seq x
theorem SqT.mono (h : Same F F') {a : Addr} {xs : List V} (x : SqT K F a xs) : SqT K F' a xs := by
  rcases x with (x | ⟨o, x⟩) | x
  · exact .inl (.inl (h _ _ x))
  · exact .inl (.inr ⟨o, h _ _ x⟩)
  · exact .inr x
mutual
theorem Rep.mono (h : Same F F') : ∀ {d : D} {v : V}, Rep w K F d v → Rep w K F' d v
  | _, _, .non => .non
  | _, _, .bl b => .bl b
  | _, _, .int i => .int i
  | _, _, .str x => .str x
  | _, _, .lst q r => .lst (h _ _ q) (RepAll.mono h r)
  | _, _, .rol q r => .rol (SqL.mono h q) (RepAll.mono h r)
  | _, _, .tup q r => .tup (SqT.mono h q) (RepAll.mono h r)
  | _, _, .dct q r => .dct (h _ _ q) (DRep.mono h r)
theorem RepAll.mono (h : Same F F') : ∀ {ds : List D} {vs : List V}, RepAll w K F ds vs → RepAll w K F' ds vs
  | _, _, .nil => .nil
  | _, _, .cons a b => .cons (Rep.mono h a) (RepAll.mono h b)
theorem DRep.mono (h : Same F F') : ∀ {a : Addr} {o : HO} {kvs : List (D × D)}, DRep w K F a o kvs → DRep w K F' a o kvs
  | _, _, _, .dk r => .dk (DKs.mono h r)
  | _, _, _, .nk a b c d e f g => .nk a b c d e f (DNs.mono h g)
theorem DKs.mono (h : Same F F') : ∀ {m : List (Key × V)} {kvs : List (D × D)}, DKs w K F m kvs → DKs w K F' m kvs
  | _, _, .nil => .nil
  | _, _, .cons a b => .cons (Rep.mono h a) (DKs.mono h b)
theorem DNs.mono (h : Same F F') : ∀ {xs : List (NestedKey × Addr × Value)} {kvs : List (D × D)}, DNs w K F xs kvs → DNs w K F' xs kvs
  | _, _, .nil => .nil
  | _, _, .cons a e b c d r => .cons a e (Rep.mono h b) (Rep.mono h c) d (DNs.mono h r)
end
theorem RepAll.length : ∀ {ds : List D} {vs : List V}, RepAll w K F ds vs → ds.length = vs.length
  | _, _, .nil => rfl
  | _, _, .cons _ b => by simp [RepAll.length b]
theorem RepAll.get : ∀ {ds : List D} {vs : List V} {i : Nat} {d : D}, RepAll w K F ds vs → ds[i]? = some d → ∃ v, vs[i]? = some v ∧ Rep w K F d v
  | _, _, 0, _, .cons a _, e => by simp at e; subst e; exact ⟨_, rfl, a⟩
  | _, _, i + 1, _, .cons _ b, e => by
    obtain ⟨v, h1, h2⟩ := RepAll.get (i := i) b (by simpa using e)
    exact ⟨v, by simpa using h1, h2⟩
  | _, _, _, _, .nil, e => by simp at e
theorem RepAll.get' : ∀ {ds : List D} {vs : List V} {i : Nat} {v : V}, RepAll w K F ds vs → vs[i]? = some v → ∃ d, ds[i]? = some d ∧ Rep w K F d v
  | _, _, 0, _, .cons a _, e => by simp at e; subst e; exact ⟨_, rfl, a⟩
  | _, _, i + 1, _, .cons _ b, e => by
    obtain ⟨v, h1, h2⟩ := RepAll.get' (i := i) b (by simpa using e)
    exact ⟨v, by simpa using h1, h2⟩
  | _, _, _, _, .nil, e => by simp at e
theorem RepAll.append : ∀ {ds es : List D} {vs us : List V}, RepAll w K F ds vs → RepAll w K F es us → RepAll w K F (ds ++ es) (vs ++ us)
  | _, _, _, _, .nil, r => r
  | _, _, _, _, .cons a b, r => .cons a (RepAll.append b r)
theorem RepAll.take : ∀ {ds : List D} {vs : List V} (n : Nat), RepAll w K F ds vs → RepAll w K F (ds.take n) (vs.take n)
  | _, _, 0, _ => by simp; exact .nil
  | _, _, n + 1, .nil => .nil
  | _, _, n + 1, .cons a b => .cons a (RepAll.take n b)
theorem RepAll.drop : ∀ {ds : List D} {vs : List V} (n : Nat), RepAll w K F ds vs → RepAll w K F (ds.drop n) (vs.drop n)
  | _, _, 0, r => r
  | _, _, n + 1, .nil => .nil
  | _, _, n + 1, .cons _ b => RepAll.drop n b
theorem RepAll.set {d : D} {v : V} (r : Rep w K F d v) : ∀ {ds : List D} {vs : List V} (n : Nat), RepAll w K F ds vs → RepAll w K F (ds.set n d) (vs.set n v)
  | _, _, _, .nil => .nil
  | _, _, 0, .cons _ b => .cons r b
  | _, _, n + 1, .cons a b => .cons a (RepAll.set r n b)
theorem RepAll.reverse : ∀ {ds : List D} {vs : List V}, RepAll w K F ds vs → RepAll w K F ds.reverse vs.reverse
  | _, _, .nil => .nil
  | _, _, .cons a b => by
    rw [List.reverse_cons, List.reverse_cons]
    exact RepAll.append (RepAll.reverse b) (.cons a .nil)
theorem RepAll.dropLast {ds : List D} {vs : List V} (r : RepAll w K F ds vs) : RepAll w K F ds.dropLast vs.dropLast := by
  rw [List.dropLast_eq_take, List.dropLast_eq_take, r.length]
  exact r.take _
theorem RepAll.replicate {d : D} {v : V} (r : Rep w K F d v) : ∀ n : Nat, RepAll w K F (List.replicate n d) (List.replicate n v)
  | 0 => .nil
  | n + 1 => .cons r (RepAll.replicate r n)
/-! data without dicts, for the library's == -/
mutual
theorem Rep.dp {H : Hp} (h : Same F H) : ∀ {d : D} {v : V}, Rep w K F d v → d.canLay0 = true → Dp K H v d
  | _, _, .non, _ => .non
  | _, _, .bl b, _ => .bl b
  | _, _, .int i, _ => .int i
  | _, _, .str x, _ => .str x
  | _, _, .lst q r, c => .lst (SqL.of (h _ _ q)) (RepAll.dp h r (by simpa [PyData.canLay0] using c))
  | _, _, .rol q r, c => by simp [PyData.canLay0] at c
  | _, _, .tup q r, c => .tup (SqT.mono h q) (RepAll.dp h r (by simpa [PyData.canLay0] using c))
  | _, _, .dct q r, c => by simp [PyData.canLay0] at c
theorem RepAll.dp {H : Hp} (h : Same F H) : ∀ {ds : List D} {vs : List V}, RepAll w K F ds vs → PyData.canLayAll0 ds = true → DpAll K H vs ds
  | _, _, .nil, _ => .nil
  | _, _, .cons a b, c => by
    simp [PyData.canLayAll0] at c
    exact .cons (Rep.dp h a c.1) (RepAll.dp h b c.2)
end
end

inductive Fl where
  | fz (d : D) | ow (d : D)
inductive Sl where
  | un | fz (d : D) | ow (d : D) | ob (c : Nat) (fs : List Fl)
abbrev En := List Sl
/-- what an expression hands on: frozen data, a fresh list or dict, a fresh object, the owned thing in a slot, in an object's field -/
inductive R where
  | val (d : D) | fr (d : D) | ob (c : Nat) (fs : List Fl) | pl (i : Nat) | pf (i f : Nat)

/-- the program's tables -/
structure Mx where
  w : World
  K : PySem.W.Frag
  cl : Nat → Addr
  fn : Nat → List Str
  xc : Nat → Addr
  xf : Nat → Str

section
variable (M : Mx)
abbrev Mx.Rep (F : Hp) : D → V → Prop := Bv.Rep M.w M.K F
abbrev Mx.RepAll (F : Hp) : List D → List V → Prop := Bv.RepAll M.w M.K F
abbrev Mx.DRep (F : Hp) : Addr → HO → List (D × D) → Prop := Bv.DRep M.w M.K F
/-- an owned list or dict -/
def OwD (F H : Hp) (a : Addr) : D → Prop
  | .list ds => ∃ vs, H a = some (.lst vs) ∧ M.RepAll F ds vs
  | .dict kvs => ∃ o, H a = some o ∧ M.DRep F a o kvs
  | _ => False
inductive FRep (F H : Hp) : List (Str × V) → List Str → List Fl → List Addr → Prop
  | nil {ns : List Str} : FRep F H [] ns [] []
  | fz {x : Str} {v : V} {d : D} {fs : List (Str × V)} {ns : List Str} {gs : List Fl} {L : List Addr} : M.Rep F d v → FRep F H fs ns gs L → FRep F H ((x, v) :: fs) (x :: ns) (.fz d :: gs) L
  | ow {x : Str} {b : Addr} {d : D} {fs : List (Str × V)} {ns : List Str} {gs : List Fl} {L : List Addr} : OwD M F H b d → FRep F H fs ns gs L → FRep F H ((x, .ref b) :: fs) (x :: ns) (.ow d :: gs) (b :: L)
abbrev Re := Option V × Sl
inductive Each (F H : Hp) : Re → List Addr → Prop
  | un {v : Option V} : Each F H (v, .un) []
  | fz {v : V} {d : D} : M.Rep F d v → Each F H (some v, .fz d) []
  | ow {a : Addr} {d : D} : OwD M F H a d → Each F H (some (.ref a), .ow d) [a]
  | ob {a dx : Addr} {c : Nat} {fs : List Fl} {fvs : List (Str × V)} {L : List Addr} : H a = some (.ins (M.cl c) dx fvs) → FRep M F H fvs (M.fn c) fs L → Each F H (some (.ref a), .ob c fs) (a :: L)
inductive Hold (F H : Hp) : List Re → List Addr → Prop
  | nil : Hold F H [] []
  | cons {p : Re} {rs : List Re} {L1 L2 : List Addr} : Each M F H p L1 → Hold F H rs L2 → Hold F H (p :: rs) (L1 ++ L2)
structure Holds (F H : Hp) (rs : List Re) : Prop where
  sub : Same F H
  ex : ∃ L, Hold M F H rs L ∧ L.Nodup ∧ ∀ a ∈ L, F a = none
end

section
variable {M : Mx} {F F' H H' : Hp} {rs rs' T : List Re} {p q : Re} {L : List Addr} {a : Addr}
theorem same_upd_new {H : Hp} {p : Addr} {o : HO} (h : H p = none) : Same H (upd H p o) := fun b u e => by
  rw [upd_ne (ne_of_none e h)]; exact e
theorem same_upd_both {F H : Hp} {p : Addr} {o : HO} (h : Same F H) : Same (upd F p o) (upd H p o) := fun b u e => by
  by_cases hb : b = p
  · subst hb; rw [upd_same] at e ⊢; exact e
  · rw [upd_ne hb] at e ⊢; exact h b u e
theorem OwD.at {d : D} (hF : Same F F') (hH : H' a = H a) (x : OwD M F H a d) : OwD M F' H' a d := by
  cases d with
  | list ds => obtain ⟨vs, e, r⟩ := x; exact ⟨vs, hH.trans e, RepAll.mono hF r⟩
  | dict kvs => obtain ⟨o, e, r⟩ := x; exact ⟨o, hH.trans e, DRep.mono hF r⟩
  | _ => exact False.elim x
theorem OwD.there {d : D} (x : OwD M F H a d) : ∃ o, H a = some o := by
  cases d with
  | list ds => obtain ⟨vs, e, r⟩ := x; exact ⟨_, e⟩
  | dict kvs => obtain ⟨o, e, r⟩ := x; exact ⟨o, e⟩
  | _ => exact False.elim x
theorem FRep.at (hF : Same F F') : ∀ {fs : List (Str × V)} {ns : List Str} {gs : List Fl} {L : List Addr}, (∀ b ∈ L, H' b = H b) → FRep M F H fs ns gs L → FRep M F' H' fs ns gs L
  | _, _, _, _, _, .nil => .nil
  | _, _, _, _, h, .fz r t => .fz (Rep.mono hF r) (FRep.at hF h t)
  | _, _, _, _, h, .ow r t => .ow (r.at hF (h _ List.mem_cons_self)) (FRep.at hF (fun b hb => h b (List.mem_cons_of_mem _ hb)) t)
theorem FRep.there : ∀ {fs : List (Str × V)} {ns : List Str} {gs : List Fl} {L : List Addr}, FRep M F H fs ns gs L → ∀ b ∈ L, ∃ o, H b = some o
  | _, _, _, _, .nil, _, hb => nomatch hb
  | _, _, _, _, .fz r t, b, hb => FRep.there t b hb
  | _, _, _, _, .ow r t, b, hb => by
    rcases List.mem_cons.mp hb with rfl | hb
    · exact r.there
    · exact FRep.there t b hb
theorem Each.at (hF : Same F F') {L : List Addr} (h : ∀ b ∈ L, H' b = H b) (x : Each M F H p L) : Each M F' H' p L := by
  cases x with
  | un => exact .un
  | fz r => exact .fz (Rep.mono hF r)
  | ow r => exact .ow (r.at hF (h _ List.mem_cons_self))
  | ob e r => exact .ob ((h _ List.mem_cons_self).trans e) (r.at hF fun b hb => h b (List.mem_cons_of_mem _ hb))
theorem Each.there (x : Each M F H p L) : ∀ b ∈ L, ∃ o, H b = some o := by
  cases x with
  | un => exact fun b hb => nomatch hb
  | fz r => exact fun b hb => nomatch hb
  | ow r =>
    intro b hb
    rcases List.mem_cons.mp hb with rfl | hb
    · exact r.there
    · exact nomatch hb
  | ob e r =>
      intro b hb
      rcases List.mem_cons.mp hb with rfl | hb
      · exact ⟨_, e⟩
      · exact r.there b hb
theorem Hold.at (hF : Same F F') : ∀ {rs : List Re} {L : List Addr}, (∀ b ∈ L, H' b = H b) → Hold M F H rs L → Hold M F' H' rs L
  | _, _, _, .nil => .nil
  | _, _, h, .cons a b => .cons (a.at hF fun b hb => h b (List.mem_append_left _ hb)) (Hold.at hF (fun b hb => h b (List.mem_append_right _ hb)) b)
theorem Hold.there : ∀ {rs : List Re} {L : List Addr}, Hold M F H rs L → ∀ b ∈ L, ∃ o, H b = some o
  | _, _, .nil, _, hb => nomatch hb
  | _, _, .cons a r, b, hb => (List.mem_append.mp hb).elim (a.there b) (Hold.there r b)
theorem Hold.perm {rs rs' : List Re} (h : rs.Perm rs') : ∀ {L : List Addr}, Hold M F H rs L → ∃ L', Hold M F H rs' L' ∧ L.Perm L' := by
  induction h with
  | nil => intro L x; exact ⟨L, x, .refl _⟩
  | cons p _ ih =>
    intro L x
    cases x with
    | cons a b =>
      obtain ⟨L', h1, h2⟩ := ih b
      exact ⟨_, .cons a h1, List.Perm.append_left _ h2⟩
  | swap p q l =>
    intro L x
    cases x with
    | cons a b =>
      cases b with
      | cons b c =>
        refine ⟨_, .cons b (.cons a c), ?_⟩
        rw [← List.append_assoc, ← List.append_assoc]
        exact List.Perm.append_right _ List.perm_append_comm
  | trans _ _ ih1 ih2 =>
    intro L x
    obtain ⟨L1, h1, e1⟩ := ih1 x
    obtain ⟨L2, h2, e2⟩ := ih2 h1
    exact ⟨L2, h2, e1.trans e2⟩
theorem Holds.perm (x : Holds M F H rs) (h : rs.Perm rs') : Holds M F H rs' := by
  obtain ⟨s, L, a, b, c⟩ := x
  obtain ⟨L', a', e⟩ := a.perm h
  exact ⟨s, L', a', e.nodup_iff.mp b, fun d hd => c d (e.mem_iff.mpr hd)⟩
theorem Holds.drop (x : Holds M F H (p :: rs)) : Holds M F H rs := by
  obtain ⟨s, L, a, b, c⟩ := x
  cases a with
  | cons a1 a2 => exact ⟨s, _, a2, (List.nodup_append.mp b).2.1, fun d hd => c d (List.mem_append_right _ hd)⟩
theorem Holds.dropA : ∀ {xs : List Re}, Holds M F H (xs ++ rs) → Holds M F H rs
  | [], x => x
  | _ :: xs, x => Holds.dropA (xs := xs) x.drop
theorem Holds.head (x : Holds M F H (p :: rs)) : ∃ L, Each M F H p L ∧ ∀ a ∈ L, F a = none := by
  obtain ⟨s, L, a, b, c⟩ := x
  cases a with
  | cons a1 a2 => exact ⟨_, a1, fun d hd => c d (List.mem_append_left _ hd)⟩
theorem Holds.addE (x : Holds M F H rs) (e : Each M F H p []) : Holds M F H (p :: rs) := by
  obtain ⟨s, L, a, b, c⟩ := x
  exact ⟨s, _, .cons e a, by simpa using b, by simpa using c⟩
theorem Holds.addFz {d : D} {v : V} (x : Holds M F H rs) (r : M.Rep F d v) : Holds M F H ((some v, .fz d) :: rs) := x.addE (.fz r)
theorem Holds.addUn {v : Option V} (x : Holds M F H rs) : Holds M F H ((v, .un) :: rs) := x.addE .un
theorem Holds.rep {d : D} {v : Option V} (x : Holds M F H ((v, .fz d) :: rs)) : ∃ v', v = some v' ∧ M.Rep F d v' := by
  obtain ⟨L, e, _⟩ := x.head
  cases e with
  | fz r => exact ⟨_, rfl, r⟩
theorem Holds.own {d : D} {v : Option V} (x : Holds M F H ((v, .ow d) :: rs)) : ∃ a, v = some (.ref a) ∧ OwD M F H a d ∧ F a = none := by
  obtain ⟨L, e, h⟩ := x.head
  cases e with
  | ow r => exact ⟨_, rfl, r, h _ List.mem_cons_self⟩
/-- a new object that nobody else has, frozen at once -/
theorem Holds.newFz {o : HO} (x : Holds M F H rs) (hp : H a = none) : Holds M (upd F a o) (upd H a o) rs := by
  obtain ⟨s, L, b, c, d⟩ := x
  have ne : ∀ y ∈ L, y ≠ a := fun y hy => by
    obtain ⟨u, e⟩ := b.there y hy
    exact ne_of_none e hp
  have hF : F a = none := Same.free s hp
  exact ⟨same_upd_both s, L, b.at (same_upd_new hF) fun y hy => upd_ne (ne y hy), c, fun y hy => by rw [upd_ne (ne y hy)]; exact d y hy⟩
theorem Holds.newOw {o : HO} {d : D} (x : Holds M F H rs) (hp : H a = none) (r : OwD M F (upd H a o) a d) : Holds M F (upd H a o) ((some (.ref a), .ow d) :: rs) := by
  obtain ⟨s, L, b, c, e⟩ := x
  have ne : ∀ y ∈ L, y ≠ a := fun y hy => by
    obtain ⟨u, e⟩ := b.there y hy
    exact ne_of_none e hp
  refine ⟨s.trans (same_upd_new hp), [a] ++ L, .cons (.ow r) (b.at (Same.refl F) fun y hy => upd_ne (ne y hy)), ?_, fun y hy => ?_⟩
  · rw [List.singleton_append, List.nodup_cons]
    exact ⟨fun h => ne a h rfl, c⟩
  · rcases List.mem_cons.mp hy with rfl | hy
    · exact Same.free s hp
    · exact e y hy
theorem Holds.write {o : HO} {d d' : D} (x : Holds M F H ((some (.ref a), .ow d) :: rs)) (r : OwD M F (upd H a o) a d') : Holds M F (upd H a o) ((some (.ref a), .ow d') :: rs) := by
  obtain ⟨s, L, b, c, e⟩ := x
  cases b with
  | cons b1 b2 =>
    rename_i L2
    cases b1 with
    | ow r0 =>
      have nin : a ∉ L2 := (List.nodup_cons.mp c).1
      have hF : F a = none := e a List.mem_cons_self
      refine ⟨fun (y : Addr) (u : HO) (z : F y = some u) => ?_, [a] ++ L2, .cons (.ow r) (b2.at (Same.refl F) fun y hy => upd_ne fun z => nin (z ▸ hy)), c, e⟩
      rw [upd_ne (a := a) fun q => by rw [q, hF] at z; cases z]
      exact s y u z
end
end Bv
set_option maxHeartbeats 2000000
namespace Bv
open PySem PySem.Spec L2

section
variable {M : Mx} {F F' H H' : Hp} {rs rs' T : List Re} {p q : Re} {L : List Addr} {a : Addr}
theorem Hold.sublist {rs rs' : List Re} (h : rs'.Sublist rs) : ∀ {L : List Addr}, Hold M F H rs L → ∃ L', Hold M F H rs' L' ∧ L'.Sublist L := by
  induction h with
  | slnil => intro L x; exact ⟨L, x, List.Sublist.refl _⟩
  | cons p _ ih =>
    intro L x
    cases x with
    | cons a b =>
      obtain ⟨L', h1, h2⟩ := ih b
      exact ⟨L', h1, h2.trans (List.sublist_append_right _ _)⟩
  | cons_cons p _ ih =>
    intro L x
    cases x with
    | cons a b =>
      obtain ⟨L', h1, h2⟩ := ih b
      exact ⟨_, .cons a h1, List.Sublist.append_left h2 _⟩
theorem Holds.sl (x : Holds M F H rs) (h : rs'.Sublist rs) : Holds M F H rs' := by
  obtain ⟨s, L, a, b, c⟩ := x
  obtain ⟨L', a', e⟩ := a.sublist h
  exact ⟨s, L', a', e.nodup b, fun d hd => c d (e.mem hd)⟩
theorem Holds.mem (x : Holds M F H rs) (h : p ∈ rs) : ∃ L, Each M F H p L ∧ ∀ a ∈ L, F a = none := by
  obtain ⟨l, r, rfl⟩ := List.append_of_mem h
  exact (x.perm (List.perm_middle)).head
theorem Holds.freeze {d : D} (x : Holds M F H ((some (.ref a), .ow d) :: rs)) : ∃ F', Same F F' ∧ M.Rep F' d (.ref a) ∧ Holds M F' H rs := by
  obtain ⟨s, L, b, c, e⟩ := x
  cases b with
  | cons b1 b2 =>
    rename_i L2
    cases b1 with
    | ow r0 =>
      have nin : a ∉ L2 := (List.nodup_cons.mp c).1
      have hF : F a = none := e a List.mem_cons_self
      obtain ⟨o, ho⟩ := r0.there
      refine ⟨upd F a o, same_upd_new hF, ?_, fun y u z => ?_, L2, b2.at (same_upd_new hF) fun y hy => rfl, (List.nodup_cons.mp c).2, fun y hy => ?_⟩
      · cases d with
        | list ds =>
          obtain ⟨vs, h1, h2⟩ := r0
          rw [ho] at h1; cases h1
          exact .lst upd_same (RepAll.mono (same_upd_new hF) h2)
        | dict kvs =>
          obtain ⟨o', h1, h2⟩ := r0
          rw [ho] at h1; cases h1
          exact .dct upd_same (DRep.mono (same_upd_new hF) h2)
        | _ => exact False.elim r0
      · by_cases hy : y = a
        · subst hy; rw [upd_same] at z; rw [ho]; exact z
        · rw [upd_ne hy] at z; exact s y u z
      · have hya : y ≠ a := fun z => by rw [z] at hy; exact nin hy
        rw [upd_ne hya]
        exact e y (List.mem_append_right _ hy)

/-! ### views -/
def Vw (M : Mx) (F H : Hp) (d : D) (v : V) : Prop := M.Rep F d v ∨ ∃ a, v = .ref a ∧ OwD M F H a d
theorem Vw.of_fz {d : D} {v : Option V} (x : Holds M F H rs) (h : (v, Sl.fz d) ∈ rs) : ∃ v', v = some v' ∧ Vw M F H d v' := by
  obtain ⟨L, e, _⟩ := x.mem h
  cases e with
  | fz r => exact ⟨_, rfl, .inl r⟩
theorem Vw.of_ow {d : D} {v : Option V} (x : Holds M F H rs) (h : (v, Sl.ow d) ∈ rs) : ∃ v', v = some v' ∧ Vw M F H d v' := by
  obtain ⟨L, e, _⟩ := x.mem h
  cases e with
  | ow r => exact ⟨_, rfl, .inr ⟨_, rfl, r⟩⟩
theorem Vw.int {i : Int} {v : V} (x : Vw M F H (.int i) v) : v = .int i := by
  rcases x with x | ⟨a, rfl, x⟩
  · cases x; rfl
  · exact x.elim
theorem Vw.bool {b : Bool} {v : V} (x : Vw M F H (.bool b) v) : v = .bl b := by
  rcases x with x | ⟨a, rfl, x⟩
  · cases x; rfl
  · exact x.elim
theorem Vw.none {v : V} (x : Vw M F H .none v) : v = .non := by
  rcases x with x | ⟨a, rfl, x⟩
  · cases x; rfl
  · exact x.elim
theorem Vw.str {s : Str} {v : V} (x : Vw M F H (.str s) v) : v = .str s := by
  rcases x with x | ⟨a, rfl, x⟩
  · cases x; rfl
  · exact x.elim
theorem Vw.tup {ds : List D} {v : V} (s : Same F H) (x : Vw M F H (.tuple ds) v) : ∃ a vs, v = .ref a ∧ SqT M.K H a vs ∧ M.RepAll F ds vs := by
  rcases x with x | ⟨a, rfl, x⟩
  · cases x with
    | tup q r => exact ⟨_, _, rfl, SqT.mono s q, r⟩
  · exact x.elim
theorem Vw.tupR {ds : List D} {v : V} (x : Vw M F H (.tuple ds) v) : M.Rep F (.tuple ds) v := by
  rcases x with x | ⟨a, rfl, x⟩
  · exact x
  · exact x.elim
theorem Vw.lst {ds : List D} {v : V} (s : Same F H) (x : Vw M F H (.list ds) v) : ∃ a vs, v = .ref a ∧ H a = some (.lst vs) ∧ M.RepAll F ds vs := by
  rcases x with x | ⟨a, rfl, x⟩
  · cases x with
    | lst q r => exact ⟨_, _, rfl, s _ _ q, r⟩
  · obtain ⟨vs, h1, h2⟩ := x
    exact ⟨_, vs, rfl, h1, h2⟩
theorem Vw.rol {ds : List D} {v : V} (s : Same F H) (x : Vw M F H (.dict [(.none, .tuple ds)]) v) : ∃ a vs, v = .ref a ∧ SqL M.K H a vs ∧ M.RepAll F ds vs := by
  have nd : ∀ {a : Addr} {o : HO}, ¬ M.DRep F a o [(.none, .tuple ds)] := fun {a o} z => by
    generalize e : [((PyData.none : D), (PyData.tuple ds : D))] = l at z
    cases z with
    | dk y =>
      cases y with
      | nil => cases e
      | @cons k v d m kvs y1 y2 =>
        cases k <;> cases e
    | nk _ _ _ _ _ _ y => cases e
  rcases x with x | ⟨a, rfl, x⟩
  · cases x with
    | rol q r => exact ⟨_, _, rfl, SqL.mono s q, r⟩
    | dct q r => exact (nd r).elim
  · obtain ⟨o, _, r⟩ := x
    exact (nd r).elim
theorem Vw.dp {d : D} {v : V} (s : Same F H) (x : Vw M F H d v) (c : d.canLay0 = true) : Dp M.K H v d := by
  rcases x with x | ⟨a, rfl, x⟩
  · exact Rep.dp s x c
  · cases d with
    | list ds =>
      obtain ⟨vs, h1, h2⟩ := x
      exact .lst (SqL.of h1) (RepAll.dp s h2 (by simpa [PyData.canLay0] using c))
    | dict kvs => simp [PyData.canLay0] at c
    | _ => exact x.elim
theorem Vw.mono {d : D} {v : V} (hF : Same F F') (hH : Same H H') (x : Vw M F H d v) : Vw M F' H' d v := by
  rcases x with x | ⟨a, rfl, x⟩
  · exact .inl (Rep.mono hF x)
  · refine .inr ⟨a, rfl, ?_⟩
    obtain ⟨o, ho⟩ := x.there
    exact x.at hF ((hH _ _ ho).trans ho.symm)
end

/-! ### environments -/
def gt : En → Nat → Sl
  | [], _ => .un
  | x :: _, 0 => x
  | _ :: r, i + 1 => gt r i
def gf : List Fl → Nat → Option D
  | [], _ => none
  | .fz d :: _, 0 => some d
  | .ow d :: _, 0 => some d
  | _ :: r, i + 1 => gf r i
theorem gt_get : ∀ {e : En} {i : Nat}, i < e.length → e[i]? = some (gt e i)
  | _ :: _, 0, _ => rfl
  | _ :: r, i + 1, h => by
    have := gt_get (e := r) (i := i) (by simpa using h)
    simpa [gt] using this
  | [], _, h => by simp at h
theorem gt_lt : ∀ {e : En} {i : Nat}, gt e i ≠ .un → i < e.length
  | _ :: _, 0, _ => by simp
  | _ :: r, i + 1, h => by
    have := gt_lt (e := r) (i := i) h
    simpa using this
  | [], _, h => (h rfl).elim
/-- one slot in hand, the others as they are -/
theorem focus : ∀ {σ : St} {e : En} {i : Nat}, σ.length = e.length → i < e.length → ∃ v rest, σ[i]? = some v ∧ (σ.zip e).Perm ((v, gt e i) :: rest) ∧ ∀ v' s', ((σ.set i v').zip (e.set i s')).Perm ((v', s') :: rest)
  | v :: σ, x :: e, 0, _, _ => ⟨v, σ.zip e, rfl, .refl _, fun _ _ => .refl _⟩
  | u :: σ, x :: e, i + 1, h, hi => by
    obtain ⟨v, rest, h1, h2, h3⟩ := focus (σ := σ) (e := e) (i := i) (by simpa using h) (by simpa using hi)
    refine ⟨v, (u, x) :: rest, by simpa using h1, ?_, fun v' s' => ?_⟩
    · exact (List.Perm.cons _ h2).trans (List.Perm.swap _ _ _)
    · exact (List.Perm.cons _ (h3 v' s')).trans (List.Perm.swap _ _ _)
  | [], _ :: _, _, h, _ => by simp at h
  | _, [], _, _, hi => by simp at hi
theorem focus1 {σ : St} {e : En} {i : Nat} (h : σ.length = e.length) (hi : i < e.length) : ∃ v rest, σ[i]? = some v ∧ (σ.zip e).Perm ((v, gt e i) :: rest) ∧ ∀ s', (σ.zip (e.set i s')).Perm ((v, s') :: rest) := by
  obtain ⟨v, rest, h1, h2, h3⟩ := focus h hi
  refine ⟨v, rest, h1, h2, fun s' => ?_⟩
  have := h3 v s'
  have e1 : σ.set i v = σ := by
    apply List.ext_getElem?
    intro j
    by_cases hj : i = j
    · subst hj
      rw [List.getElem?_set_self (by have := (List.getElem?_eq_some_iff.mp h1).1; omega), h1]
    · rw [List.getElem?_set_ne hj]
  rwa [e1] at this
theorem mem_zip_gt {σ : St} {e : En} {i : Nat} {v : Option V} (h : σ.length = e.length) (hi : σ[i]? = some v) : (v, gt e i) ∈ σ.zip e := by
  have hl : i < e.length := by
    have := (List.getElem?_eq_some_iff.mp hi).1
    omega
  obtain ⟨v', rest, h1, h2, _⟩ := focus1 h hl
  rw [hi] at h1; cases h1
  exact h2.mem_iff.mpr List.mem_cons_self

/-! ### what an expression gives -/
def rd : R → En → Option D
  | .val d, _ => some d
  | .fr d, _ => some d
  | .ob _ _, _ => none
  | .pl i, e => match gt e i with
    | .fz d => some d
    | .ow d => some d
    | _ => none
  | .pf i f, e => match gt e i with
    | .ob _ fs => gf fs f
    | _ => none
/-- .. of an operand behind which another one was reckoned -/
def rdI : R → En → Option D
  | .pf _ _, _ => none
  | r, e => rd r e
inductive Oe where
  | ok (r : R) (e : En) | ex (c : Nat) (d : D) (e : En) | bad
inductive Ot where
  | ok (b : Bool) (e : En) | ex (c : Nat) (d : D) (e : En) | bad
inductive Oa where
  | ok (r : List R) (e : En) | ex (c : Nat) (d : D) (e : En) | bad
def Oe.bind : Oe → (R → En → Oe) → Oe
  | .ok r e, k => k r e
  | .ex c d e, _ => .ex c d e
  | .bad, _ => .bad
def Oe.bindT : Oe → (R → En → Ot) → Ot
  | .ok r e, k => k r e
  | .ex c d e, _ => .ex c d e
  | .bad, _ => .bad
def Oe.bindA : Oe → (R → En → Oa) → Oa
  | .ok r e, k => k r e
  | .ex c d e, _ => .ex c d e
  | .bad, _ => .bad
def Oa.bindA : Oa → (List R → En → Oa) → Oa
  | .ok r e, k => k r e
  | .ex c d e, _ => .ex c d e
  | .bad, _ => .bad
def Oa.bind : Oa → (List R → En → Oe) → Oe
  | .ok r e, k => k r e
  | .ex c d e, _ => .ex c d e
  | .bad, _ => .bad
def Ot.bind : Ot → (Bool → En → Oe) → Oe
  | .ok r e, k => k r e
  | .ex c d e, _ => .ex c d e
  | .bad, _ => .bad
def Ot.bindT : Ot → (Bool → En → Ot) → Ot
  | .ok r e, k => k r e
  | .ex c d e, _ => .ex c d e
  | .bad, _ => .bad
def resT : R → V → List Re
  | .val d, v => [(some v, .fz d)]
  | .fr d, v => [(some v, .ow d)]
  | .ob c fs, v => [(some v, .ob c fs)]
  | .pl _, _ => []
  | .pf _ _, _ => []
def resP (σ : St) (H : Hp) : R → V → Prop
  | .pl i, v => σ[i]? = some (some v)
  | .pf i f, v => ∃ a dx C fvs x, σ[i]? = some (some (.ref a)) ∧ H a = some (.ins C dx fvs) ∧ fvs[f]? = some (x, v)
  | _, _ => True
def R.plain : R → Bool
  | .val _ => true
  | .fr _ => true
  | _ => false
theorem resP_plain {σ : St} {H : Hp} {r : R} {v : V} (h : r.plain = true) : resP σ H r v := by
  cases r <;> first | trivial | simp [R.plain] at h
structure HoldsR (M : Mx) (F H : Hp) (σ : St) (e : En) (T : List Re) (r : R) (v : V) : Prop where
  h : Holds M F H (resT r v ++ (σ.zip e ++ T))
  len : σ.length = e.length
  at_ : resP σ H r v
def PostE (M : Mx) (W : WX) (σ : St) (T : List Re) (Q : VK) : Oe → Prop
  | .ok r e => ∀ F H v, HoldsR M F H σ e T r v → Q v H
  | .ex c d e => ∀ F H dx vx, Holds M F H (σ.zip e ++ T) → σ.length = e.length → H dx = some (.xd [(M.xf c, vx)]) → M.Rep F d vx → W (.ref (M.xc c)) (some dx) σ H
  | .bad => False
def tE (M : Mx) (W : WX) (f : En → Oe) : TE := fun σ H Q => ∃ F e T, Holds M F H (σ.zip e ++ T) ∧ σ.length = e.length ∧ PostE M W σ T Q (f e)
def SE (M : Mx) (X : Cx) (W : WX) (x : Expr) (f : En → Oe) : Prop := PE X x (tE M W f)
def tQ (M : Mx) (f : En → Option R) : TE := fun σ H Q => ∃ F e T r, Holds M F H (σ.zip e ++ T) ∧ σ.length = e.length ∧ f e = some r ∧ ∀ F' H' v, Same F F' → Same H H' → HoldsR M F' H' σ e T r v → Q v H'
/-- a quiet expression: nothing that was there changes -/
def SQ (M : Mx) (X : Cx) (x : Expr) (f : En → Option R) : Prop := PE X x (tQ M f)
theorem PE.weak {X : Cx} {e : Expr} {t t' : TE} (h : PE X e t) (k : ∀ σ H Q, t' σ H Q → t σ H Q) : PE X e t' := ⟨fun pins s σ H Q I h' => h.run pins s σ H Q I (k σ H Q h')⟩
theorem PT.weak {X : Cx} {e : Expr} {t t' : TT} (h : PT X e t) (k : ∀ σ H Q, t' σ H Q → t σ H Q) : PT X e t' := ⟨fun pins s σ H Q I h' => h.run pins s σ H Q I (k σ H Q h')⟩
theorem PS.weak {X : Cx} {e : Stmt} {t t' : TS} (h : PS X e t) (k : ∀ D σ H, t' D σ H → t D σ H) : PS X e t' := ⟨fun pins s σ H D I h' => h.run pins s σ H D I (k D σ H h')⟩
theorem PSs.weak {X : Cx} {e : List Stmt} {t t' : TS} (h : PSs X e t) (k : ∀ D σ H, t' D σ H → t D σ H) : PSs X e t' := ⟨fun pins s σ H D I h' => h.run pins s σ H D I (k D σ H h')⟩
theorem PA.weak {X : Cx} {e : List Expr} {t t' : TA} (h : PA X e t) (k : ∀ σ H Q, t' σ H Q → t σ H Q) : PA X e t' := ⟨fun p pins s σ H Q I h' => h.run p pins s σ H Q I (k σ H Q h')⟩
def quiet (f : En → Option R) : En → Oe := fun e => match f e with
  | some r => .ok r e
  | none => .bad
theorem SQ.se {M : Mx} {X : Cx} {W : WX} {x : Expr} {f : En → Option R} (h : SQ M X x f) : SE M X W x (quiet f) := by
  refine PE.weak h fun σ H Q ⟨F, e, T, h1, h2, h3⟩ => ?_
  unfold quiet at h3
  cases hf : f e with
  | none => rw [hf] at h3; exact h3.elim
  | some r => rw [hf] at h3; exact ⟨F, e, T, r, h1, h2, hf, fun F' H' v _ _ q => h3 F' H' v q⟩

section
variable {M : Mx} {F F' H H' : Hp} {σ : St} {e : En} {T : List Re} {r : R} {v : V}
/-- what is read of a result -/
theorem HoldsR.vw (x : HoldsR M F H σ e T r v) {d : D} (h : rd r e = some d) : Vw M F H d v := by
  obtain ⟨a, b, c⟩ := x
  cases r with
  | val d' =>
    cases h
    obtain ⟨v', e1, e2⟩ := Vw.of_fz a (v := some v) (d := d) (by simp [resT])
    cases e1; exact e2
  | fr d' =>
    cases h
    obtain ⟨v', e1, e2⟩ := Vw.of_ow a (v := some v) (d := d) (by simp [resT])
    cases e1; exact e2
  | ob c fs => cases h
  | pl i =>
    have m : (some v, gt e i) ∈ σ.zip e := mem_zip_gt b c
    simp only [rd] at h
    cases hg : gt e i with
    | un => rw [hg] at h; cases h
    | ob _ _ => rw [hg] at h; cases h
    | fz d' =>
      rw [hg] at h m; cases h
      obtain ⟨v', e1, e2⟩ := Vw.of_fz a (v := some v) (d := d) (by simp [resT, m])
      cases e1; exact e2
    | ow d' =>
      rw [hg] at h m; cases h
      obtain ⟨v', e1, e2⟩ := Vw.of_ow a (v := some v) (d := d) (by simp [resT, m])
      cases e1; exact e2
  | pf i f =>
    obtain ⟨ad, dx, C, fvs, y, h1, h2, h3⟩ := c
    have m : (some (V.ref ad), gt e i) ∈ σ.zip e := mem_zip_gt b h1
    simp only [rd] at h
    cases hg : gt e i with
    | un => rw [hg] at h; cases h
    | fz _ => rw [hg] at h; cases h
    | ow _ => rw [hg] at h; cases h
    | ob c fs =>
      rw [hg] at h m
      obtain ⟨L, e1, e2⟩ := a.mem (p := (some (V.ref ad), Sl.ob c fs)) (by simp [resT, m])
      cases e1 with
      | ob k1 k2 =>
        rename_i dx' fvs' L'
        rw [h2] at k1; cases k1
        clear h1 h2 m hg e2
        have go : ∀ {fvs : List (Str × V)} {ns : List Str} {gs : List Fl} {L : List Addr} (f : Nat), FRep M F H fvs ns gs L → fvs[f]? = some (y, v) → gf gs f = some d → Vw M F H d v := by
          intro fvs ns gs L f hF
          induction hF generalizing f with
          | nil => intro z; simp at z
          | fz r t ih =>
            cases f with
            | zero => intro z1 z2; simp at z1; cases z2; rw [← z1.2]; exact .inl r
            | succ f => intro z1 z2; exact ih f (by simpa using z1) z2
          | ow r t ih =>
            cases f with
            | zero => intro z1 z2; simp at z1; cases z2; exact .inr ⟨_, z1.2.symm, r⟩
            | succ f => intro z1 z2; exact ih f (by simpa using z1) z2
        exact go f k2 h3 h
theorem resP.mono (hH : Same H H') (x : resP σ H r v) : resP σ H' r v := by
  cases r with
  | pf i f =>
    obtain ⟨ad, dx, C, fvs, y, h1, h2, h3⟩ := x
    exact ⟨ad, dx, C, fvs, y, h1, hH _ _ h2, h3⟩
  | pl i => exact x
  | _ => trivial
/-- an operand that waits among the things at hand -/
theorem HoldsR.wait (x : HoldsR M F H σ e T r v) : Holds M F H (σ.zip e ++ (resT r v ++ T)) := x.h.perm (by
  rw [← List.append_assoc, ← List.append_assoc]
  exact List.Perm.append_right _ List.perm_append_comm)
theorem HoldsR.unwait {r' : R} {v' : V} (x : HoldsR M F H σ e (resT r v ++ T) r' v') : Holds M F H (resT r' v' ++ (σ.zip e ++ T)) := x.h.sl
  (List.Sublist.append_left (List.Sublist.append_left (List.sublist_append_right _ _) _) _)
theorem HoldsR.unwaitR {r' : R} {v' : V} (x : HoldsR M F H σ e (resT r v ++ T) r' v') : HoldsR M F H σ e T r' v' := ⟨x.unwait, x.len, x.at_⟩
/-- .. is read later -/
theorem HoldsR.vwI {e' : En} {r' : R} {v' : V} (x : HoldsR M F' H' σ e' (resT r v ++ T) r' v') (hr : ∀ i, r = .pl i → σ[i]? = some (some v)) {d : D} (h : rdI r e' = some d) : Vw M F' H' d v := by
  have go : ∀ r0 : R, resT r0 v = resT r v → (∀ i, r0 = .pl i → σ[i]? = some (some v)) → (∀ i f, r0 ≠ .pf i f) → rd r0 e' = some d → Vw M F' H' d v := by
    intro r0 e0 p0 n0 z
    refine HoldsR.vw (σ := σ) (e := e') (T := T) (M := M) (r := r0) ⟨?_, x.len, ?_⟩ z
    · rw [e0]
      have y : Holds M F' H' (σ.zip e' ++ (resT r v ++ T)) := x.h.sl (List.sublist_append_right _ _)
      refine y.perm ?_
      rw [← List.append_assoc, ← List.append_assoc]
      exact List.Perm.append_right _ List.perm_append_comm
    · cases r0 with
      | pf i f => exact (n0 i f rfl).elim
      | pl i => exact p0 i rfl
      | _ => trivial
  cases r with
  | pf i f => cases h
  | ob c fs => cases h
  | val d' => exact go (.val d') rfl hr (fun _ _ z => nomatch z) h
  | fr d' => exact go (.fr d') rfl hr (fun _ _ z => nomatch z) h
  | pl i => exact go (.pl i) rfl hr (fun _ _ z => nomatch z) h
theorem HoldsR.self (x : HoldsR M F H σ e T r v) : Same F H := x.h.sub
end
end Bv
set_option maxHeartbeats 2000000
namespace Bv
open PySem PySem.Spec L2

/-- the rules' frame: the tables fit the context -/
structure Fit (M : Mx) (X : Cx) : Prop where
  K : X.K = M.K
  w : X.w = M.w
  nd : X.N.Nodup
  calm : X.calm = true
  hu : X.A.units + 128 < cLine

section
variable {M : Mx} {X : Cx} {W : WX} {F F' H H' : Hp} {σ : St} {e : En} {T rs : List Re} {r : R} {v : V} {pos : Pos}

theorem HoldsR.of_val {d : D} (h : Holds M F H (σ.zip e ++ T)) (l : σ.length = e.length) (r : M.Rep F d v) : HoldsR M F H σ e T (.val d) v := ⟨h.addFz r, l, trivial⟩
/-! ### names and constants -/
def rvar (i : Nat) (e : En) : Option R := match gt e i with
  | .un => none
  | .fz d => some (.val d)
  | .ow _ => some (.pl i)
  | .ob _ _ => some (.pl i)
theorem sq_var (i : Nat) {x : Str} (hN : X.N[i]? = some x := by rfl) (hv : Vis X.env.scope x := by first | exact Or.inl rfl | exact Or.inr (Or.inl rfl) | exact Or.inr (Or.inr rfl)) (hd : (x == ("__debug__" : Str)) = false := by decide)
    (hcd : (x == ("__classdict__" : Str)) = false := by decide) : SQ M X (.Name x pos) (rvar i) := by
  refine PE.weak (pe_var hN hv hd hcd) fun σ H Q ⟨F, e, T, r, h, l, hr, k⟩ => ?_
  unfold rvar at hr
  have lt : i < e.length := gt_lt (fun z => by rw [z] at hr; cases hr)
  obtain ⟨v, rest, h1, h2, _⟩ := focus1 l lt
  have m : (v, gt e i) ∈ σ.zip e ++ T := List.mem_append_left _ (h2.mem_iff.mpr List.mem_cons_self)
  obtain ⟨L, q, hq⟩ := h.mem m
  cases hg : gt e i with
  | un => rw [hg] at hr; cases hr
  | fz d =>
    rw [hg] at hr q; cases hr
    cases q with
    | fz rp => exact ⟨_, h1, k F H _ (Same.refl F) (Same.refl H) (.of_val h l rp)⟩
  | ow d =>
    rw [hg] at hr q; cases hr
    cases q with
    | ow rp => exact ⟨_, h1, k F H _ (Same.refl F) (Same.refl H) ⟨h, l, h1⟩⟩
  | ob c fs =>
    rw [hg] at hr q; cases hr
    cases q with
    | ob _ rp => exact ⟨_, h1, k F H _ (Same.refl F) (Same.refl H) ⟨h, l, h1⟩⟩
theorem sq_const {x : Expr} {c : V} {d : D} (hp : PE X x (tC c)) (hr : ∀ F, M.Rep F d c) : SQ M X x (fun _ => some (.val d)) := by
  refine PE.weak hp fun σ H Q ⟨F, e, T, r, h, l, hr', k⟩ => ?_
  cases hr'
  exact k F H c (Same.refl F) (Same.refl H) (.of_val h l (hr F))
theorem sq_int {i j} : SQ M X (.Constant (.int i) j pos) (fun _ => some (.val (.int i))) := sq_const pe_int fun _ => .int i
theorem sq_bl {b j} : SQ M X (.Constant (.bool b) j pos) (fun _ => some (.val (.bool b))) := sq_const pe_bl fun _ => .bl b
theorem sq_non {j} : SQ M X (.Constant .none j pos) (fun _ => some (.val .none)) := sq_const pe_non fun _ => .non
theorem sq_str {x j} : SQ M X (.Constant (.str x) j pos) (fun _ => some (.val (.str x))) := sq_const pe_str fun _ => .str x
/-- what a module's name holds, as data that never changes -/
def GlobD (M : Mx) (mg : Str → Option Value) (x : Str) (d : D) : Prop := ∃ u v, mg x = some u ∧ RelV v u ∧ ∀ F, M.Rep F d v
theorem sq_glob {x : Str} {d : D} (h : GlobD M X.mg x d) (hg : Gl X x := by rfl) (hd : (x == ("__debug__" : Str)) = false := by decide) : SQ M X (.Name x pos) (fun _ => some (.val d)) := by
  obtain ⟨u, v, h1, h2, h3⟩ := h
  exact sq_const (pe_glob hg h1 h2 hd) h3

/-! ### two operands -/
/-- what an operation of two values asks: r; what it gives, as data: g -/
def Op2 (M : Mx) (r : R2) (g : D → D → Option R) : Prop := ∀ (F H : Hp) (rs : List Re) (x y : V) (a b : D) (res : R) (Q : VK), Holds M F H rs → Vw M F H a x → Vw M F H b y → g a b = some res →
  (∀ F' H' v, Same F F' → Same H H' → Holds M F' H' (resT res v ++ rs) → res.plain = true → Q v H') → r x y H Q
def quiet2 (fa fb : En → Option R) (g : D → D → Option R) : En → Option R := fun e => match fa e with
  | none => none
  | some ra => match fb e with
    | none => none
    | some rb => match rd ra e, rd rb e with
      | some a, some b => g a b
      | _, _ => none
def loud2 (fa fb : En → Oe) (g : D → D → Option R) : En → Oe := fun e => (fa e).bind fun ra e1 => (fb e1).bind fun rb e2 => match rdI ra e2, rd rb e2 with
  | some a, some b => match g a b with
    | some res => .ok res e2
    | none => .bad
  | _, _ => .bad
theorem tq_op2 {r : R2} {g : D → D → Option R} {fa fb : En → Option R} (ho : Op2 M r g) {H : Hp} {Q : VK} (h : tQ M (quiet2 fa fb g) σ H Q) : tOp r (tQ M fa) (tQ M fb) σ H Q := by
  obtain ⟨F, e, T, res, h, l, hf, k⟩ := h
  unfold quiet2 at hf
  cases ha : fa e with
  | none => rw [ha] at hf; cases hf
  | some ra =>
    rw [ha] at hf
    cases hb : fb e with
    | none => rw [hb] at hf; cases hf
    | some rb =>
      rw [hb] at hf
      simp only at hf
      cases hra : rd ra e with
      | none => rw [hra] at hf; cases hf
      | some a =>
        cases hrb : rd rb e with
        | none => rw [hra, hrb] at hf; cases hf
        | some b =>
          rw [hra, hrb] at hf
          refine ⟨F, e, T, ra, h, l, ha, fun F1 H1 x sF1 sH1 q1 => ?_⟩
          refine ⟨F1, e, _, rb, q1.wait, l, hb, fun F2 H2 y sF2 sH2 q2 => ?_⟩
          refine ho F2 H2 _ x y a b res Q q2.h ((q1.vw hra).mono sF2 sH2) (q2.vw hrb) hf fun F3 H3 z sF3 sH3 q3 pl => ?_
          refine k F3 H3 z ((sF1.trans sF2).trans sF3) ((sH1.trans sH2).trans sH3) ⟨q3.sl ?_, l, resP_plain pl⟩
          exact List.Sublist.append_left ((List.Sublist.append_left (List.sublist_append_right _ _) _).trans (List.sublist_append_right _ _)) _
theorem te_op2 {r : R2} {g : D → D → Option R} {fa fb : En → Oe} (ho : Op2 M r g) {H : Hp} {Q : VK} (h : tE M W (loud2 fa fb g) σ H Q) : tOp r (tE M W fa) (tE M W fb) σ H Q := by
  obtain ⟨F, e, T, h, l, k⟩ := h
  unfold loud2 at k
  refine ⟨F, e, T, h, l, ?_⟩
  cases ha : fa e with
  | bad => rw [ha] at k; exact k
  | ex c d e' => rw [ha] at k; exact k
  | ok ra e1 =>
    rw [ha] at k
    simp only [Oe.bind] at k
    intro F1 H1 x q1
    refine ⟨F1, e1, _, q1.wait, q1.len, ?_⟩
    cases hb : fb e1 with
    | bad => rw [hb] at k; exact k
    | ex c d e' =>
      rw [hb] at k
      exact fun F2 H2 dx vx q2 l2 => k F2 H2 dx vx (q2.sl (List.Sublist.append_left (List.sublist_append_right _ _) _)) l2
    | ok rb e2 =>
      rw [hb] at k
      simp only at k
      intro F2 H2 y q2
      cases hra : rdI ra e2 with
      | none => rw [hra] at k; exact k.elim
      | some a =>
        cases hrb : rd rb e2 with
        | none => rw [hra, hrb] at k; exact k.elim
        | some b =>
          rw [hra, hrb] at k
          simp only at k
          cases hg : g a b with
          | none => rw [hg] at k; exact k.elim
          | some res =>
            rw [hg] at k
            refine ho F2 H2 _ x y a b res Q q2.h (q2.vwI (fun i z => ?_) hra) (q2.vw hrb) hg fun F3 H3 z sF3 sH3 q3 pl => ?_
            · have := q1.at_; rw [z] at this; exact this
            · refine k F3 H3 z ⟨q3.sl ?_, q2.len, resP_plain pl⟩
              exact List.Sublist.append_left ((List.Sublist.append_left (List.sublist_append_right _ _) _).trans (List.sublist_append_right _ _)) _
variable {a b : Expr}
theorem sq_bin {op : Operator} {r : R2} {g : D → D → Option R} {fa fb : En → Option R} (hop : OpR X (binaryOp op) r) (ho : Op2 M r g) (ha : SQ M X a fa) (hb : SQ M X b fb) : SQ M X (.BinOp a op b pos) (quiet2 fa fb g) :=
  PE.weak (pe_op hop ha hb) fun σ H Q h => tq_op2 ho h
theorem se_bin {op : Operator} {r : R2} {g : D → D → Option R} {fa fb : En → Oe} (hop : OpR X (binaryOp op) r) (ho : Op2 M r g) (ha : SE M X W a fa) (hb : SE M X W b fb) : SE M X W (.BinOp a op b pos) (loud2 fa fb g) :=
  PE.weak (pe_op hop ha hb) fun σ H Q h => te_op2 ho h
theorem sq_cmp {op : CmpOp} {r : R2} {g : D → D → Option R} {fa fb : En → Option R} (hop : OpR X (compareOp op) r) (ho : Op2 M r g) (ha : SQ M X a fa) (hb : SQ M X b fb) (hm : behindInMarks op b = false := by first | exact nomark _ | rfl) : SQ M X (.Compare a [op] [b] pos) (quiet2 fa fb g) :=
  PE.weak (pe_cmpR hop ha hb hm) fun σ H Q h => tq_op2 ho h
theorem se_cmp {op : CmpOp} {r : R2} {g : D → D → Option R} {fa fb : En → Oe} (hop : OpR X (compareOp op) r) (ho : Op2 M r g) (ha : SE M X W a fa) (hb : SE M X W b fb) (hm : behindInMarks op b = false := by first | exact nomark _ | rfl) : SE M X W (.Compare a [op] [b] pos) (loud2 fa fb g) :=
  PE.weak (pe_cmpR hop ha hb hm) fun σ H Q h => te_op2 ho h
theorem sq_ix {r : R2} {g : D → D → Option R} {fa fb : En → Option R} (hop : IxR X r) (ho : Op2 M r g) (ha : SQ M X a fa) (hb : SQ M X b fb) (hs : PlainIx b := by intro _ _; rfl) : SQ M X (.Subscript a b pos) (quiet2 fa fb g) :=
  PE.weak (pe_ix hop ha hb hs) fun σ H Q h => tq_op2 ho h
theorem se_ix {r : R2} {g : D → D → Option R} {fa fb : En → Oe} (hop : IxR X r) (ho : Op2 M r g) (ha : SE M X W a fa) (hb : SE M X W b fb) (hs : PlainIx b := by intro _ _; rfl) : SE M X W (.Subscript a b pos) (loud2 fa fb g) :=
  PE.weak (pe_ix hop ha hb hs) fun σ H Q h => te_op2 ho h

/-! ### one operand -/
def Op1 (M : Mx) (r : V → Hp → VK → Prop) (g : D → Option R) : Prop := ∀ (F H : Hp) (rs : List Re) (x : V) (a : D) (res : R) (Q : VK), Holds M F H rs → Vw M F H a x → g a = some res →
  (∀ F' H' v, Same F F' → Same H H' → Holds M F' H' (resT res v ++ rs) → res.plain = true → Q v H') → r x H Q
def quiet1 (fa : En → Option R) (g : D → Option R) : En → Option R := fun e => match fa e with
  | none => none
  | some ra => match rd ra e with
    | some a => g a
    | none => none
def loud1 (fa : En → Oe) (g : D → Option R) : En → Oe := fun e => (fa e).bind fun ra e1 => match rd ra e1 with
  | some a => match g a with
    | some res => .ok res e1
    | none => .bad
  | none => .bad
theorem tq_op1 {r : V → Hp → VK → Prop} {g : D → Option R} {fa : En → Option R} (ho : Op1 M r g) {H : Hp} {Q : VK} (h : tQ M (quiet1 fa g) σ H Q) : tUn r (tQ M fa) σ H Q := by
  obtain ⟨F, e, T, res, h, l, hf, k⟩ := h
  unfold quiet1 at hf
  cases ha : fa e with
  | none => rw [ha] at hf; cases hf
  | some ra =>
    rw [ha] at hf
    simp only at hf
    cases hra : rd ra e with
    | none => rw [hra] at hf; cases hf
    | some a =>
      rw [hra] at hf
      refine ⟨F, e, T, ra, h, l, ha, fun F1 H1 x sF1 sH1 q1 => ?_⟩
      refine ho F1 H1 _ x a res Q q1.h (q1.vw hra) hf fun F3 H3 z sF3 sH3 q3 pl => ?_
      exact k F3 H3 z (sF1.trans sF3) (sH1.trans sH3) ⟨q3.sl (List.Sublist.append_left (List.sublist_append_right _ _) _), l, resP_plain pl⟩
theorem te_op1 {r : V → Hp → VK → Prop} {g : D → Option R} {fa : En → Oe} (ho : Op1 M r g) {H : Hp} {Q : VK} (h : tE M W (loud1 fa g) σ H Q) : tUn r (tE M W fa) σ H Q := by
  obtain ⟨F, e, T, h, l, k⟩ := h
  unfold loud1 at k
  refine ⟨F, e, T, h, l, ?_⟩
  cases ha : fa e with
  | bad => rw [ha] at k; exact k
  | ex c d e' => rw [ha] at k; exact k
  | ok ra e1 =>
    rw [ha] at k
    simp only [Oe.bind] at k
    intro F1 H1 x q1
    cases hra : rd ra e1 with
    | none => rw [hra] at k; exact k.elim
    | some a =>
      rw [hra] at k
      simp only at k
      cases hg : g a with
      | none => rw [hg] at k; exact k.elim
      | some res =>
        rw [hg] at k
        refine ho F1 H1 _ x a res Q q1.h (q1.vw hra) hg fun F3 H3 z sF3 sH3 q3 pl => ?_
        exact k F3 H3 z ⟨q3.sl (List.Sublist.append_left (List.sublist_append_right _ _) _), q1.len, resP_plain pl⟩
theorem sq_un {op : UnaryOp} {r : V → Hp → VK → Prop} {g : D → Option R} {fa : En → Option R} (hop : UnR X (unaryOp op) r) (ho : Op1 M r g) (ha : SQ M X a fa) : SQ M X (.UnaryOp op a pos) (quiet1 fa g) :=
  PE.weak (pe_un hop ha) fun σ H Q h => tq_op1 ho h
theorem se_un {op : UnaryOp} {r : V → Hp → VK → Prop} {g : D → Option R} {fa : En → Oe} (hop : UnR X (unaryOp op) r) (ho : Op1 M r g) (ha : SE M X W a fa) : SE M X W (.UnaryOp op a pos) (loud1 fa g) :=
  PE.weak (pe_un hop ha) fun σ H Q h => te_op1 ho h

/-! ### the operations -/
/-- an existing value -/
theorem fin_val {d : D} {v : V} {Q : VK} (h : Holds M F H rs) (r : M.Rep F d v) (k : ∀ F' H' v, Same F F' → Same H H' → Holds M F' H' (resT (.val d) v ++ rs) → (R.val d).plain = true → Q v H') : Q v H :=
  k F H v (Same.refl F) (Same.refl H) (h.addFz r) rfl
theorem fin_tup {ds : List D} {vs : List V} {Q : VK} (h : Holds M F H rs) (r : M.RepAll F ds vs) (k : ∀ F' H' v, Same F F' → Same H H' → Holds M F' H' (resT (.val (.tuple ds)) v ++ rs) → (R.val (.tuple ds)).plain = true → Q v H') {p : Addr} (hp : H p = none) : Q (.ref p) (upd H p (.tup vs)) := by
  have hF : F p = none := Same.free h.sub hp
  exact k (upd F p (.tup vs)) _ _ (same_upd_new hF) (same_upd_new hp) ((h.newFz hp).addFz (.tup (SqT.of upd_same) (RepAll.mono (same_upd_new hF) r))) rfl
theorem fin_lst {ds : List D} {vs : List V} {Q : VK} (h : Holds M F H rs) (r : M.RepAll F ds vs) (k : ∀ F' H' v, Same F F' → Same H H' → Holds M F' H' (resT (.fr (.list ds)) v ++ rs) → (R.fr (.list ds)).plain = true → Q v H') {p : Addr} (hp : H p = none) : Q (.ref p) (upd H p (.lst vs)) :=
  k F _ _ (Same.refl F) (same_upd_new hp) (h.newOw hp ⟨vs, upd_same, r⟩) rfl

def line : Nat := 16777216
theorem line_eq : line = sizeLine := sizeLine_eq.symm
def bitsOk (i j : Int) : Bool := Nat.ble (i.natAbs.log2 + j.natAbs.log2) 134217726
def gAdd : D → D → Option R
  | .int i, .int j => some (.val (.int (i + j)))
  | .tuple x, .tuple y => if Nat.ble (x.length + y.length) line then some (.val (.tuple (x ++ y))) else none
  | .list x, .list y => if Nat.ble (x.length + y.length) line then some (.fr (.list (x ++ y))) else none
  | .str x, .str y => if Nat.ble (x.length + y.length) line then some (.val (.str (x ++ y))) else none
  | _, _ => none
def gSub : D → D → Option R
  | .int i, .int j => some (.val (.int (i - j)))
  | _, _ => none
def gMul : D → D → Option R
  | .int i, .int j => if bitsOk i j then some (.val (.int (i * j))) else none
  | .list x, .int k => if decide (-(2 ^ 63) ≤ k) && decide (k < 2 ^ 63) && Nat.ble (x.length * k.toNat) line then some (.fr (.list (List.replicate k.toNat x).flatten)) else none
  | _, _ => none
def gDiv : D → D → Option R
  | .int i, .int j => if decide (0 < j) && Nat.ble j.natAbs.log2 8999 then some (.val (.int (i / j))) else none
  | _, _ => none
def gMod : D → D → Option R
  | .int i, .int j => if decide (0 < j) then some (.val (.int (i % j))) else none
  | _, _ => none
def gPow : D → D → Option R
  | .int i, .int j => if decide (0 ≤ j) && decide (j ≤ 1000000) && Nat.ble i.natAbs.log2 63 then some (.val (.int (i ^ j.toNat))) else none
  | _, _ => none
end
end Bv
set_option maxHeartbeats 2000000
namespace Bv
open PySem PySem.Spec L2

section
variable {M : Mx} {X : Cx}
theorem le_line {n : Nat} (h : Nat.ble n line = true) : n ≤ sizeLine := by rw [← line_eq]; exact Nat.le_of_ble_eq_true h
theorem RepAll.nil_iff {F : Hp} {ds : List D} {vs : List V} (r : M.RepAll F ds vs) : ds = [] ↔ vs = [] := by
  cases r <;> simp
/-- for operations upon two ints -/
theorem op2_int {r : R2} {C : Int → Int → Prop} {f : Int → Int → Int} {g : D → D → Option R} (hr : ∀ i j H Q, C i j → Q (.int (f i j)) H → r (.int i) (.int j) H Q)
    (hg : ∀ a b res, g a b = some res → ∃ i j, a = .int i ∧ b = .int j ∧ C i j ∧ res = .val (.int (f i j))) : Op2 M r g := by
  intro F H rs x y a b res Q h ha hb e k
  obtain ⟨i, j, rfl, rfl, c, rfl⟩ := hg a b res e
  rw [ha.int, hb.int]
  exact hr i j H Q c (fin_val h (.int _) k)
theorem op2_intB {r : R2} {f : Int → Int → Bool} {g : D → D → Option R} (hr : ∀ i j H Q, Q (.bl (f i j)) H → r (.int i) (.int j) H Q)
    (hg : ∀ a b res, g a b = some res → ∃ i j, a = .int i ∧ b = .int j ∧ res = .val (.bool (f i j))) : Op2 M r g := by
  intro F H rs x y a b res Q h ha hb e k
  obtain ⟨i, j, rfl, rfl, rfl⟩ := hg a b res e
  rw [ha.int, hb.int]
  exact hr i j H Q (fin_val h (.bl _) k)
theorem o_sub : Op2 M (rI0 fun i j => .int (i - j)) gSub := op2_int (C := fun _ _ => True) (f := fun i j => i - j) (fun i j H Q _ q => ⟨i, j, rfl, rfl, q⟩) fun a b res e => by
  cases a <;> cases b <;> simp [gSub] at e
  exact ⟨_, _, rfl, rfl, trivial, e.symm⟩
theorem op_div : OpR X (binaryOp .FloorDiv) (rI CDivW fun i j => .int (i / j)) := op_fdivW
theorem o_div : Op2 M (rI CDivW fun i j => .int (i / j)) gDiv := op2_int (C := CDivW) (f := fun i j => i / j) (fun i j H Q c q => ⟨i, j, rfl, rfl, c, q⟩) fun a b res e => by
  cases a <;> cases b <;> simp [gDiv] at e
  exact ⟨_, _, rfl, rfl, ⟨e.1.1, by have := e.1.2; omega⟩, e.2.symm⟩
theorem o_mod : Op2 M (rI (fun _ j => 0 < j) fun i j => .int (i % j)) gMod := op2_int (C := fun _ j => 0 < j) (f := fun i j => i % j) (fun i j H Q c q => ⟨i, j, rfl, rfl, c, q⟩) fun a b res e => by
  cases a <;> cases b <;> simp [gMod] at e
  exact ⟨_, _, rfl, rfl, e.1, e.2.symm⟩
theorem o_pow : Op2 M (rI CPow fun i j => .int (i ^ j.toNat)) gPow := op2_int (C := CPow) (f := fun i j => i ^ j.toNat) (fun i j H Q c q => ⟨i, j, rfl, rfl, c, q⟩) fun a b res e => by
  cases a <;> cases b <;> simp [gPow] at e
  rename_i i j
  refine ⟨_, _, rfl, rfl, ⟨e.1.1.1, e.1.1.2, ?_⟩, e.2.symm⟩
  by_cases h0 : i.natAbs = 0
  · rw [h0]; decide
  · exact (Nat.log2_lt h0).mp (by have := e.1.2; omega)
/-- a + b -/
def rAddA (K : PySem.W.Frag) : R2 := fun x y H Q => (rI0 fun i j => .int (i + j)) x y H Q ∨ (∃ i j, x = .str i ∧ y = .str j ∧ i.length + j.length ≤ sizeLine ∧ Q (.str (i ++ j)) H) ∨ rCatA K x y H Q ∨ rCat x y H Q
theorem op_addA (fit : Fit M X) : OpR X (binaryOp .Add) (rAddA M.K) := by
  rw [← fit.K]
  exact OpR.or op_add (OpR.or op_add_str (OpR.or op_catA op_cat))
theorem o_add : Op2 M (rAddA M.K) gAdd := by
  intro F H rs x y a b res Q h ha hb e k
  cases a with
  | int i =>
    cases b with
    | int j => cases e; rw [ha.int, hb.int]; exact .inl ⟨_, _, rfl, rfl, fin_val h (.int _) k⟩
    | _ => cases e
  | str i =>
    cases b with
    | str j =>
      simp [gAdd] at e
      obtain ⟨e1, rfl⟩ := e
      rw [ha.str, hb.str]
      exact .inr (.inl ⟨_, _, rfl, rfl, by rw [← line_eq]; exact e1, fin_val h (.str _) k⟩)
    | _ => cases e
  | tuple ds =>
    cases b with
    | tuple es =>
      simp [gAdd] at e
      obtain ⟨e1, rfl⟩ := e
      obtain ⟨p, vs, rfl, s1, r1⟩ := ha.tup h.sub
      obtain ⟨q, us, rfl, s2, r2⟩ := hb.tup h.sub
      refine .inr (.inr (.inl ⟨p, q, vs, us, rfl, rfl, s1, s2, ?_, fun z => ?_, fun z z' => ?_, fun _ _ p hp => fin_tup h (r1.append r2) k hp⟩))
      · rw [← r1.length, ← r2.length, ← line_eq]; exact e1
      · have z1 := r1.nil_iff.mpr z
        subst z1
        exact fin_val h hb.tupR k
      · have z1 := r2.nil_iff.mpr z'
        subst z1
        rw [List.append_nil] at k
        exact fin_val h ha.tupR k
    | _ => cases e
  | list ds =>
    cases b with
    | list es =>
      simp [gAdd] at e
      obtain ⟨e1, rfl⟩ := e
      obtain ⟨p, vs, rfl, s1, r1⟩ := ha.lst h.sub
      obtain ⟨q, us, rfl, s2, r2⟩ := hb.lst h.sub
      refine .inr (.inr (.inr ⟨p, q, vs, us, rfl, rfl, s1, s2, ?_, fun p hp => fin_lst h (r1.append r2) k hp⟩))
      rw [← r1.length, ← r2.length, ← line_eq]; exact e1
    | _ => cases e
  | _ => cases e
def rMulA : R2 := fun x y H Q => rI CMulX (fun i j => .int (i * j)) x y H Q ∨ rRep x y H Q
theorem op_mulA : OpR X (binaryOp .Mult) rMulA := OpR.or op_mulX op_rep
theorem RepAll.rep {F : Hp} {ds : List D} {vs : List V} (r : M.RepAll F ds vs) : ∀ n : Nat, M.RepAll F (List.replicate n ds).flatten (List.replicate n vs).flatten
  | 0 => .nil
  | n + 1 => by
    rw [List.replicate_succ, List.replicate_succ, List.flatten_cons, List.flatten_cons]
    exact r.append (RepAll.rep r n)
theorem o_mul : Op2 M rMulA gMul := by
  intro F H rs x y a b res Q h ha hb e k
  cases a with
  | int i =>
    cases b with
    | int j =>
      simp [gMul] at e
      obtain ⟨e1, rfl⟩ := e
      rw [ha.int, hb.int]
      refine .inl ⟨_, _, rfl, rfl, ?_, fin_val h (.int _) k⟩
      have := Nat.le_of_ble_eq_true e1
      exact mulx_ok (a := i.natAbs.log2 + 1) (b := j.natAbs.log2 + 1) Nat.lt_log2_self Nat.lt_log2_self (by omega)
    | _ => cases e
  | list ds =>
    cases b with
    | int j =>
      simp [gMul] at e
      obtain ⟨⟨⟨e1, e2⟩, e3⟩, rfl⟩ := e
      obtain ⟨p, vs, rfl, s1, r1⟩ := ha.lst h.sub
      rw [hb.int]
      refine .inr ⟨p, j, vs, rfl, rfl, s1, e1, e2, ?_, fun p hp => fin_lst h (r1.rep _) k hp⟩
      rw [← r1.length, ← line_eq]; exact e3
    | _ => cases e
  | _ => cases e
/-! ### comparisons -/
def gLt : D → D → Option R
  | .int i, .int j => some (.val (.bool (decide (i < j))))
  | _, _ => none
def gLe : D → D → Option R
  | .int i, .int j => some (.val (.bool (decide (i ≤ j))))
  | _, _ => none
def gGt : D → D → Option R
  | .int i, .int j => some (.val (.bool (decide (j < i))))
  | _, _ => none
def gGe : D → D → Option R
  | .int i, .int j => some (.val (.bool (decide (j ≤ i))))
  | _, _ => none
theorem o_lt : Op2 M (rI0 fun i j => .bl (decide (i < j))) gLt := op2_intB (f := fun i j => decide (i < j)) (fun i j H Q q => ⟨i, j, rfl, rfl, q⟩) fun a b res e => by
  cases a <;> cases b <;> simp [gLt] at e
  exact ⟨_, _, rfl, rfl, by rw [← e]⟩
theorem o_le : Op2 M (rI0 fun i j => .bl (decide (i ≤ j))) gLe := op2_intB (f := fun i j => decide (i ≤ j)) (fun i j H Q q => ⟨i, j, rfl, rfl, q⟩) fun a b res e => by
  cases a <;> cases b <;> simp [gLe] at e
  exact ⟨_, _, rfl, rfl, by rw [← e]⟩
theorem o_gt : Op2 M (rI0 fun i j => .bl (decide (j < i))) gGt := op2_intB (f := fun i j => decide (j < i)) (fun i j H Q q => ⟨i, j, rfl, rfl, q⟩) fun a b res e => by
  cases a <;> cases b <;> simp [gGt] at e
  exact ⟨_, _, rfl, rfl, by rw [← e]⟩
theorem o_ge : Op2 M (rI0 fun i j => .bl (decide (j ≤ i))) gGe := op2_intB (f := fun i j => decide (j ≤ i)) (fun i j H Q q => ⟨i, j, rfl, rfl, q⟩) fun a b res e => by
  cases a <;> cases b <;> simp [gGe] at e
  exact ⟨_, _, rfl, rfl, by rw [← e]⟩
/-- data that the model's == can be asked of -/
def plain0 (d : D) : Bool := SeqAt.shaped d
def gEq (a b : D) : Option R := if plain0 a && plain0 b then some (.val (.bool (PyData.eqv a b))) else none
def gNe (a b : D) : Option R := if plain0 a && plain0 b then some (.val (.bool (!PyData.eqv a b))) else none
theorem op_eqA (fit : Fit M X) : OpR X (compareOp .Eq) (rEqD M.K) := by
  rw [← fit.K]
  exact op_eqD (by have := fit.hu; omega)
theorem op_neA (fit : Fit M X) : OpR X (compareOp .NotEq) (rNeD M.K) := by
  rw [← fit.K]
  exact op_neD (by have := fit.hu; omega)
theorem o_eq : Op2 M (rEqD M.K) gEq := by
  intro F H rs x y a b res Q h ha hb e k
  simp only [gEq] at e
  split at e
  · rename_i c
    rw [Bool.and_eq_true] at c
    cases e
    exact ⟨a, b, ha.dp h.sub (SeqAt.canLay_of_shaped c.1), hb.dp h.sub (SeqAt.canLay_of_shaped c.2), c.1, c.2, fin_val h (.bl _) k⟩
  · cases e
theorem o_ne : Op2 M (rNeD M.K) gNe := by
  intro F H rs x y a b res Q h ha hb e k
  simp only [gNe] at e
  split at e
  · rename_i c
    rw [Bool.and_eq_true] at c
    cases e
    exact ⟨a, b, ha.dp h.sub (SeqAt.canLay_of_shaped c.1), hb.dp h.sub (SeqAt.canLay_of_shaped c.2), c.1, c.2, fin_val h (.bl _) k⟩
  · cases e
/-- is None, is not None -/
def isNone : D → Bool
  | .none => true
  | _ => false
def gIs (a b : D) : Option R := match b with
  | .none => some (.val (.bool (isNone a)))
  | _ => none
def gIsNot (a b : D) : Option R := match b with
  | .none => some (.val (.bool (!isNone a)))
  | _ => none
theorem Vw.isNon {F H : Hp} {a : D} {x : V} (h : Vw M F H a x) : decide (x = .non) = isNone a := by
  rcases h with h | ⟨p, rfl, h⟩
  · cases h <;> simp [isNone]
  · cases a <;> first | exact h.elim | simp [isNone]
theorem o_is : Op2 M (fun x y H Q => y = .non ∧ Q (.bl (decide (x = .non))) H) gIs := by
  intro F H rs x y a b res Q h ha hb e k
  cases b <;> simp [gIs] at e
  subst e
  rw [ha.isNon]
  exact ⟨hb.none, fin_val h (.bl _) k⟩
theorem o_isNot : Op2 M (fun x y H Q => y = .non ∧ Q (.bl (!decide (x = .non))) H) gIsNot := by
  intro F H rs x y a b res Q h ha hb e k
  cases b <;> simp [gIsNot] at e
  subst e
  rw [ha.isNon]
  exact ⟨hb.none, fin_val h (.bl _) k⟩
/-! ### subscripts -/
def gIx : D → D → Option R
  | .list ds, .int i => (atI ds i).map .val
  | .tuple ds, .int i => (atI ds i).map .val
  | .dict [(.none, .tuple ds)], .int i => (atI ds i).map .val
  | .str z, .int i => if Nat.ble z.length line then (atI z.cps.toList i).map fun c => .val (.str ⟨#[c]⟩) else none
  | _, _ => none
theorem RepAll.atI {F : Hp} {ds : List D} {vs : List V} (r : M.RepAll F ds vs) {i : Int} {d : D} (h : L2.atI ds i = some d) : ∃ v, L2.atI vs i = some v ∧ M.Rep F d v := by
  unfold L2.atI at h ⊢
  rw [← r.length]
  cases hj : ixN ds.length i with
  | none => rw [hj] at h; cases h
  | some j =>
    rw [hj] at h
    exact r.get (i := j) h
theorem ix_A (fit : Fit M X) : IxR X (rIx M.K) := by rw [← fit.K]; exact ix_seq
theorem o_ix : Op2 M (rIx M.K) gIx := by
  intro F H rs x y a b res Q h ha hb e k
  unfold gIx at e
  split at e
  · rename_i ds i
    obtain ⟨d, e1, rfl⟩ := Option.map_eq_some_iff.mp e
    obtain ⟨p, vs, rfl, s1, r1⟩ := ha.lst h.sub
    obtain ⟨v, h1, h2⟩ := r1.atI e1
    rw [hb.int]
    exact .inl ⟨p, vs, i, v, rfl, rfl, SqL.of s1, h1, fin_val h h2 k⟩
  · rename_i ds i
    obtain ⟨d, e1, rfl⟩ := Option.map_eq_some_iff.mp e
    obtain ⟨p, vs, rfl, s1, r1⟩ := ha.tup h.sub
    obtain ⟨v, h1, h2⟩ := r1.atI e1
    rw [hb.int]
    exact .inr (.inl ⟨p, vs, i, v, rfl, rfl, s1, h1, fin_val h h2 k⟩)
  · rename_i ds i
    obtain ⟨d, e1, rfl⟩ := Option.map_eq_some_iff.mp e
    obtain ⟨p, vs, rfl, s1, r1⟩ := ha.rol h.sub
    obtain ⟨v, h1, h2⟩ := r1.atI e1
    rw [hb.int]
    exact .inl ⟨p, vs, i, v, rfl, rfl, s1, h1, fin_val h h2 k⟩
  · rename_i z i
    split at e
    · rename_i c
      obtain ⟨d, e1, rfl⟩ := Option.map_eq_some_iff.mp e
      rw [ha.str, hb.int]
      exact .inr (.inr ⟨z, i, d, rfl, rfl, le_line c, e1, fin_val h (.str _) k⟩)
    · cases e
  · cases e
/-! ### minus -/
def gNeg : D → Option R
  | .int i => some (.val (.int (-i)))
  | _ => none
theorem o_neg : Op1 M (rU fun i => .int (-i)) gNeg := by
  intro F H rs x a res Q h ha e k
  cases a <;> simp [gNeg] at e
  subst e
  exact ⟨_, ha.int, fin_val h (.int _) k⟩
end
end Bv
set_option maxHeartbeats 2000000
namespace Bv
open PySem PySem.Spec L2

section
variable {M : Mx} {X : Cx} {W : WX} {F F' H H' : Hp} {σ : L2.St} {e : En} {T rs : List Re} {r : R} {v : V} {pos : Pos} {a b : Expr} {rest : List Expr}

/-! ### x in c -/
def inL (d : D) (ds : List D) : Bool := ds.any fun z => PyData.eqv z d
def shapedL (ds : List D) : Bool := SeqAt.shaped (.list ds)
theorem shaped_lt (ds : List D) : SeqAt.shaped (.tuple ds) = SeqAt.shaped (.list ds) := by
  simp [SeqAt.shaped, PyData.canLay0, PyData.depth]
def gIn (a b : D) : Option R := match b with
  | .list ds => if plain0 a && shapedL ds then some (.val (.bool (inL a ds))) else none
  | .tuple ds => if plain0 a && shapedL ds then some (.val (.bool (inL a ds))) else none
  | _ => none
def gNotIn (a b : D) : Option R := match b with
  | .list ds => if plain0 a && shapedL ds then some (.val (.bool (!inL a ds))) else none
  | .tuple ds => if plain0 a && shapedL ds then some (.val (.bool (!inL a ds))) else none
  | _ => none
def rInA (K : PySem.W.Frag) (neg : Bool) : R2 := fun x y H Q => ∃ d ds, Dp K H x d ∧ (Dp K H y (.list ds) ∨ Dp K H y (.tuple ds)) ∧ SeqAt.shaped d = true ∧ SeqAt.shaped (.list ds) = true ∧ Q (.bl (if neg = true then !inL d ds else inL d ds)) H
theorem room_inA {d : PyData} {ds : List PyData} {A : Around} (h : SeqAt.shaped d = true) (hu : A.units + 128 < cLine) : A.units + 1 + min (PyData.depthAll ds) d.depth < cLine := by
  have h1 := SeqAt.depth_of_shaped h
  have h2 : min (PyData.depthAll ds) d.depth ≤ d.depth := Nat.min_le_right _ _
  omega
theorem op_inA (fit : Fit M X) : OpR X (compareOp .In) (rInA M.K false) := by
  rw [← fit.K]
  intro pins s σ H x y v u Q I rx ry h
  obtain ⟨d, ds, hd, he, sd, se, q⟩ := h
  obtain ⟨as, r1⟩ := Dp.reads I d x v hd rx
  have hc : PyData.canLayAll0 ds = true := SeqAt.canLay_of_shaped se
  rcases he with he | he
  · obtain ⟨bs, r2⟩ := Dp.reads I (.list ds) y u he ry
    exact SeqAt.in_list_reads r2 r1 hc (SeqAt.canLay_of_shaped sd) (room_inA sd fit.hu) ⟨.bl _, H, I, rfl, q⟩
  · obtain ⟨bs, r2⟩ := Dp.reads I (.tuple ds) y u he ry
    exact SeqAt.in_tuple_reads r2 r1 hc (SeqAt.canLay_of_shaped sd) (room_inA sd fit.hu) ⟨.bl _, H, I, rfl, q⟩
theorem op_notInA (fit : Fit M X) : OpR X (compareOp .NotIn) (rInA M.K true) := by
  rw [← fit.K]
  intro pins s σ H x y v u Q I rx ry h
  obtain ⟨d, ds, hd, he, sd, se, q⟩ := h
  obtain ⟨as, r1⟩ := Dp.reads I d x v hd rx
  have hc : PyData.canLayAll0 ds = true := SeqAt.canLay_of_shaped se
  rcases he with he | he
  · obtain ⟨bs, r2⟩ := Dp.reads I (.list ds) y u he ry
    exact SeqAt.notIn_list_reads r2 r1 hc (SeqAt.canLay_of_shaped sd) (room_inA sd fit.hu) ⟨.bl _, H, I, rfl, q⟩
  · obtain ⟨bs, r2⟩ := Dp.reads I (.tuple ds) y u he ry
    exact SeqAt.notIn_tuple_reads r2 r1 hc (SeqAt.canLay_of_shaped sd) (room_inA sd fit.hu) ⟨.bl _, H, I, rfl, q⟩
theorem o_in : Op2 M (rInA M.K false) gIn := by
  intro F H rs x y a b res Q h ha hb e k
  unfold gIn at e
  split at e
  all_goals first
    | cases e
    | (split at e
       · rename_i ds c
         rw [Bool.and_eq_true] at c
         cases e
         have sl : SeqAt.shaped (.list ds) = true := c.2
         have sx : SeqAt.shaped a = true := c.1
         refine ⟨a, ds, ha.dp h.sub (SeqAt.canLay_of_shaped sx), ?_, sx, sl, fin_val h (.bl _) k⟩
         first
           | exact .inl (hb.dp h.sub (SeqAt.canLay_of_shaped sl))
           | exact .inr (hb.dp h.sub (by rw [← shaped_lt] at sl; exact SeqAt.canLay_of_shaped sl))
       · cases e)
theorem o_notIn : Op2 M (rInA M.K true) gNotIn := by
  intro F H rs x y a b res Q h ha hb e k
  unfold gNotIn at e
  split at e
  all_goals first
    | cases e
    | (split at e
       · rename_i ds c
         rw [Bool.and_eq_true] at c
         cases e
         have sl : SeqAt.shaped (.list ds) = true := c.2
         have sx : SeqAt.shaped a = true := c.1
         refine ⟨a, ds, ha.dp h.sub (SeqAt.canLay_of_shaped sx), ?_, sx, sl, fin_val h (.bl _) k⟩
         first
           | exact .inl (hb.dp h.sub (SeqAt.canLay_of_shaped sl))
           | exact .inr (hb.dp h.sub (by rw [← shaped_lt] at sl; exact SeqAt.canLay_of_shaped sl))
       · cases e)

/-! ### isinstance(x, T), T a built-in class -/
inductive Ty where
  | int | bool | tuple | list | str
def Ty.nm : Ty → String
  | .int => "int" | .bool => "bool" | .tuple => "tuple" | .list => "list" | .str => "str"
def tyN : D → Option String
  | .none => some "NoneType" | .bool _ => some "bool" | .int _ => some "int" | .str _ => some "str" | .list _ => some "list" | .tuple _ => some "tuple" | .dict _ => none
def isB : Ty → D → Option Bool
  | _, .dict _ => none
  | .int, .int _ => some true
  | .int, .bool _ => some true
  | .bool, .bool _ => some true
  | .tuple, .tuple _ => some true
  | .list, .list _ => some true
  | .str, .str _ => some true
  | _, _ => some false
theorem kit_isB : ∀ (t : Ty) (d : D) (b : Bool) (n : String), isB t d = some b → tyN d = some n → kitB n t.nm = some b := by
  intro t d b n h1 h2
  cases d <;> cases h2 <;> cases t <;> cases h1 <;> decide +kernel
theorem TyX.of_sqT {K : PySem.W.Frag} {a : Addr} {vs : List V} (x : SqT K H a vs) : TyX K H (.ref a) (.type "tuple") := by
  rcases x with (x | ⟨o, x⟩) | ⟨o, its, n, x, c, _⟩
  · exact .base (.tup x)
  · exact .fTuple x
  · exact .kTuple x c
theorem Vw.tyX {d : D} {n : String} (s : Same F H) (x : Vw M F H d v) (h : tyN d = some n) : TyX M.K H v (.type n) := by
  cases d with
  | none => cases h; rw [x.none]; exact .base .non
  | bool b => cases h; rw [x.bool]; exact .base (.bl b)
  | int i => cases h; rw [x.int]; exact .base (.int i)
  | str i => cases h; rw [x.str]; exact .base (.str i)
  | list ds =>
    cases h
    obtain ⟨a, vs, rfl, h1, _⟩ := x.lst s
    exact .base (.lst h1)
  | tuple ds =>
    cases h
    obtain ⟨a, vs, rfl, h1, _⟩ := x.tup s
    exact Bv.TyX.of_sqT h1
  | dict _ => cases h
def gIsI (t : Ty) (d : D) : Option R := (isB t d).map fun b => .val (.bool b)
def rIsI1 (K : PySem.W.Frag) (t : Ty) : V → Hp → VK → Prop := fun x H Q => rIsi K [x, .ty t.nm] H Q
theorem o_isi (t : Ty) : Op1 M (rIsI1 M.K t) (gIsI t) := by
  intro F H rs x a res Q h ha e k
  unfold gIsI at e
  obtain ⟨b, e1, rfl⟩ := Option.map_eq_some_iff.mp e
  cases hn : tyN a with
  | none => cases a <;> first | (simp [tyN] at hn; done) | (cases t <;> cases e1)
  | some n => exact ⟨x, .ty t.nm, .type n, .type t.nm, b, rfl, .ty _, ha.tyX h.sub hn, kit_ty (kit_isB t a b n e1 hn), fin_val h (.bl _) k⟩
theorem call_isiA (fit : Fit M X) : CallR X (.builtin "isinstance") (rIsi M.K) := by rw [← fit.K]; exact call_isi
theorem pe_isi {x : Expr} {t : Ty} {te : TE} {nm : Str} {p p2 : Pos} (fit : Fit M X) (hx : PE X x te) (hb : bootBuiltins nm = some (.type t.nm)) (hm0 : X.mg "isinstance" = none) (hm : X.mg nm = none)
    (hg0 : Gl X "isinstance" := by rfl) (hg : Gl X nm := by rfl) (hn : nm ≠ "__name__" := by decide) (hd : (nm == ("__debug__" : Str)) = false := by decide)
    (h1 : starEach [x, .Name nm p2] X.env = (false, eval x X.env) :: starEach [.Name nm p2] X.env := by rfl) (h2 : (backTo pos (starEach [.Name nm p2] X.env)).any (·.1) = false := by rfl) (h3 : starEach [.Name nm p2] X.env = (false, eval (.Name nm p2) X.env) :: starEach [] X.env := by rfl) :
    PE X (.Call (.Name "isinstance" p) [x, .Name nm p2] [] pos) (tUn (rIsI1 M.K t) te) := by
  have A : PA X [x, .Name nm p2] (tCons te (tCons (tC (.ty t.nm)) tNil)) := pa_cons hx (pa_cons (pe_bltn hg hm hb rfl hn hd) pa_nil h3) h1
  have B := pe_callB (pos := pos) (p := p) (call_isiA fit) hg0 hm0 (by decide +kernel) A (he := h1) (hpl := h2)
  exact PE.weak B fun σ H Q h => h
theorem sq_isi {x : Expr} (t : Ty) {nm : Str} {p p2 : Pos} {fx : En → Option R} (fit : Fit M X) (hx : SQ M X x fx) (hb : bootBuiltins nm = some (.type t.nm)) (hm0 : X.mg "isinstance" = none) (hm : X.mg nm = none)
    (hg0 : Gl X "isinstance" := by rfl) (hg : Gl X nm := by rfl) (hn : nm ≠ "__name__" := by decide) (hd : (nm == ("__debug__" : Str)) = false := by decide)
    (h1 : starEach [x, .Name nm p2] X.env = (false, eval x X.env) :: starEach [.Name nm p2] X.env := by rfl) (h2 : (backTo pos (starEach [.Name nm p2] X.env)).any (·.1) = false := by rfl) (h3 : starEach [.Name nm p2] X.env = (false, eval (.Name nm p2) X.env) :: starEach [] X.env := by rfl) :
    SQ M X (.Call (.Name "isinstance" p) [x, .Name nm p2] [] pos) (quiet1 fx (gIsI t)) :=
  PE.weak (pe_isi fit hx hb hm0 hm hg0 hg hn hd h1 h2 h3) fun σ H Q h => tq_op1 (o_isi t) h

/-! ### tests -/
def truth : D → Option Bool
  | .none => some false
  | .bool b => some b
  | .int i => some (i != 0)
  | .str s => if Nat.ble s.length line then some ((s.length : Int) != 0) else none
  | .list ds => some !ds.isEmpty
  | .tuple ds => some !ds.isEmpty
  | .dict _ => none
theorem Vw.tru {d : D} {k : Bool} (s : Same F H) (x : Vw M F H d v) (h : truth d = some k) : TruV M.K v H k := by
  cases d with
  | none => cases h; rw [x.none]; rfl
  | bool b => cases h; rw [x.bool]; rfl
  | int i => cases h; rw [x.int]; rfl
  | str i =>
    simp only [truth] at h
    split at h
    · rename_i c
      cases h; rw [x.str]; exact ⟨le_line c, rfl⟩
    · cases h
  | list ds =>
    cases h
    obtain ⟨a, vs, rfl, h1, r1⟩ := x.lst s
    refine .inl ⟨vs, SqL.of h1, ?_⟩
    cases r1 <;> rfl
  | tuple ds =>
    cases h
    obtain ⟨a, vs, rfl, h1, r1⟩ := x.tup s
    refine .inr (.inl ⟨vs, h1, ?_⟩)
    cases r1 <;> rfl
  | dict _ => cases h
def PostT (M : Mx) (W : WX) (σ : L2.St) (T : List Re) (Q : Bool → Hp → Prop) : Ot → Prop
  | .ok b e => ∀ F H, Holds M F H (σ.zip e ++ T) → σ.length = e.length → Q b H
  | .ex c d e => ∀ F H dx vx, Holds M F H (σ.zip e ++ T) → σ.length = e.length → H dx = some (.xd [(M.xf c, vx)]) → M.Rep F d vx → W (.ref (M.xc c)) (some dx) σ H
  | .bad => False
def tTE (M : Mx) (W : WX) (f : En → Ot) : TT := fun σ H Q => ∃ F e T, Holds M F H (σ.zip e ++ T) ∧ σ.length = e.length ∧ PostT M W σ T Q (f e)
def ST (M : Mx) (X : Cx) (W : WX) (x : Expr) (f : En → Ot) : Prop := PT X x (tTE M W f)
def tTQ (M : Mx) (f : En → Option Bool) : TT := fun σ H Q => ∃ F e T b, Holds M F H (σ.zip e ++ T) ∧ σ.length = e.length ∧ f e = some b ∧ ∀ F' H', Same F F' → Same H H' → Holds M F' H' (σ.zip e ++ T) → Q b H'
def TQ (M : Mx) (X : Cx) (x : Expr) (f : En → Option Bool) : Prop := PT X x (tTQ M f)
/-- .. inside and, or -/
def WQ (M : Mx) (X : Cx) (x : Expr) (f : En → Option Bool) : Prop := PW X x (tTQ M f)
def WT (M : Mx) (X : Cx) (W : WX) (x : Expr) (f : En → Ot) : Prop := PW X x (tTE M W f)
def quietT (f : En → Option Bool) : En → Ot := fun e => match f e with
  | some b => .ok b e
  | none => .bad
theorem tTQ.te {f : En → Option Bool} {Q : Bool → Hp → Prop} (h : tTE M W (quietT f) σ H Q) : tTQ M f σ H Q := by
  obtain ⟨F, e, T, h1, h2, h3⟩ := h
  unfold quietT at h3
  cases hf : f e with
  | none => rw [hf] at h3; exact h3.elim
  | some r => rw [hf] at h3; exact ⟨F, e, T, r, h1, h2, hf, fun F' H' _ _ q => h3 F' H' q h2⟩
theorem TQ.st {x : Expr} {f : En → Option Bool} (h : TQ M X x f) : ST M X W x (quietT f) := PT.weak h fun σ H Q h => tTQ.te h
theorem WQ.tq {x : Expr} {f : En → Option Bool} (h : WQ M X x f) : TQ M X x f := PW.pt h
theorem WT.st {x : Expr} {f : En → Ot} (h : WT M X W x f) : ST M X W x f := PW.pt h
/-- the truth of a value -/
def tru (fa : En → Option R) : En → Option Bool := fun e => match fa e with
  | none => none
  | some ra => match rd ra e with
    | some a => truth a
    | none => none
def truE (fa : En → Oe) : En → Ot := fun e => (fa e).bindT fun ra e1 => match rd ra e1 with
  | some a => match truth a with
    | some b => .ok b e1
    | none => .bad
  | none => .bad
theorem tq_val {fa : En → Option R} (fit : Fit M X) (ha : SQ M X a fa) (he : ∀ whole, isTrue a X.env whole = (do let v ← whole; standAt a.pos; holding [v] (truthy v)) := by intro _; rfl) : TQ M X a (tru fa) := by
  refine PT.weak (pt_truth ha he) fun σ H Q ⟨F, e, T, b, h, l, hf, k⟩ => ?_
  unfold tru at hf
  cases hfa : fa e with
  | none => rw [hfa] at hf; cases hf
  | some ra =>
    rw [hfa] at hf
    simp only at hf
    cases hra : rd ra e with
    | none => rw [hra] at hf; cases hf
    | some d =>
      rw [hra] at hf
      refine ⟨F, e, T, ra, h, l, hfa, fun F1 H1 x s1 s2 q1 => ⟨b, ?_, k F1 H1 s1 s2 (q1.h.sl (List.sublist_append_right _ _))⟩⟩
      rw [fit.K]
      exact (q1.vw hra).tru q1.self hf
theorem st_val {fa : En → Oe} (fit : Fit M X) (ha : SE M X W a fa) (he : ∀ whole, isTrue a X.env whole = (do let v ← whole; standAt a.pos; holding [v] (truthy v)) := by intro _; rfl) : ST M X W a (truE fa) := by
  refine PT.weak (pt_truth ha he) fun σ H Q ⟨F, e, T, h, l, k⟩ => ?_
  refine ⟨F, e, T, h, l, ?_⟩
  unfold truE at k
  cases hfa : fa e with
  | bad => rw [hfa] at k; exact k
  | ex c d e' => rw [hfa] at k; exact k
  | ok ra e1 =>
    rw [hfa] at k
    simp only [Oe.bindT] at k
    intro F1 H1 x q1
    cases hra : rd ra e1 with
    | none => rw [hra] at k; exact k.elim
    | some d =>
      rw [hra] at k
      simp only at k
      cases ht : truth d with
      | none => rw [ht] at k; exact k.elim
      | some b =>
        rw [ht] at k
        refine ⟨b, ?_, k F1 H1 (q1.h.sl (List.sublist_append_right _ _)) q1.len⟩
        rw [fit.K]
        exact (q1.vw hra).tru q1.self ht
/-- a comparison -/
def asB (f : En → Option R) : En → Option Bool := fun e => match f e with
  | some (.val (.bool b)) => some b
  | _ => none
def asBE (f : En → Oe) : En → Ot := fun e => (f e).bindT fun r e1 => match r with
  | .val (.bool b) => .ok b e1
  | _ => .bad
theorem tq_test {t : TE} {f : En → Option R} (hp : ∀ {σ H Q}, tQ M f σ H Q → t σ H Q) {Q : Bool → Hp → Prop} (h : tTQ M (asB f) σ H Q) : tTest t σ H Q := by
  obtain ⟨F, e, T, b, h, l, hf, k⟩ := h
  unfold asB at hf
  split at hf
  · rename_i b' h'
    cases hf
    refine hp ⟨F, e, T, _, h, l, h', fun F1 H1 x s1 s2 q1 => ⟨b, ?_, k F1 H1 s1 s2 (q1.h.sl (List.sublist_append_right _ _))⟩⟩
    exact (q1.vw (d := .bool b) rfl).bool
  · cases hf
theorem te_test {t : TE} {f : En → Oe} (hp : ∀ {σ H Q}, tE M W f σ H Q → t σ H Q) {Q : Bool → Hp → Prop} (h : tTE M W (asBE f) σ H Q) : tTest t σ H Q := by
  obtain ⟨F, e, T, h, l, k⟩ := h
  refine hp ⟨F, e, T, h, l, ?_⟩
  unfold asBE at k
  cases hf : f e with
  | bad => rw [hf] at k; exact k
  | ex c d e' => rw [hf] at k; exact k
  | ok r e1 =>
    rw [hf] at k
    simp only [Oe.bindT] at k
    intro F1 H1 x q1
    split at k
    · rename_i b
      exact ⟨b, (q1.vw (d := .bool b) rfl).bool, k F1 H1 (q1.h.sl (List.sublist_append_right _ _)) q1.len⟩
    · exact k.elim
theorem tq_cmp {op : CmpOp} {r : R2} {g : D → D → Option R} {fa fb : En → Option R} (hop : OpR X (compareOp op) r) (ho : Op2 M r g) (ha : SQ M X a fa) (hb : SQ M X b fb) (hm : behindInMarks op b = false := by first | exact nomark _ | rfl) : TQ M X (.Compare a [op] [b] pos) (asB (quiet2 fa fb g)) :=
  PT.weak (pt_cmpR hop ha hb hm) fun σ H Q h => tq_test (tq_op2 ho) h
theorem st_cmp {op : CmpOp} {r : R2} {g : D → D → Option R} {fa fb : En → Oe} (hop : OpR X (compareOp op) r) (ho : Op2 M r g) (ha : SE M X W a fa) (hb : SE M X W b fb) (hm : behindInMarks op b = false := by first | exact nomark _ | rfl) : ST M X W (.Compare a [op] [b] pos) (asBE (loud2 fa fb g)) :=
  PT.weak (pt_cmpR hop ha hb hm) fun σ H Q h => te_test (te_op2 ho) h
/-- not -/
def notQ (f : En → Option Bool) : En → Option Bool := fun e => match f e with
  | some b => some !b
  | none => none
def notE (f : En → Ot) : En → Ot := fun e => (f e).bindT fun b e1 => .ok (!b) e1
theorem tq_not {f : En → Option Bool} (ha : TQ M X a f) : TQ M X (.UnaryOp .Not a pos) (notQ f) := by
  refine PT.weak (pt_not ha) fun σ H Q ⟨F, e, T, b, h, l, hf, k⟩ => ?_
  unfold notQ at hf
  cases hfe : f e with
  | none => rw [hfe] at hf; cases hf
  | some c => rw [hfe] at hf; cases hf; exact ⟨F, e, T, c, h, l, hfe, fun F1 H1 s1 s2 q => k F1 H1 s1 s2 q⟩
theorem st_not {f : En → Ot} (ha : ST M X W a f) : ST M X W (.UnaryOp .Not a pos) (notE f) := by
  refine PT.weak (pt_not ha) fun σ H Q ⟨F, e, T, h, l, k⟩ => ⟨F, e, T, h, l, ?_⟩
  unfold notE at k
  cases hfe : f e with
  | bad => rw [hfe] at k; exact k
  | ex c d e' => rw [hfe] at k; exact k
  | ok c e1 => rw [hfe] at k; exact fun F1 H1 q l => k F1 H1 q l
/-- and, or -/
def andQ (f g : En → Option Bool) : En → Option Bool := fun e => match f e with
  | some true => g e
  | some false => some false
  | none => none
def orQ (f g : En → Option Bool) : En → Option Bool := fun e => match f e with
  | some true => some true
  | some false => g e
  | none => none
def andE (f g : En → Ot) : En → Ot := fun e => (f e).bindT fun b e1 => match b with
  | true => g e1
  | false => .ok false e1
def orE (f g : En → Ot) : En → Ot := fun e => (f e).bindT fun b e1 => match b with
  | true => .ok true e1
  | false => g e1
theorem wq_and1 {f : En → Option Bool} (ha : TQ M X a f) : WQ M X (.BoolOp .And [a] pos) f := pw_and1 ha
theorem wq_or1 {f : En → Option Bool} (ha : TQ M X a f) : WQ M X (.BoolOp .Or [a] pos) f := pw_or1 ha
theorem wt_and1 {f : En → Ot} (ha : ST M X W a f) : WT M X W (.BoolOp .And [a] pos) f := pw_and1 ha
theorem wt_or1 {f : En → Ot} (ha : ST M X W a f) : WT M X W (.BoolOp .Or [a] pos) f := pw_or1 ha
theorem PW.weak {x : Expr} {t t' : TT} (h : PW X x t) (k : ∀ σ H Q, t' σ H Q → t σ H Q) : PW X x t' := ⟨fun wh pins s σ H Q I h' => h.run wh pins s σ H Q I (k σ H Q h')⟩
theorem wq_and {f g : En → Option Bool} (ha : TQ M X a f) (hb : WQ M X (.BoolOp .And (b :: rest) pos) g) : WQ M X (.BoolOp .And (a :: b :: rest) pos) (andQ f g) := by
  refine PW.weak (pw_and ha hb) fun σ H Q ⟨F, e, T, c, h, l, hf, k⟩ => ?_
  unfold andQ at hf
  cases hfe : f e with
  | none => rw [hfe] at hf; cases hf
  | some x =>
    rw [hfe] at hf
    refine ⟨F, e, T, x, h, l, hfe, fun F1 H1 s1 s2 q => ?_⟩
    cases x with
    | true => exact iteT ⟨F1, e, T, c, q, l, hf, fun F2 H2 t1 t2 q2 => k F2 H2 (s1.trans t1) (s2.trans t2) q2⟩
    | false => cases hf; exact iteF (k F1 H1 s1 s2 q)
theorem wq_or {f g : En → Option Bool} (ha : TQ M X a f) (hb : WQ M X (.BoolOp .Or (b :: rest) pos) g) : WQ M X (.BoolOp .Or (a :: b :: rest) pos) (orQ f g) := by
  refine PW.weak (pw_or ha hb) fun σ H Q ⟨F, e, T, c, h, l, hf, k⟩ => ?_
  unfold orQ at hf
  cases hfe : f e with
  | none => rw [hfe] at hf; cases hf
  | some x =>
    rw [hfe] at hf
    refine ⟨F, e, T, x, h, l, hfe, fun F1 H1 s1 s2 q => ?_⟩
    cases x with
    | true => cases hf; exact iteT (k F1 H1 s1 s2 q)
    | false => exact iteF ⟨F1, e, T, c, q, l, hf, fun F2 H2 t1 t2 q2 => k F2 H2 (s1.trans t1) (s2.trans t2) q2⟩
theorem wt_and {f g : En → Ot} (ha : ST M X W a f) (hb : WT M X W (.BoolOp .And (b :: rest) pos) g) : WT M X W (.BoolOp .And (a :: b :: rest) pos) (andE f g) := by
  refine PW.weak (pw_and ha hb) fun σ H Q ⟨F, e, T, h, l, k⟩ => ⟨F, e, T, h, l, ?_⟩
  unfold andE at k
  cases hfe : f e with
  | bad => rw [hfe] at k; exact k
  | ex c d e' => rw [hfe] at k; exact k
  | ok x e1 =>
    rw [hfe] at k
    intro F1 H1 q1 l1
    cases x with
    | true => exact iteT ⟨F1, e1, T, q1, l1, k⟩
    | false => exact iteF (k F1 H1 q1 l1)
theorem wt_or {f g : En → Ot} (ha : ST M X W a f) (hb : WT M X W (.BoolOp .Or (b :: rest) pos) g) : WT M X W (.BoolOp .Or (a :: b :: rest) pos) (orE f g) := by
  refine PW.weak (pw_or ha hb) fun σ H Q ⟨F, e, T, h, l, k⟩ => ⟨F, e, T, h, l, ?_⟩
  unfold orE at k
  cases hfe : f e with
  | bad => rw [hfe] at k; exact k
  | ex c d e' => rw [hfe] at k; exact k
  | ok x e1 =>
    rw [hfe] at k
    intro F1 H1 q1 l1
    cases x with
    | true => exact iteT (k F1 H1 q1 l1)
    | false => exact iteF ⟨F1, e1, T, q1, l1, k⟩
end
end Bv
set_option maxHeartbeats 2000000
namespace Bv
open PySem PySem.Spec L2

section
variable {M : Mx} {X : Cx} {W : WX} {F F' H H' : Hp} {σ : L2.St} {e e' : En} {T rs : List Re} {r : R} {v : V} {pos : Pos} {a b c : Expr} {rest es : List Expr}

/-! ### and, or, not as values; x if t else y -/
def vAndQ (f g : En → Option R) : En → Option R := fun e => match f e with
  | none => none
  | some ra => match rd ra e with
    | none => none
    | some d => match truth d with
      | some true => g e
      | some false => some ra
      | none => none
def vOrQ (f g : En → Option R) : En → Option R := fun e => match f e with
  | none => none
  | some ra => match rd ra e with
    | none => none
    | some d => match truth d with
      | some true => some ra
      | some false => g e
      | none => none
theorem sq_one {op} {f : En → Option R} (h : SQ M X a f) : SQ M X (.BoolOp op [a] pos) f := pe_one h
theorem sq_and {f g : En → Option R} (fit : Fit M X) (ha : SQ M X a f) (hb : SQ M X (.BoolOp .And (b :: rest) pos) g) : SQ M X (.BoolOp .And (a :: b :: rest) pos) (vAndQ f g) := by
  refine PE.weak (pe_andT ha hb) fun σ H Q ⟨F, e, T, r, h, l, hf, k⟩ => ?_
  unfold vAndQ at hf
  cases hfe : f e with
  | none => rw [hfe] at hf; cases hf
  | some ra =>
    rw [hfe] at hf; simp only at hf
    cases hra : rd ra e with
    | none => rw [hra] at hf; cases hf
    | some d =>
      rw [hra] at hf; simp only at hf
      cases ht : truth d with
      | none => rw [ht] at hf; cases hf
      | some t =>
        rw [ht] at hf
        refine ⟨F, e, T, ra, h, l, hfe, fun F1 H1 x s1 s2 q1 => ⟨t, ?_, ?_⟩⟩
        · rw [fit.K]; exact (q1.vw hra).tru q1.self ht
        · cases t with
          | true => exact iteT ⟨F1, e, T, r, q1.h.sl (List.sublist_append_right _ _), l, hf, fun F2 H2 y t1 t2 q2 => k F2 H2 y (s1.trans t1) (s2.trans t2) q2⟩
          | false => cases hf; exact iteF (k F1 H1 x s1 s2 q1)
theorem sq_or {f g : En → Option R} (fit : Fit M X) (ha : SQ M X a f) (hb : SQ M X (.BoolOp .Or (b :: rest) pos) g) : SQ M X (.BoolOp .Or (a :: b :: rest) pos) (vOrQ f g) := by
  refine PE.weak (pe_orT ha hb) fun σ H Q ⟨F, e, T, r, h, l, hf, k⟩ => ?_
  unfold vOrQ at hf
  cases hfe : f e with
  | none => rw [hfe] at hf; cases hf
  | some ra =>
    rw [hfe] at hf; simp only at hf
    cases hra : rd ra e with
    | none => rw [hra] at hf; cases hf
    | some d =>
      rw [hra] at hf; simp only at hf
      cases ht : truth d with
      | none => rw [ht] at hf; cases hf
      | some t =>
        rw [ht] at hf
        refine ⟨F, e, T, ra, h, l, hfe, fun F1 H1 x s1 s2 q1 => ⟨t, ?_, ?_⟩⟩
        · rw [fit.K]; exact (q1.vw hra).tru q1.self ht
        · cases t with
          | false => exact iteF ⟨F1, e, T, r, q1.h.sl (List.sublist_append_right _ _), l, hf, fun F2 H2 y t1 t2 q2 => k F2 H2 y (s1.trans t1) (s2.trans t2) q2⟩
          | true => cases hf; exact iteT (k F1 H1 x s1 s2 q1)
def vAndE (f g : En → Oe) : En → Oe := fun e => (f e).bind fun ra e1 => match rd ra e1 with
  | none => .bad
  | some d => match truth d with
    | some true => g e1
    | some false => .ok ra e1
    | none => .bad
def vOrE (f g : En → Oe) : En → Oe := fun e => (f e).bind fun ra e1 => match rd ra e1 with
  | none => .bad
  | some d => match truth d with
    | some true => .ok ra e1
    | some false => g e1
    | none => .bad
theorem se_one {op} {f : En → Oe} (h : SE M X W a f) : SE M X W (.BoolOp op [a] pos) f := pe_one h
theorem se_and {f g : En → Oe} (fit : Fit M X) (ha : SE M X W a f) (hb : SE M X W (.BoolOp .And (b :: rest) pos) g) : SE M X W (.BoolOp .And (a :: b :: rest) pos) (vAndE f g) := by
  refine PE.weak (pe_andT ha hb) fun σ H Q ⟨F, e, T, h, l, k⟩ => ⟨F, e, T, h, l, ?_⟩
  unfold vAndE at k
  cases hfe : f e with
  | bad => rw [hfe] at k; exact k
  | ex c d e' => rw [hfe] at k; exact k
  | ok ra e1 =>
    rw [hfe] at k; simp only [Oe.bind] at k
    intro F1 H1 x q1
    cases hra : rd ra e1 with
    | none => rw [hra] at k; exact k.elim
    | some d =>
      rw [hra] at k; simp only at k
      cases ht : truth d with
      | none => rw [ht] at k; exact k.elim
      | some t =>
        rw [ht] at k
        refine ⟨t, by rw [fit.K]; exact (q1.vw hra).tru q1.self ht, ?_⟩
        cases t with
        | true => exact iteT ⟨F1, e1, T, q1.h.sl (List.sublist_append_right _ _), q1.len, k⟩
        | false => exact iteF (k F1 H1 x q1)
theorem se_or {f g : En → Oe} (fit : Fit M X) (ha : SE M X W a f) (hb : SE M X W (.BoolOp .Or (b :: rest) pos) g) : SE M X W (.BoolOp .Or (a :: b :: rest) pos) (vOrE f g) := by
  refine PE.weak (pe_orT ha hb) fun σ H Q ⟨F, e, T, h, l, k⟩ => ⟨F, e, T, h, l, ?_⟩
  unfold vOrE at k
  cases hfe : f e with
  | bad => rw [hfe] at k; exact k
  | ex c d e' => rw [hfe] at k; exact k
  | ok ra e1 =>
    rw [hfe] at k; simp only [Oe.bind] at k
    intro F1 H1 x q1
    cases hra : rd ra e1 with
    | none => rw [hra] at k; exact k.elim
    | some d =>
      rw [hra] at k; simp only at k
      cases ht : truth d with
      | none => rw [ht] at k; exact k.elim
      | some t =>
        rw [ht] at k
        refine ⟨t, by rw [fit.K]; exact (q1.vw hra).tru q1.self ht, ?_⟩
        cases t with
        | false => exact iteF ⟨F1, e1, T, q1.h.sl (List.sublist_append_right _ _), q1.len, k⟩
        | true => exact iteT (k F1 H1 x q1)
/-- not x, as a value -/
def gNot (d : D) : Option R := (truth d).map fun b => .val (.bool !b)
def rNot (K : PySem.W.Frag) : V → Hp → VK → Prop := fun x H Q => ∃ k, TruV K x H k ∧ Q (.bl (!k)) H
theorem o_not : Op1 M (rNot M.K) gNot := by
  intro F H rs x a res Q h ha e k
  obtain ⟨b, e1, rfl⟩ := Option.map_eq_some_iff.mp e
  exact ⟨b, ha.tru h.sub e1, fin_val h (.bl _) k⟩
theorem sq_not {f : En → Option R} (fit : Fit M X) (ha : SQ M X a f) : SQ M X (.UnaryOp .Not a pos) (quiet1 f gNot) := PE.weak (pe_notT ha) fun σ H Q h => by
  have := tq_op1 o_not h
  rw [fit.K]; exact this
theorem se_not {f : En → Oe} (fit : Fit M X) (ha : SE M X W a f) : SE M X W (.UnaryOp .Not a pos) (loud1 f gNot) := PE.weak (pe_notT ha) fun σ H Q h => by
  have := te_op1 o_not h
  rw [fit.K]; exact this
def iteQ (t : En → Option Bool) (f g : En → Option R) : En → Option R := fun e => match t e with
  | some true => f e
  | some false => g e
  | none => none
def iteE (t : En → Ot) (f g : En → Oe) : En → Oe := fun e => (t e).bind fun b e1 => match b with
  | true => f e1
  | false => g e1
theorem sq_ite {t : En → Option Bool} {f g : En → Option R} (hc : TQ M X c t) (ha : SQ M X a f) (hb : SQ M X b g) : SQ M X (.IfExp c a b pos) (iteQ t f g) := by
  refine PE.weak (pe_ifExp hc ha hb) fun σ H Q ⟨F, e, T, r, h, l, hf, k⟩ => ?_
  unfold iteQ at hf
  cases ht : t e with
  | none => rw [ht] at hf; cases hf
  | some x =>
    rw [ht] at hf
    refine ⟨F, e, T, x, h, l, ht, fun F1 H1 s1 s2 q => ?_⟩
    cases x with
    | true => exact iteT ⟨F1, e, T, r, q, l, hf, fun F2 H2 y t1 t2 q2 => k F2 H2 y (s1.trans t1) (s2.trans t2) q2⟩
    | false => exact iteF ⟨F1, e, T, r, q, l, hf, fun F2 H2 y t1 t2 q2 => k F2 H2 y (s1.trans t1) (s2.trans t2) q2⟩
theorem se_ite {t : En → Ot} {f g : En → Oe} (hc : ST M X W c t) (ha : SE M X W a f) (hb : SE M X W b g) : SE M X W (.IfExp c a b pos) (iteE t f g) := by
  refine PE.weak (pe_ifExp hc ha hb) fun σ H Q ⟨F, e, T, h, l, k⟩ => ⟨F, e, T, h, l, ?_⟩
  unfold iteE at k
  cases ht : t e with
  | bad => rw [ht] at k; exact k
  | ex c d e' => rw [ht] at k; exact k
  | ok x e1 =>
    rw [ht] at k
    intro F1 H1 q1 l1
    cases x with
    | true => exact iteT ⟨F1, e1, T, q1, l1, k⟩
    | false => exact iteF ⟨F1, e1, T, q1, l1, k⟩

/-! ### lists of expressions -/
def resTs : List R → List V → List Re
  | r :: rs, v :: vs => resT r v ++ resTs rs vs
  | _, _ => []
structure HoldsRs (M : Mx) (F H : Hp) (σ : L2.St) (e : En) (T : List Re) (rs : List R) (vs : List V) : Prop where
  h : Holds M F H (resTs rs vs ++ (σ.zip e ++ T))
  len : σ.length = e.length
  at_ : Paired (resP σ H) rs vs
theorem perm_in (A B C D' : List Re) : (A ++ (B ++ (C ++ D'))).Perm (C ++ A ++ (B ++ D')) := by
  have h1 : (A ++ (B ++ (C ++ D'))).Perm (A ++ (C ++ (B ++ D'))) := by
    refine List.Perm.append_left _ ?_
    rw [← List.append_assoc, ← List.append_assoc]
    exact List.Perm.append_right _ List.perm_append_comm
  refine h1.trans ?_
  rw [← List.append_assoc]
  exact List.Perm.append_right _ List.perm_append_comm
def tAQ (M : Mx) (f : En → Option (List R)) : TA := fun σ H Q => ∃ F e T rs, Holds M F H (σ.zip e ++ T) ∧ σ.length = e.length ∧ f e = some rs ∧ ∀ F' H' vs, Same F F' → Same H H' → HoldsRs M F' H' σ e T rs vs → Q vs H'
def AQ (M : Mx) (X : Cx) (es : List Expr) (f : En → Option (List R)) : Prop := PA X es (tAQ M f)
def PostA (M : Mx) (W : WX) (σ : L2.St) (T : List Re) (Q : List V → Hp → Prop) : Oa → Prop
  | .ok rs e => ∀ F H vs, HoldsRs M F H σ e T rs vs → Q vs H
  | .ex c d e => ∀ F H dx vx, Holds M F H (σ.zip e ++ T) → σ.length = e.length → H dx = some (.xd [(M.xf c, vx)]) → M.Rep F d vx → W (.ref (M.xc c)) (some dx) σ H
  | .bad => False
def tAE (M : Mx) (W : WX) (f : En → Oa) : TA := fun σ H Q => ∃ F e T, Holds M F H (σ.zip e ++ T) ∧ σ.length = e.length ∧ PostA M W σ T Q (f e)
def AE (M : Mx) (X : Cx) (W : WX) (es : List Expr) (f : En → Oa) : Prop := PA X es (tAE M W f)
def qNil : En → Option (List R) := fun _ => some []
def qCons (f : En → Option R) (g : En → Option (List R)) : En → Option (List R) := fun e => match f e with
  | none => none
  | some r => match g e with
    | none => none
    | some rs => some (r :: rs)
def lNil : En → Oa := fun e => .ok [] e
def noPf : R → Bool
  | .pf _ _ => false
  | _ => true
def lCons (f : En → Oe) (g : En → Oa) : En → Oa := fun e => (f e).bindA fun r e1 => match noPf r with
  | true => (g e1).bindA fun rs e2 => .ok (r :: rs) e2
  | false => .bad
theorem aq_nil : AQ M X [] qNil := by
  refine PA.weak pa_nil fun σ H Q ⟨F, e, T, rs, h, l, hf, k⟩ => ?_
  cases hf
  exact k F H [] (Same.refl F) (Same.refl H) ⟨h, l, .nil⟩
theorem ae_nil : AE M X W [] lNil := by
  refine PA.weak pa_nil fun σ H Q ⟨F, e, T, h, l, k⟩ => ?_
  exact k F H [] ⟨h, l, .nil⟩
theorem aq_cons {f : En → Option R} {g : En → Option (List R)} (ha : SQ M X a f) (hb : AQ M X es g) (hs : starEach (a :: es) X.env = (false, eval a X.env) :: starEach es X.env := by rfl) : AQ M X (a :: es) (qCons f g) := by
  refine PA.weak (pa_cons ha hb hs) fun σ H Q ⟨F, e, T, rs, h, l, hf, k⟩ => ?_
  unfold qCons at hf
  cases hfe : f e with
  | none => rw [hfe] at hf; cases hf
  | some r =>
    rw [hfe] at hf; simp only at hf
    cases hge : g e with
    | none => rw [hge] at hf; cases hf
    | some rs' =>
      rw [hge] at hf; cases hf
      refine ⟨F, e, T, r, h, l, hfe, fun F1 H1 x s1 s2 q1 => ⟨F1, e, _, rs', q1.wait, l, hge, fun F2 H2 xs t1 t2 q2 => ?_⟩⟩
      exact k F2 H2 (x :: xs) (s1.trans t1) (s2.trans t2) ⟨q2.h.perm (perm_in _ _ _ _), l, .cons (resP.mono t2 q1.at_) q2.at_⟩
theorem resP.keep {r : R} {v : V} (x : resP σ H r v) (n : noPf r = true) : resP σ H' r v := by
  cases r <;> first | exact x | trivial | cases n
theorem ae_cons {f : En → Oe} {g : En → Oa} (ha : SE M X W a f) (hb : AE M X W es g) (hs : starEach (a :: es) X.env = (false, eval a X.env) :: starEach es X.env := by rfl) : AE M X W (a :: es) (lCons f g) := by
  refine PA.weak (pa_cons ha hb hs) fun σ H Q ⟨F, e, T, h, l, k⟩ => ⟨F, e, T, h, l, ?_⟩
  unfold lCons at k
  cases hfe : f e with
  | bad => rw [hfe] at k; exact k
  | ex c d e' => rw [hfe] at k; exact k
  | ok r e1 =>
    rw [hfe] at k; simp only [Oe.bindA] at k
    intro F1 H1 x q1
    cases hn : noPf r with
    | false => rw [hn] at k; exact k.elim
    | true =>
      rw [hn] at k; simp only at k
      refine ⟨F1, e1, _, q1.wait, q1.len, ?_⟩
      cases hge : g e1 with
      | bad => rw [hge] at k; exact k
      | ex c d e' =>
        rw [hge] at k
        exact fun F2 H2 dx vx q2 l2 => k F2 H2 dx vx (q2.sl (List.Sublist.append_left (List.sublist_append_right _ _) _)) l2
      | ok rs' e2 =>
        rw [hge] at k
        exact fun F2 H2 xs q2 => k F2 H2 (x :: xs) ⟨q2.h.perm (perm_in _ _ _ _), q2.len, .cons (q1.at_.keep hn) q2.at_⟩
def quietA (f : En → Option (List R)) : En → Oa := fun e => match f e with
  | some r => .ok r e
  | none => .bad
theorem AQ.ae {f : En → Option (List R)} (h : AQ M X es f) : AE M X W es (quietA f) := by
  refine PA.weak h fun σ H Q ⟨F, e, T, h1, h2, h3⟩ => ?_
  unfold quietA at h3
  cases hf : f e with
  | none => rw [hf] at h3; exact h3.elim
  | some r => rw [hf] at h3; exact ⟨F, e, T, r, h1, h2, hf, fun F' H' v _ _ q => h3 F' H' v q⟩
def rds : List R → En → Option (List D)
  | [], _ => some []
  | r :: rs, e => match rd r e with
    | none => none
    | some d => match rds rs e with
      | none => none
      | some ds => some (d :: ds)
theorem HoldsRs.vw {F H : Hp} : ∀ {rs : List R} {vs : List V} {ds : List D} {T : List Re}, HoldsRs M F H σ e T rs vs → rds rs e = some ds → Paired (Vw M F H) ds vs
  | [], _, _, _, q, h => by
    cases h
    obtain ⟨_, _, at_⟩ := q
    cases at_
    exact .nil
  | r :: rs, vs, ds, T, q, h => by
    obtain ⟨hh, l, at_⟩ := q
    cases at_ with
    | cons a1 a2 =>
      simp only [rds] at h
      cases hr : rd r e with
      | none => rw [hr] at h; cases h
      | some d =>
        rw [hr] at h; simp only at h
        cases hrs : rds rs e with
        | none => rw [hrs] at h; cases h
        | some ds' =>
          rw [hrs] at h; cases h
          rename_i v vs'
          simp only [resTs, List.append_assoc] at hh
          refine .cons ?_ (HoldsRs.vw (T := T) ⟨hh.dropA, l, a2⟩ hrs)
          have y : HoldsR M F H σ e T r v := ⟨hh.sl (List.Sublist.append_left (List.sublist_append_right _ _) _), l, a1⟩
          exact y.vw hr
def OpN (M : Mx) (r : List V → Hp → VK → Prop) (g : List D → Option R) : Prop := ∀ (F H : Hp) (rs : List Re) (xs : List V) (as : List D) (res : R) (Q : VK), Holds M F H rs → Paired (Vw M F H) as xs → g as = some res →
  (∀ F' H' v, Same F F' → Same H H' → Holds M F' H' (resT res v ++ rs) → res.plain = true → Q v H') → r xs H Q
def quietN (fa : En → Option (List R)) (g : List D → Option R) : En → Option R := fun e => match fa e with
  | none => none
  | some ra => match rds ra e with
    | some a => g a
    | none => none
def loudN (fa : En → Oa) (g : List D → Option R) : En → Oe := fun e => (fa e).bind fun ra e1 => match rds ra e1 with
  | some a => match g a with
    | some res => .ok res e1
    | none => .bad
  | none => .bad
theorem tq_opN {r : List V → Hp → VK → Prop} {g : List D → Option R} {fa : En → Option (List R)} (ho : OpN M r g) {H : Hp} {Q : VK} (h : tQ M (quietN fa g) σ H Q) : tCB r (tAQ M fa) σ H Q := by
  obtain ⟨F, e, T, res, h, l, hf, k⟩ := h
  unfold quietN at hf
  cases ha : fa e with
  | none => rw [ha] at hf; cases hf
  | some ra =>
    rw [ha] at hf
    simp only at hf
    cases hra : rds ra e with
    | none => rw [hra] at hf; cases hf
    | some a =>
      rw [hra] at hf
      refine ⟨F, e, T, ra, h, l, ha, fun F1 H1 x sF1 sH1 q1 => ?_⟩
      refine ho F1 H1 _ x a res Q q1.h (q1.vw hra) hf fun F3 H3 z sF3 sH3 q3 pl => ?_
      exact k F3 H3 z (sF1.trans sF3) (sH1.trans sH3) ⟨q3.sl (List.Sublist.append_left (List.sublist_append_right _ _) _), l, resP_plain pl⟩
theorem te_opN {r : List V → Hp → VK → Prop} {g : List D → Option R} {fa : En → Oa} (ho : OpN M r g) {H : Hp} {Q : VK} (h : tE M W (loudN fa g) σ H Q) : tCB r (tAE M W fa) σ H Q := by
  obtain ⟨F, e, T, h, l, k⟩ := h
  unfold loudN at k
  refine ⟨F, e, T, h, l, ?_⟩
  cases ha : fa e with
  | bad => rw [ha] at k; exact k
  | ex c d e' => rw [ha] at k; exact k
  | ok ra e1 =>
    rw [ha] at k
    simp only [Oa.bind] at k
    intro F1 H1 x q1
    cases hra : rds ra e1 with
    | none => rw [hra] at k; exact k.elim
    | some a =>
      rw [hra] at k
      simp only at k
      cases hg : g a with
      | none => rw [hg] at k; exact k.elim
      | some res =>
        rw [hg] at k
        refine ho F1 H1 _ x a res Q q1.h (q1.vw hra) hg fun F3 H3 z sF3 sH3 q3 pl => ?_
        exact k F3 H3 z ⟨q3.sl (List.Sublist.append_left (List.sublist_append_right _ _) _), q1.len, resP_plain pl⟩
/-- a built-in function, a built-in class, called -/
theorem sq_callB {x : Str} {p : Pos} {id : String} {r : List V → Hp → VK → Prop} {g : List D → Option R} {fa : En → Option (List R)} (hc : CallR X (.builtin id) r) (ho : OpN M r g) (hm : X.mg x = none) (ha : AQ M X (a :: es) fa) (hg : Gl X x := by rfl)
    (hv : bootBuiltins x = some (.builtin id) := by decide +kernel) (hn : x ≠ "__name__" := by decide) (hdb : (x == ("__debug__" : Str)) = false := by decide)
    (he : starEach (a :: es) X.env = (false, eval a X.env) :: starEach es X.env := by rfl) (hpl : (backTo pos (starEach es X.env)).any (·.1) = false := by rfl) : SQ M X (.Call (.Name x p) (a :: es) [] pos) (quietN fa g) :=
  PE.weak (pe_callB hc hg hm hv ha hn hdb he hpl) fun σ H Q h => tq_opN ho h
theorem se_callB {x : Str} {p : Pos} {id : String} {r : List V → Hp → VK → Prop} {g : List D → Option R} {fa : En → Oa} (hc : CallR X (.builtin id) r) (ho : OpN M r g) (hm : X.mg x = none) (ha : AE M X W (a :: es) fa) (hg : Gl X x := by rfl)
    (hv : bootBuiltins x = some (.builtin id) := by decide +kernel) (hn : x ≠ "__name__" := by decide) (hdb : (x == ("__debug__" : Str)) = false := by decide)
    (he : starEach (a :: es) X.env = (false, eval a X.env) :: starEach es X.env := by rfl) (hpl : (backTo pos (starEach es X.env)).any (·.1) = false := by rfl) : SE M X W (.Call (.Name x p) (a :: es) [] pos) (loudN fa g) :=
  PE.weak (pe_callB hc hg hm hv ha hn hdb he hpl) fun σ H Q h => te_opN ho h
theorem sq_callTy {x : Str} {p : Pos} {id : String} {r : List V → Hp → VK → Prop} {g : List D → Option R} {fa : En → Option (List R)} (hc : CallR X (.type id) r) (ho : OpN M r g) (hm : X.mg x = none) (ha : AQ M X (a :: es) fa) (hg : Gl X x := by rfl)
    (hv : bootBuiltins x = some (.type id) := by decide +kernel) (hn : x ≠ "__name__" := by decide) (hdb : (x == ("__debug__" : Str)) = false := by decide)
    (he : starEach (a :: es) X.env = (false, eval a X.env) :: starEach es X.env := by rfl) (hpl : (backTo pos (starEach es X.env)).any (·.1) = false := by rfl) : SQ M X (.Call (.Name x p) (a :: es) [] pos) (quietN fa g) :=
  PE.weak (pe_callTy hc hg hm hv ha hn hdb he hpl) fun σ H Q h => tq_opN ho h
theorem se_callTy {x : Str} {p : Pos} {id : String} {r : List V → Hp → VK → Prop} {g : List D → Option R} {fa : En → Oa} (hc : CallR X (.type id) r) (ho : OpN M r g) (hm : X.mg x = none) (ha : AE M X W (a :: es) fa) (hg : Gl X x := by rfl)
    (hv : bootBuiltins x = some (.type id) := by decide +kernel) (hn : x ≠ "__name__" := by decide) (hdb : (x == ("__debug__" : Str)) = false := by decide)
    (he : starEach (a :: es) X.env = (false, eval a X.env) :: starEach es X.env := by rfl) (hpl : (backTo pos (starEach es X.env)).any (·.1) = false := by rfl) : SE M X W (.Call (.Name x p) (a :: es) [] pos) (loudN fa g) :=
  PE.weak (pe_callTy hc hg hm hv ha hn hdb he hpl) fun σ H Q h => te_opN ho h

/-! ### frozen: what is put into another thing -/
def frz1 : R → En → Option (D × En)
  | .val d, e => some (d, e)
  | .fr d, e => some (d, e)
  | .pl i, e => match gt e i with
    | .fz d => some (d, e)
    | .ow d => some (d, e.set i (.fz d))
    | _ => none
  | _, _ => none
def frzE : List R → En → Option (List D × En)
  | [], e => some ([], e)
  | r :: rs, e => match frz1 r e with
    | none => none
    | some (d, e1) => match frzE rs e1 with
      | none => none
      | some (ds, e2) => some (d :: ds, e2)
def frzQ : List R → Option (List D)
  | [] => some []
  | .val d :: rs => match frzQ rs with
    | some ds => some (d :: ds)
    | none => none
  | .fr d :: rs => match frzQ rs with
    | some ds => some (d :: ds)
    | none => none
  | _ => none
theorem frz1_ok {d : D} (h : Holds M F H (resT r v ++ (σ.zip e ++ T))) (l : σ.length = e.length) (p : resP σ H r v) (hf : frz1 r e = some (d, e')) :
    ∃ F', Same F F' ∧ M.Rep F' d v ∧ Holds M F' H (σ.zip e' ++ T) ∧ σ.length = e'.length := by
  cases r with
  | val d' =>
    cases hf
    obtain ⟨v', ev, rp⟩ := h.rep
    cases ev
    exact ⟨F, Same.refl F, rp, h.drop, l⟩
  | fr d' =>
    cases hf
    obtain ⟨ad, ev, _, _⟩ := h.own
    cases ev
    obtain ⟨F', s, rp, h'⟩ := Holds.freeze h
    exact ⟨F', s, rp, h', l⟩
  | ob c fs => cases hf
  | pf i f => cases hf
  | pl i =>
    simp only [frz1] at hf
    have lt : i < e.length := gt_lt (fun z => by rw [z] at hf; cases hf)
    obtain ⟨w, rest, h1, h2, h3⟩ := focus1 l lt
    have hv : w = some v := by
      have p' : σ[i]? = some (some v) := p
      rw [p'] at h1; exact (Option.some.inj h1).symm
    subst hv
    have hh : Holds M F H ((some v, gt e i) :: (rest ++ T)) := h.perm (List.Perm.append_right T h2)
    cases hg : gt e i with
    | un => rw [hg] at hf; cases hf
    | ob _ _ => rw [hg] at hf; cases hf
    | fz d' =>
      rw [hg] at hf hh; cases hf
      obtain ⟨v', ev, rp⟩ := hh.rep
      cases ev
      exact ⟨F, Same.refl F, rp, h, l⟩
    | ow d' =>
      rw [hg] at hf hh; cases hf
      obtain ⟨ad, ev, _, _⟩ := hh.own
      cases ev
      obtain ⟨F', s, rp, h'⟩ := Holds.freeze hh
      refine ⟨F', s, rp, ?_, by rw [List.length_set]; exact l⟩
      exact (h'.addFz rp).perm (List.Perm.append_right T (h3 _)).symm
theorem frz1_at {d : D} {r' : R} {v' : V} (hf : frz1 r e = some (d, e')) : True := trivial
theorem frzE_ok : ∀ {rs : List R} {vs : List V} {ds : List D} {F : Hp} {e e' : En} {T : List Re}, HoldsRs M F H σ e T rs vs → frzE rs e = some (ds, e') →
    ∃ F', Same F F' ∧ M.RepAll F' ds vs ∧ Holds M F' H (σ.zip e' ++ T) ∧ σ.length = e'.length
  | [], _, _, F, e, _, T, q, hf => by
    cases hf
    obtain ⟨h, l, at_⟩ := q
    cases at_
    exact ⟨F, Same.refl F, .nil, h, l⟩
  | r :: rs, vs, ds, F, e, e', T, q, hf => by
    obtain ⟨h, l, at_⟩ := q
    cases at_ with
    | cons a1 a2 =>
      rename_i v vs'
      simp only [frzE] at hf
      cases h1 : frz1 r e with
      | none => rw [h1] at hf; cases hf
      | some p =>
        obtain ⟨d, e1⟩ := p
        rw [h1] at hf; simp only at hf
        cases h2 : frzE rs e1 with
        | none => rw [h2] at hf; cases hf
        | some p2 =>
          obtain ⟨ds', e2⟩ := p2
          rw [h2] at hf; cases hf
          simp only [resTs, List.append_assoc] at h
          have hp : Holds M F H (resT r v ++ (σ.zip e ++ (resTs rs vs' ++ T))) := h.perm (List.Perm.append_left _ (by
            rw [← List.append_assoc, ← List.append_assoc]
            exact List.Perm.append_right _ List.perm_append_comm))
          obtain ⟨F1, s1, rp1, hh1, l1⟩ := frz1_ok hp l a1 h1
          have q2 : HoldsRs M F1 H σ e1 T rs vs' := ⟨hh1.perm (by
            rw [← List.append_assoc, ← List.append_assoc]
            exact List.Perm.append_right _ List.perm_append_comm), l1, a2⟩
          obtain ⟨F2, s2, rp2, hh2, l2⟩ := frzE_ok q2 h2
          exact ⟨F2, s1.trans s2, .cons (Rep.mono s2 rp1) rp2, hh2, l2⟩
theorem frzQ_E : ∀ {rs : List R} {ds : List D} {e : En}, frzQ rs = some ds → frzE rs e = some (ds, e)
  | [], _, _, h => by cases h; rfl
  | .val d :: rs, ds, e, h => by
    simp only [frzQ] at h
    cases h1 : frzQ rs with
    | none => rw [h1] at h; cases h
    | some ds' => rw [h1] at h; cases h; simp only [frzE, frz1, frzQ_E h1]
  | .fr d :: rs, ds, e, h => by
    simp only [frzQ] at h
    cases h1 : frzQ rs with
    | none => rw [h1] at h; cases h
    | some ds' => rw [h1] at h; cases h; simp only [frzE, frz1, frzQ_E h1]
  | .ob _ _ :: _, _, _, h => by simp [frzQ] at h
  | .pl _ :: _, _, _, h => by simp [frzQ] at h
  | .pf _ _ :: _, _, _, h => by simp [frzQ] at h
def dispTQ (fa : En → Option (List R)) : En → Option R := fun e => match fa e with
  | none => none
  | some rs => match frzQ rs with
    | none => none
    | some ds => if Nat.ble ds.length line then some (.val (.tuple ds)) else none
def dispLQ (fa : En → Option (List R)) : En → Option R := fun e => match fa e with
  | none => none
  | some rs => match frzQ rs with
    | none => none
    | some ds => if Nat.ble ds.length line then some (.fr (.list ds)) else none
def dispTE (fa : En → Oa) : En → Oe := fun e => (fa e).bind fun rs e1 => match frzE rs e1 with
  | none => .bad
  | some (ds, e2) => if Nat.ble ds.length line then .ok (.val (.tuple ds)) e2 else .bad
def dispLE (fa : En → Oa) : En → Oe := fun e => (fa e).bind fun rs e1 => match frzE rs e1 with
  | none => .bad
  | some (ds, e2) => if Nat.ble ds.length line then .ok (.fr (.list ds)) e2 else .bad
theorem sq_tup {x1} {fa : En → Option (List R)} (ha : AQ M X es fa) : SQ M X (.Tuple es x1 pos) (dispTQ fa) := by
  refine PE.weak (pe_tup ha) fun σ H Q ⟨F, e, T, r, h, l, hf, k⟩ => ?_
  unfold dispTQ at hf
  cases ha : fa e with
  | none => rw [ha] at hf; cases hf
  | some rs =>
    rw [ha] at hf; simp only at hf
    cases hz : frzQ rs with
    | none => rw [hz] at hf; cases hf
    | some ds =>
      rw [hz] at hf; simp only at hf
      split at hf
      · rename_i c
        cases hf
        refine ⟨F, e, T, rs, h, l, ha, fun F1 H1 xs s1 s2 q1 => ?_⟩
        obtain ⟨F2, s3, rp, h2, l2⟩ := frzE_ok q1 (frzQ_E hz)
        refine ⟨by rw [← rp.length]; exact le_line c, fun p hp => ?_⟩
        exact fin_tup h2 rp (fun F3 H3 v t1 t2 q3 pl => k F3 H3 v ((s1.trans s3).trans t1) (s2.trans t2) ⟨q3, l, resP_plain pl⟩) hp
      · cases hf
theorem sq_lst {fa : En → Option (List R)} (ha : AQ M X es fa) : SQ M X (.List es pos) (dispLQ fa) := by
  refine PE.weak (pe_lst ha) fun σ H Q ⟨F, e, T, r, h, l, hf, k⟩ => ?_
  unfold dispLQ at hf
  cases ha : fa e with
  | none => rw [ha] at hf; cases hf
  | some rs =>
    rw [ha] at hf; simp only at hf
    cases hz : frzQ rs with
    | none => rw [hz] at hf; cases hf
    | some ds =>
      rw [hz] at hf; simp only at hf
      split at hf
      · rename_i c
        cases hf
        refine ⟨F, e, T, rs, h, l, ha, fun F1 H1 xs s1 s2 q1 => ?_⟩
        obtain ⟨F2, s3, rp, h2, l2⟩ := frzE_ok q1 (frzQ_E hz)
        refine ⟨by rw [← rp.length]; exact le_line c, fun p hp => ?_⟩
        exact fin_lst h2 rp (fun F3 H3 v t1 t2 q3 pl => k F3 H3 v ((s1.trans s3).trans t1) (s2.trans t2) ⟨q3, l, resP_plain pl⟩) hp
      · cases hf
theorem se_tup {x1} {fa : En → Oa} (ha : AE M X W es fa) : SE M X W (.Tuple es x1 pos) (dispTE fa) := by
  refine PE.weak (pe_tup ha) fun σ H Q ⟨F, e, T, h, l, k⟩ => ⟨F, e, T, h, l, ?_⟩
  unfold dispTE at k
  cases ha : fa e with
  | bad => rw [ha] at k; exact k
  | ex c d e' => rw [ha] at k; exact k
  | ok rs e1 =>
    rw [ha] at k; simp only [Oa.bind] at k
    intro F1 H1 xs q1
    cases hz : frzE rs e1 with
    | none => rw [hz] at k; exact k.elim
    | some p =>
      obtain ⟨ds, e2⟩ := p
      rw [hz] at k; simp only at k
      split at k
      · rename_i c
        obtain ⟨F2, s3, rp, h2, l2⟩ := frzE_ok q1 hz
        refine ⟨by rw [← rp.length]; exact le_line c, fun p hp => ?_⟩
        exact fin_tup h2 rp (fun F3 H3 v t1 t2 q3 pl => k F3 H3 v ⟨q3, l2, resP_plain pl⟩) hp
      · exact k.elim
theorem se_lst {fa : En → Oa} (ha : AE M X W es fa) : SE M X W (.List es pos) (dispLE fa) := by
  refine PE.weak (pe_lst ha) fun σ H Q ⟨F, e, T, h, l, k⟩ => ⟨F, e, T, h, l, ?_⟩
  unfold dispLE at k
  cases ha : fa e with
  | bad => rw [ha] at k; exact k
  | ex c d e' => rw [ha] at k; exact k
  | ok rs e1 =>
    rw [ha] at k; simp only [Oa.bind] at k
    intro F1 H1 xs q1
    cases hz : frzE rs e1 with
    | none => rw [hz] at k; exact k.elim
    | some p =>
      obtain ⟨ds, e2⟩ := p
      rw [hz] at k; simp only at k
      split at k
      · rename_i c
        obtain ⟨F2, s3, rp, h2, l2⟩ := frzE_ok q1 hz
        refine ⟨by rw [← rp.length]; exact le_line c, fun p hp => ?_⟩
        exact fin_lst h2 rp (fun F3 H3 v t1 t2 q3 pl => k F3 H3 v ⟨q3, l2, resP_plain pl⟩) hp
      · exact k.elim
end
end Bv
set_option maxHeartbeats 2000000
namespace Bv
open PySem PySem.Spec L2

section
variable {M : Mx} {X : Cx} {W : WX} {F F' H H' : Hp} {σ : L2.St} {e e' : En} {T rs : List Re} {r : R} {v : V} {pos : Pos} {a b c : Expr} {rest es : List Expr}

/-! ### built-in functions -/
def gLen : List D → Option R
  | [.list ds] => some (.val (.int ds.length))
  | [.tuple ds] => some (.val (.int ds.length))
  | [.dict [(.none, .tuple ds)]] => some (.val (.int ds.length))
  | [.str z] => if Nat.ble z.length line then some (.val (.int z.length)) else none
  | _ => none
def rLen (K : PySem.W.Frag) : List V → Hp → VK → Prop := fun xs H Q => (∃ p ys, xs = [.ref p] ∧ (SqL K H p ys ∨ SqT K H p ys) ∧ Q (.int ys.length) H) ∨ ∃ z, xs = [.str z] ∧ z.length ≤ sizeLine ∧ Q (.int z.length) H
theorem call_lenA (fit : Fit M X) : CallR X (.builtin "len") (rLen M.K) := by rw [← fit.K]; exact call_len_seq.or call_len_str
theorem paired1 {P : D → V → Prop} {d : D} {xs : List V} (h : Paired P [d] xs) : ∃ x, xs = [x] ∧ P d x := by
  cases h with
  | cons a b => cases b; exact ⟨_, rfl, a⟩
theorem paired2 {P : D → V → Prop} {d d' : D} {xs : List V} (h : Paired P [d, d'] xs) : ∃ x y, xs = [x, y] ∧ P d x ∧ P d' y := by
  cases h with
  | cons a b =>
    obtain ⟨y, rfl, c⟩ := paired1 b
    exact ⟨_, y, rfl, a, c⟩
theorem o_len : OpN M (rLen M.K) gLen := by
  intro F H rs xs as res Q h hv e k
  unfold gLen at e
  split at e
  · rename_i ds
    cases e
    obtain ⟨x, rfl, hx⟩ := paired1 hv
    obtain ⟨p, vs, rfl, h1, r1⟩ := hx.lst h.sub
    exact .inl ⟨p, vs, rfl, .inl (SqL.of h1), by rw [← r1.length]; exact fin_val h (.int _) k⟩
  · rename_i ds
    cases e
    obtain ⟨x, rfl, hx⟩ := paired1 hv
    obtain ⟨p, vs, rfl, h1, r1⟩ := hx.tup h.sub
    exact .inl ⟨p, vs, rfl, .inr h1, by rw [← r1.length]; exact fin_val h (.int _) k⟩
  · rename_i ds
    cases e
    obtain ⟨x, rfl, hx⟩ := paired1 hv
    obtain ⟨p, vs, rfl, h1, r1⟩ := hx.rol h.sub
    exact .inl ⟨p, vs, rfl, .inl h1, by rw [← r1.length]; exact fin_val h (.int _) k⟩
  · rename_i z
    split at e
    · rename_i c
      cases e
      obtain ⟨x, rfl, hx⟩ := paired1 hv
      exact .inr ⟨z, by rw [hx.str], le_line c, fin_val h (.int _) k⟩
    · cases e
  · cases e
def gAbs : List D → Option R
  | [.int i] => some (.val (.int (if i < 0 then -i else i)))
  | _ => none
theorem o_abs : OpN M (fun xs H Q => ∃ i, xs = [.int i] ∧ Q (.int (if i < 0 then -i else i)) H) gAbs := by
  intro F H rs xs as res Q h hv e k
  unfold gAbs at e
  split at e
  · rename_i i
    cases e
    obtain ⟨x, rfl, hx⟩ := paired1 hv
    exact ⟨i, by rw [hx.int], fin_val h (.int _) k⟩
  · cases e
def gMax2 : List D → Option R
  | [.int i, .int j] => some (.val (.int (if j > i then j else i)))
  | _ => none
def gMin2 : List D → Option R
  | [.int i, .int j] => some (.val (.int (if j < i then j else i)))
  | _ => none
theorem o_max2 : OpN M (fun xs H Q => ∃ i j, xs = [.int i, .int j] ∧ Q (.int (if j > i then j else i)) H) gMax2 := by
  intro F H rs xs as res Q h hv e k
  unfold gMax2 at e
  split at e
  · rename_i i j
    cases e
    obtain ⟨x, y, rfl, hx, hy⟩ := paired2 hv
    exact ⟨i, j, by rw [hx.int, hy.int], fin_val h (.int _) k⟩
  · cases e
theorem o_min2 : OpN M (fun xs H Q => ∃ i j, xs = [.int i, .int j] ∧ Q (.int (if j < i then j else i)) H) gMin2 := by
  intro F H rs xs as res Q h hv e k
  unfold gMin2 at e
  split at e
  · rename_i i j
    cases e
    obtain ⟨x, y, rfl, hx, hy⟩ := paired2 hv
    exact ⟨i, j, by rw [hx.int, hy.int], fin_val h (.int _) k⟩
  · cases e
/-- allI, all -/
def allI : List D → Option (List Int)
  | [] => some []
  | .int i :: ds => match allI ds with
    | some is => some (i :: is)
    | none => none
  | _ => none
theorem ints_map : ∀ {ds : List D} {is : List Int}, allI ds = some is → ds = is.map PyData.int
  | [], _, h => by cases h; rfl
  | .int i :: ds, is, h => by
    simp only [allI] at h
    cases h1 : allI ds with
    | none => rw [h1] at h; cases h
    | some js => rw [h1] at h; cases h; rw [ints_map h1]; rfl
  | .none :: _, _, h => by simp [allI] at h
  | .bool _ :: _, _, h => by simp [allI] at h
  | .str _ :: _, _, h => by simp [allI] at h
  | .list _ :: _, _, h => by simp [allI] at h
  | .tuple _ :: _, _, h => by simp [allI] at h
  | .dict _ :: _, _, h => by simp [allI] at h
theorem RepAll.isInts {F : Hp} : ∀ {is : List Int} {vs : List V}, M.RepAll F (is.map PyData.int) vs → vs = is.map V.int
  | [], _, .nil => rfl
  | i :: is, _, .cons a b => by
    cases a
    rw [RepAll.isInts b]; rfl
def allB : List D → Option (List Bool)
  | [] => some []
  | .bool i :: ds => match allB ds with
    | some is => some (i :: is)
    | none => none
  | _ => none
theorem bools_map : ∀ {ds : List D} {is : List Bool}, allB ds = some is → ds = is.map PyData.bool
  | [], _, h => by cases h; rfl
  | .bool i :: ds, is, h => by
    simp only [allB] at h
    cases h1 : allB ds with
    | none => rw [h1] at h; cases h
    | some js => rw [h1] at h; cases h; rw [bools_map h1]; rfl
  | .none :: _, _, h => by simp [allB] at h
  | .int _ :: _, _, h => by simp [allB] at h
  | .str _ :: _, _, h => by simp [allB] at h
  | .list _ :: _, _, h => by simp [allB] at h
  | .tuple _ :: _, _, h => by simp [allB] at h
  | .dict _ :: _, _, h => by simp [allB] at h
theorem RepAll.isBools {F : Hp} : ∀ {is : List Bool} {vs : List V}, M.RepAll F (is.map PyData.bool) vs → vs = is.map V.bl
  | [], _, .nil => rfl
  | i :: is, _, .cons a b => by
    cases a
    rw [RepAll.isBools b]; rfl
def maxI : Int → List Int → Int
  | m, [] => m
  | m, i :: is => maxI (if m < i then i else m) is
def minI : Int → List Int → Int
  | m, [] => m
  | m, i :: is => minI (if i < m then i else m) is
theorem maxI_spec : ∀ (is : List Int) (m : Int), (maxI m is ∈ m :: is) ∧ ∀ y ∈ m :: is, y ≤ maxI m is
  | [], m => ⟨by simp [maxI], by intro y hy; simp at hy; simp [maxI, hy]⟩
  | i :: is, m => by
    obtain ⟨h1, h2⟩ := maxI_spec is (if m < i then i else m)
    simp only [maxI]
    have hm : i ≤ (if m < i then i else m) ∧ m ≤ (if m < i then i else m) := by split <;> omega
    refine ⟨?_, fun y hy => ?_⟩
    · rcases List.mem_cons.mp h1 with h | h
      · rw [h]; split <;> simp
      · simp [h]
    · have h3 := h2 (if m < i then i else m) (by simp)
      rcases List.mem_cons.mp hy with rfl | hy
      · exact Int.le_trans hm.2 h3
      · rcases List.mem_cons.mp hy with rfl | hy
        · exact Int.le_trans hm.1 h3
        · exact h2 y (by simp [hy])
theorem minI_spec : ∀ (is : List Int) (m : Int), (minI m is ∈ m :: is) ∧ ∀ y ∈ m :: is, minI m is ≤ y
  | [], m => ⟨by simp [minI], by intro y hy; simp at hy; simp [minI, hy]⟩
  | i :: is, m => by
    obtain ⟨h1, h2⟩ := minI_spec is (if i < m then i else m)
    simp only [minI]
    have hm : (if i < m then i else m) ≤ i ∧ (if i < m then i else m) ≤ m := by split <;> omega
    refine ⟨?_, fun y hy => ?_⟩
    · rcases List.mem_cons.mp h1 with h | h
      · rw [h]; split <;> simp
      · simp [h]
    · have h3 := h2 (if i < m then i else m) (by simp)
      rcases List.mem_cons.mp hy with rfl | hy
      · exact Int.le_trans h3 hm.2
      · rcases List.mem_cons.mp hy with rfl | hy
        · exact Int.le_trans h3 hm.1
        · exact h2 y (by simp [hy])
def gMaxL : List D → Option R
  | [.list ds] => match allI ds with
    | some (i :: is) => some (.val (.int (maxI i is)))
    | _ => none
  | _ => none
def gMinL : List D → Option R
  | [.list ds] => match allI ds with
    | some (i :: is) => some (.val (.int (minI i is)))
    | _ => none
  | _ => none
def gSum : List D → Option R
  | [.list ds] => match allI ds with
    | some is => some (.val (.int is.sum))
    | _ => none
  | _ => none
theorem o_maxL : OpN M (rMax M.K) gMaxL := by
  intro F H rs xs as res Q h hv e k
  unfold gMaxL at e
  split at e
  · rename_i ds
    split at e
    · rename_i i is hi
      cases e
      obtain ⟨x, rfl, hx⟩ := paired1 hv
      obtain ⟨p, vs, rfl, h1, r1⟩ := hx.lst h.sub
      rw [ints_map hi] at r1
      have := r1.isInts
      subst this
      obtain ⟨m1, m2⟩ := maxI_spec is i
      refine ⟨p, i :: is, rfl, SqL.of h1, by simp, fun m h3 h4 => ?_⟩
      have e1 : m = maxI i is := Int.le_antisymm (m2 m h3) (h4 _ m1)
      rw [e1]; exact fin_val h (.int _) k
    · cases e
  · cases e
theorem o_minL : OpN M (rMin M.K) gMinL := by
  intro F H rs xs as res Q h hv e k
  unfold gMinL at e
  split at e
  · rename_i ds
    split at e
    · rename_i i is hi
      cases e
      obtain ⟨x, rfl, hx⟩ := paired1 hv
      obtain ⟨p, vs, rfl, h1, r1⟩ := hx.lst h.sub
      rw [ints_map hi] at r1
      have := r1.isInts
      subst this
      obtain ⟨m1, m2⟩ := minI_spec is i
      refine ⟨p, i :: is, rfl, SqL.of h1, by simp, fun m h3 h4 => ?_⟩
      have e1 : m = minI i is := Int.le_antisymm (h4 _ m1) (m2 m h3)
      rw [e1]; exact fin_val h (.int _) k
    · cases e
  · cases e
theorem o_sum : OpN M (rSum M.K) gSum := by
  intro F H rs xs as res Q h hv e k
  unfold gSum at e
  split at e
  · rename_i ds
    split at e
    · rename_i is hi
      cases e
      obtain ⟨x, rfl, hx⟩ := paired1 hv
      obtain ⟨p, vs, rfl, h1, r1⟩ := hx.lst h.sub
      rw [ints_map hi] at r1
      have := r1.isInts
      subst this
      exact ⟨p, is, rfl, SqL.of h1, fin_val h (.int _) k⟩
    · cases e
  · cases e
theorem cr_maxA (fit : Fit M X) : CallR X (.builtin "max") (rMax M.K) := by rw [← fit.K]; exact cr_max fit.calm
theorem cr_minA (fit : Fit M X) : CallR X (.builtin "min") (rMin M.K) := by rw [← fit.K]; exact cr_min fit.calm
theorem cr_sumA (fit : Fit M X) : CallR X (.builtin "sum") (rSum M.K) := by rw [← fit.K]; exact cr_sum fit.calm
theorem cr_allA (fit : Fit M X) : CallR X (.builtin "all") (rAll M.K) := by rw [← fit.K]; exact cr_all fit.calm
theorem cr_anyA (fit : Fit M X) : CallR X (.builtin "any") (rAny M.K) := by rw [← fit.K]; exact cr_any fit.calm
def gAll : List D → Option R
  | [.list ds] => match allB ds with
    | some bs => some (.val (.bool (bs.all id)))
    | none => none
  | _ => none
def gAny : List D → Option R
  | [.list ds] => match allB ds with
    | some bs => some (.val (.bool (bs.any id)))
    | none => none
  | _ => none
theorem o_all : OpN M (rAll M.K) gAll := by
  intro F H rs xs as res Q h hv e k
  unfold gAll at e
  split at e
  · rename_i ds
    split at e
    · rename_i is hi
      cases e
      obtain ⟨x, rfl, hx⟩ := paired1 hv
      obtain ⟨p, vs, rfl, h1, r1⟩ := hx.lst h.sub
      rw [bools_map hi] at r1
      have := r1.isBools
      subst this
      exact ⟨p, is, rfl, SqL.of h1, fin_val h (.bl _) k⟩
    · cases e
  · cases e
theorem o_any : OpN M (rAny M.K) gAny := by
  intro F H rs xs as res Q h hv e k
  unfold gAny at e
  split at e
  · rename_i ds
    split at e
    · rename_i is hi
      cases e
      obtain ⟨x, rfl, hx⟩ := paired1 hv
      obtain ⟨p, vs, rfl, h1, r1⟩ := hx.lst h.sub
      rw [bools_map hi] at r1
      have := r1.isBools
      subst this
      exact ⟨p, is, rfl, SqL.of h1, fin_val h (.bl _) k⟩
    · cases e
  · cases e
/-- tuple(x), list(x) of a list or tuple -/
def gTuple : List D → Option R
  | [.list ds] => some (.val (.tuple ds))
  | [.tuple ds] => some (.val (.tuple ds))
  | _ => none
def gList : List D → Option R
  | [.list ds] => some (.fr (.list ds))
  | [.tuple ds] => some (.fr (.list ds))
  | _ => none
def rTupleA (K : PySem.W.Frag) : List V → Hp → VK → Prop := fun xs H Q => ∃ x, xs = [x] ∧ kTup K x H Q
theorem call_tupleA (fit : Fit M X) : CallR X (.type "tuple") (rTupleA M.K) := by
  rw [← fit.K]
  intro pins s σ H xs us Q I rx h
  obtain ⟨x, rfl, h⟩ := h
  obtain ⟨u, rfl, r1⟩ := vals1 rx
  exact rl_tuple pins s σ H x u Q I r1 h
theorem o_tuple : OpN M (rTupleA M.K) gTuple := by
  intro F H rs xs as res Q h hv e k
  unfold gTuple at e
  split at e
  · rename_i ds
    cases e
    obtain ⟨x, rfl, hx⟩ := paired1 hv
    obtain ⟨p, vs, rfl, h1, r1⟩ := hx.lst h.sub
    exact ⟨_, rfl, .inl ⟨p, vs, rfl, SqL.of h1, fun q hq => fin_tup h r1 k hq⟩⟩
  · rename_i ds
    cases e
    obtain ⟨x, rfl, hx⟩ := paired1 hv
    obtain ⟨p, vs, e1, h1, r1⟩ := hx.tup h.sub
    exact ⟨_, rfl, .inr ⟨p, vs, e1, h1, by rw [← e1]; exact fin_val h hx.tupR k⟩⟩
  · cases e
def rListA (K : PySem.W.Frag) : List V → Hp → VK → Prop := fun xs H Q => ∃ p ys, xs = [.ref p] ∧ (SqL K H p ys ∨ SqT K H p ys) ∧ ∀ l, H l = none → Q (.ref l) (upd H l (.lst ys))
theorem call_listA (fit : Fit M X) : CallR X (.type "list") (rListA M.K) := by rw [← fit.K]; exact call_list_of
theorem o_list : OpN M (rListA M.K) gList := by
  intro F H rs xs as res Q h hv e k
  unfold gList at e
  split at e
  · rename_i ds
    cases e
    obtain ⟨x, rfl, hx⟩ := paired1 hv
    obtain ⟨p, vs, rfl, h1, r1⟩ := hx.lst h.sub
    exact ⟨p, vs, rfl, .inl (SqL.of h1), fun q hq => fin_lst h r1 k hq⟩
  · rename_i ds
    cases e
    obtain ⟨x, rfl, hx⟩ := paired1 hv
    obtain ⟨p, vs, rfl, h1, r1⟩ := hx.tup h.sub
    exact ⟨p, vs, rfl, .inr h1, fun q hq => fin_lst h r1 k hq⟩
  · cases e
/-- int(x) -/
def gInt : List D → Option R
  | [.int i] => some (.val (.int i))
  | [.bool b] => some (.val (.int (if b = true then 1 else 0)))
  | _ => none
theorem o_int : OpN M (fun xs H Q => (∃ i, xs = [.int i] ∧ Q (.int i) H) ∨ ∃ k, xs = [.bl k] ∧ Q (.int (if k then 1 else 0)) H) gInt := by
  intro F H rs xs as res Q h hv e k
  unfold gInt at e
  split at e
  · cases e
    obtain ⟨x, rfl, hx⟩ := paired1 hv
    exact .inl ⟨_, by rw [hx.int], fin_val h (.int _) k⟩
  · cases e
    obtain ⟨x, rfl, hx⟩ := paired1 hv
    exact .inr ⟨_, by rw [hx.bool], fin_val h (.int _) k⟩
  · cases e

/-! ### slices -/
def cutD (xs : List D) (lo hi : Option Int) : List D := (xs.drop (HT.sIx xs.length 0 lo)).take (HT.sIx xs.length xs.length hi - HT.sIx xs.length 0 lo)
theorem RepAll.cut {F : Hp} {ds : List D} {vs : List V} (r : M.RepAll F ds vs) (lo hi : Option Int) : M.RepAll F (cutD ds lo hi) (cutV vs lo hi) := by
  unfold cutD cutV
  rw [r.length]
  exact (r.drop _).take _
def gSl (d : D) (lo hi : Option Int) : Option R := match d with
  | .list ds => some (.fr (.list (cutD ds lo hi)))
  | .tuple ds => some (.val (.tuple (cutD ds lo hi)))
  | .dict [(.none, .tuple ds)] => some (.fr (.list (cutD ds lo hi)))
  | _ => none
def rSlS (K : PySem.W.Frag) : V → Option Int → Option Int → Hp → VK → Prop := fun x lo hi H Q => rSlL K x lo hi H Q ∨ rSlA K x lo hi H Q
theorem sl_S (fit : Fit M X) : SlR X (rSlS M.K) := by rw [← fit.K]; exact SlR.or sl_list sl_tupA
theorem cut_whole {ds : List D} {lo hi : Option Int} (h : HT.sIx ds.length 0 lo = 0 ∧ HT.sIx ds.length ds.length hi = ds.length) : cutD ds lo hi = ds := by
  unfold cutD
  rw [h.1, h.2]
  simp
theorem o_slice {x : V} {d : D} {lo hi : Option Int} {res : R} {Q : VK} (h : Holds M F H rs) (hx : Vw M F H d x) (e : gSl d lo hi = some res)
    (k : ∀ F' H' v, Same F F' → Same H H' → Holds M F' H' (resT res v ++ rs) → res.plain = true → Q v H') : rSlS M.K x lo hi H Q := by
  unfold gSl at e
  split at e
  · rename_i ds
    cases e
    obtain ⟨p, vs, rfl, h1, r1⟩ := hx.lst h.sub
    exact .inl ⟨p, vs, rfl, SqL.of h1, fun q hq => fin_lst h (r1.cut lo hi) k hq⟩
  · rename_i ds
    cases e
    obtain ⟨p, vs, e1, h1, r1⟩ := hx.tup h.sub
    refine .inr ⟨p, vs, e1, h1, fun z => ?_, fun z q hq => fin_tup h (r1.cut lo hi) k hq⟩
    rw [← r1.length] at z
    rw [cut_whole z] at k
    rw [← e1]; exact fin_val h hx.tupR k
  · rename_i ds
    cases e
    obtain ⟨p, vs, rfl, h1, r1⟩ := hx.rol h.sub
    exact .inl ⟨p, vs, rfl, h1, fun q hq => fin_lst h (r1.cut lo hi) k hq⟩
  · cases e
/-- a bound of a slice -/
def tO (M : Mx) (f : En → Option (Option Int)) : TO := fun σ H Q => ∃ F e T o, Holds M F H (σ.zip e ++ T) ∧ σ.length = e.length ∧ f e = some o ∧ ∀ F' H', Same F F' → Same H H' → Holds M F' H' (σ.zip e ++ T) → Q o H'
def OQ (M : Mx) (X : Cx) (x : Option Expr) (f : En → Option (Option Int)) : Prop := PO X x (tO M f)
def noO : En → Option (Option Int) := fun _ => some none
def someO (f : En → Option R) : En → Option (Option Int) := fun e => match f e with
  | none => none
  | some r => match rd r e with
    | some (.int i) => some (some i)
    | _ => none
theorem PO.weak {x : Option Expr} {t t' : TO} (h : PO X x t) (k : ∀ σ H Q, t' σ H Q → t σ H Q) : PO X x t' := ⟨fun pins s σ H Q I h' => h.run pins s σ H Q I (k σ H Q h')⟩
theorem oq_none : OQ M X none noO := PO.weak po_none fun σ H Q ⟨F, e, T, o, h, l, hf, k⟩ => by
  cases hf
  exact k F H (Same.refl F) (Same.refl H) h
theorem oq_some {f : En → Option R} (h : SQ M X a f) : OQ M X (some a) (someO f) := by
  refine PO.weak (po_some h) fun σ H Q ⟨F, e, T, o, h, l, hf, k⟩ => ?_
  unfold someO at hf
  cases hfe : f e with
  | none => rw [hfe] at hf; cases hf
  | some r =>
    rw [hfe] at hf; simp only at hf
    split at hf
    · rename_i i hi
      cases hf
      exact ⟨F, e, T, r, h, l, hfe, fun F1 H1 x s1 s2 q => ⟨i, (q.vw hi).int, k F1 H1 s1 s2 (q.h.sl (List.sublist_append_right _ _))⟩⟩
    · cases hf
def sliceQ (f : En → Option R) (lo hi : En → Option (Option Int)) : En → Option R := fun e => match f e with
  | none => none
  | some r => match rd r e with
    | none => none
    | some d => match lo e with
      | none => none
      | some l => match hi e with
        | none => none
        | some h => gSl d l h
def sliceE (f : En → Oe) (lo hi : En → Option (Option Int)) : En → Oe := fun e => (f e).bind fun r e1 => match rd r e1 with
  | none => .bad
  | some d => match lo e1 with
    | none => .bad
    | some l => match hi e1 with
      | none => .bad
      | some h => match gSl d l h with
        | some res => .ok res e1
        | none => .bad
theorem sq_slice {f : En → Option R} {lo hi : En → Option (Option Int)} {xl xh : Option Expr} {p2 : Pos} (fit : Fit M X) (ha : SQ M X a f) (hl : OQ M X xl lo) (hh : OQ M X xh hi) : SQ M X (.Subscript a (.Slice xl xh none p2) pos) (sliceQ f lo hi) := by
  refine PE.weak (pe_slice (sl_S fit) ha hl hh) fun σ H Q ⟨F, e, T, res, h, l, hf, k⟩ => ?_
  unfold sliceQ at hf
  cases h1 : f e with
  | none => rw [h1] at hf; cases hf
  | some r =>
    rw [h1] at hf; simp only at hf
    cases h2 : rd r e with
    | none => rw [h2] at hf; cases hf
    | some d =>
      rw [h2] at hf; simp only at hf
      cases h3 : lo e with
      | none => rw [h3] at hf; cases hf
      | some lv =>
        rw [h3] at hf; simp only at hf
        cases h4 : hi e with
        | none => rw [h4] at hf; cases hf
        | some hv =>
          rw [h4] at hf; simp only at hf
          refine ⟨F, e, T, r, h, l, h1, fun F1 H1 x s1 s2 q1 => ⟨F1, e, _, lv, q1.wait, l, h3, fun F2 H2 s3 s4 q2 => ⟨F2, e, _, hv, q2, l, h4, fun F3 H3 s5 s6 q3 => ?_⟩⟩⟩
          refine o_slice (rs := σ.zip e ++ T) (q3.sl (List.Sublist.append_left (List.sublist_append_right _ _) _)) (((q1.vw h2).mono s3 s4).mono s5 s6) hf fun F4 H4 v s7 s8 q4 pl => ?_
          exact k F4 H4 v (((s1.trans s3).trans s5).trans s7) (((s2.trans s4).trans s6).trans s8) ⟨q4, l, resP_plain pl⟩
theorem se_slice {f : En → Oe} {lo hi : En → Option (Option Int)} {xl xh : Option Expr} {p2 : Pos} (fit : Fit M X) (ha : SE M X W a f) (hl : OQ M X xl lo) (hh : OQ M X xh hi) : SE M X W (.Subscript a (.Slice xl xh none p2) pos) (sliceE f lo hi) := by
  refine PE.weak (pe_slice (sl_S fit) ha hl hh) fun σ H Q ⟨F, e, T, h, l, k⟩ => ⟨F, e, T, h, l, ?_⟩
  unfold sliceE at k
  cases h1 : f e with
  | bad => rw [h1] at k; exact k
  | ex c d e' => rw [h1] at k; exact k
  | ok r e1 =>
    rw [h1] at k; simp only [Oe.bind] at k
    intro F1 H1 x q1
    cases h2 : rd r e1 with
    | none => rw [h2] at k; exact k.elim
    | some d =>
      rw [h2] at k; simp only at k
      cases h3 : lo e1 with
      | none => rw [h3] at k; exact k.elim
      | some lv =>
        rw [h3] at k; simp only at k
        cases h4 : hi e1 with
        | none => rw [h4] at k; exact k.elim
        | some hv =>
          rw [h4] at k; simp only at k
          cases h5 : gSl d lv hv with
          | none => rw [h5] at k; exact k.elim
          | some res =>
            rw [h5] at k
            refine ⟨F1, e1, _, lv, q1.wait, q1.len, h3, fun F2 H2 s3 s4 q2 => ⟨F2, e1, _, hv, q2, q1.len, h4, fun F3 H3 s5 s6 q3 => ?_⟩⟩
            refine o_slice (rs := σ.zip e1 ++ T) (q3.sl (List.Sublist.append_left (List.sublist_append_right _ _) _)) (((q1.vw h2).mono s3 s4).mono s5 s6) h5 fun F4 H4 v s7 s8 q4 pl => ?_
            exact k F4 H4 v ⟨q4, q1.len, resP_plain pl⟩
/-! ### a op b op' c -/
def chainQ (fa fb fc : En → Option R) (g g' : D → D → Option R) : En → Option R := fun e => match fa e with
  | none => none
  | some ra => match fb e with
    | none => none
    | some rb => match rd ra e with
      | none => none
      | some a => match rd rb e with
        | none => none
        | some b => match g a b with
          | some (.val (.bool true)) => match fc e with
            | none => none
            | some rc => match rd rc e with
              | some c => g' b c
              | none => none
          | some (.val (.bool false)) => some (.val (.bool false))
          | _ => none
def chainE (fa fb : En → Option R) (fc : En → Oe) (g g' : D → D → Option R) : En → Oe := fun e => match fa e with
  | none => .bad
  | some ra => match fb e with
    | none => .bad
    | some rb => match rdI ra e with
      | none => .bad
      | some a => match rdI rb e with
        | none => .bad
        | some b => match g a b with
          | some (.val (.bool true)) => (fc e).bind fun rc e1 => match rd rc e1 with
            | some c => match rdI rb e1 with
              | some b' => match g' b' c with
                | some res => .ok res e1
                | none => .bad
              | none => .bad
            | none => .bad
          | some (.val (.bool false)) => .ok (.val (.bool false)) e
          | _ => .bad
theorem tq_chain {r r' : R2} {g g' : D → D → Option R} {fa fb fc : En → Option R} (ho : Op2 M r g) (ho' : Op2 M r' g') {H : Hp} {Q : VK} (h : tQ M (chainQ fa fb fc g g') σ H Q) : tChain r r' (tQ M fa) (tQ M fb) (tQ M fc) σ H Q := by
  obtain ⟨F, e, T, res, h, l, hf, k⟩ := h
  unfold chainQ at hf
  cases h1 : fa e with
  | none => rw [h1] at hf; cases hf
  | some ra =>
    rw [h1] at hf; simp only at hf
    cases h2 : fb e with
    | none => rw [h2] at hf; cases hf
    | some rb =>
      rw [h2] at hf; simp only at hf
      cases h3 : rd ra e with
      | none => rw [h3] at hf; cases hf
      | some a =>
        rw [h3] at hf; simp only at hf
        cases h4 : rd rb e with
        | none => rw [h4] at hf; cases hf
        | some b =>
          rw [h4] at hf; simp only at hf
          refine ⟨F, e, T, ra, h, l, h1, fun F1 H1 x s1 t1 q1 => ⟨F1, e, _, rb, q1.wait, l, h2, fun F2 H2 y s2 t2 q2 => ?_⟩⟩
          cases h5 : g a b with
          | none => rw [h5] at hf; cases hf
          | some gr =>
            refine ho F2 H2 _ x y a b gr _ q2.h ((q1.vw h3).mono s2 t2) (q2.vw h4) h5 fun F3 H3 z s3 t3 q3 pl => ?_
            rw [h5] at hf
            split at hf
            · rename_i heq
              cases heq
              obtain ⟨z', ez, rz⟩ := Holds.rep q3
              cases ez; cases rz
              refine ⟨true, rfl, iteT ?_⟩
              cases h6 : fc e with
              | none => rw [h6] at hf; cases hf
              | some rc =>
                rw [h6] at hf; simp only at hf
                cases h7 : rd rc e with
                | none => rw [h7] at hf; cases hf
                | some c =>
                  rw [h7] at hf; simp only at hf
                  refine ⟨F3, e, T, rc, q3.drop.sl ((List.Sublist.append_left (List.sublist_append_right _ _) _).trans (List.sublist_append_right _ _)), l, h6, fun F4 H4 w' s4 t4 q4 => ?_⟩
                  refine ho' F4 H4 _ y w' b c res Q q4.h (((q2.vw h4).mono s3 t3).mono s4 t4) (q4.vw h7) hf fun F5 H5 u s5 t5 q5 pl => ?_
                  exact k F5 H5 u ((((s1.trans s2).trans s3).trans s4).trans s5) ((((t1.trans t2).trans t3).trans t4).trans t5) ⟨q5.sl (List.Sublist.append_left (List.sublist_append_right _ _) _), l, resP_plain pl⟩
            · rename_i heq
              cases heq
              cases hf
              obtain ⟨z', ez, rz⟩ := Holds.rep q3
              cases ez; cases rz
              refine ⟨false, rfl, iteF ?_⟩
              refine k F3 H3 _ ((s1.trans s2).trans s3) ((t1.trans t2).trans t3) ⟨q3.sl ?_, l, trivial⟩
              exact List.Sublist.append_left ((List.Sublist.append_left (List.sublist_append_right _ _) _).trans (List.sublist_append_right _ _)) _
            · cases hf
theorem sq_chain {op op' : CmpOp} {r r' : R2} {g g' : D → D → Option R} {fa fb fc : En → Option R} (hop : OpR X (compareOp op) r) (ho : Op2 M r g) (hop' : OpR X (compareOp op') r') (ho' : Op2 M r' g') (ha : SQ M X a fa) (hb : SQ M X b fb) (hc : SQ M X c fc)
    (hm : lastMarks [op, op'] [b, c] = false := by with_unfolding_all rfl) : SQ M X (.Compare a [op, op'] [b, c] pos) (chainQ fa fb fc g g') := PE.weak (pe_chain hop hop' ha hb hc hm) fun σ H Q h => tq_chain ho ho' h
theorem tq_chainT {op op' : CmpOp} {r r' : R2} {g g' : D → D → Option R} {fa fb fc : En → Option R} (hop : OpR X (compareOp op) r) (ho : Op2 M r g) (hop' : OpR X (compareOp op') r') (ho' : Op2 M r' g') (ha : SQ M X a fa) (hb : SQ M X b fb) (hc : SQ M X c fc)
    (hm : lastMarks [op, op'] [b, c] = false := by with_unfolding_all rfl) : TQ M X (.Compare a [op, op'] [b, c] pos) (asB (chainQ fa fb fc g g')) := PT.weak (pt_chain hop hop' ha hb hc hm) fun σ H Q h => tq_test (tq_chain ho ho') h
end
end Bv
set_option maxHeartbeats 2000000
namespace Bv
open PySem PySem.Spec L2

/-! ### functions -/
inductive Oc where
  | ret (s : Sl) (as : List Sl) | ex (c : Nat) (d : D) (as : List Sl) | bad
abbrev Fn := List Sl → Oc
def zipV (vs : List V) (ss : List Sl) : List Re := (vs.map some).zip ss
def spF (M : Mx) (n : Nat) (m : Fn) : Sp := fun vs H Q E => ∃ F ss T, vs.length = n ∧ ss.length = n ∧ Holds M F H (zipV vs ss ++ T) ∧ (match m ss with
  | .ret s as => ∀ F' H' v, as.length = n → Holds M F' H' ((some v, s) :: (zipV vs as ++ T)) → Q v H'
  | .ex c d as => ∀ F' H' dx vx, as.length = n → Holds M F' H' (zipV vs as ++ T) → H' dx = some (.xd [(M.xf c, vx)]) → M.Rep F' d vx → E (.ref (M.xc c)) (some dx) H'
  | .bad => False)
/-- a def of the module's -/
structure FnIn (M : Mx) (P : Program) (w : World) (K : PySem.W.Frag) (mg : Str → Option Value) (base : Heap) (k n : Nat) (x : Str) (m : Fn) : Prop where
  ex : ∃ f fd ps, FnOk P w K mg base (L2.CX P w) k f fd ps (spF M n m) ∧ mg x = some (.ref f) ∧ PySem.W.keepIn K (.ref f) = true ∧ Binds K fd ps []
/-- a method -/
structure MtIn (M : Mx) (P : Program) (w : World) (K : PySem.W.Frag) (mg : Str → Option Value) (base : Heap) (k n c : Nat) (x : Str) (m : Fn) : Prop where
  ex : ∃ f fd ps, FnOk P w K mg base (L2.CX P w) k f fd ps (spF M n m) ∧ Meth K (M.cl c) x f ∧ Binds K fd ps []
  no : x ∉ M.fn c
/-- a class of the module's -/
structure ClIn (M : Mx) (K : PySem.W.Frag) (c : Nat) : Prop where
  cls : Cls K (M.cl c)
  att : ∀ f ∈ M.fn c, NoAttr K (M.cl c) f
  nd : (M.fn c).Nodup
  few : (M.fn c).length < 1000
structure NwIn (M : Mx) (P : Program) (w : World) (K : PySem.W.Frag) (mg : Str → Option Value) (base : Heap) (k n c : Nat) (x : Str) (m : Fn) : Prop where
  ex : ∃ f fd ps, FnOk P w K mg base (L2.CX P w) k f fd ps (spF M (n + 1) m) ∧ Mk K (M.cl c) f ∧ mg x = some (.ref (M.cl c)) ∧ Binds K fd ps []

def gather1 : R → En → Option (Sl × En)
  | .val d, e => some (.fz d, e)
  | .fr d, e => some (.ow d, e)
  | .ob c fs, e => some (.ob c fs, e)
  | .pl i, e => match gt e i with
    | .un => none
    | s => some (s, e.set i .un)
  | .pf _ _, _ => none
def gather : List R → En → Option (List Sl × En)
  | [], e => some ([], e)
  | r :: rs, e => match gather1 r e with
    | none => none
    | some (s, e1) => match gather rs e1 with
      | none => none
      | some (ss, e2) => some (s :: ss, e2)
def back1 : R → Sl → En → En
  | .pl i, s, e => e.set i s
  | _, _, e => e
def back : List R → List Sl → En → En
  | r :: rs, s :: ss, e => back rs ss (back1 r s e)
  | _, _, e => e
def slR : Sl → Option R
  | .fz d => some (.val d)
  | .ow d => some (.fr d)
  | .ob c fs => some (.ob c fs)
  | .un => none
def callE (n : Nat) (m : Fn) (fas : En → Oa) : En → Oe := fun e => (fas e).bind fun rs e1 => match gather rs e1 with
  | none => .bad
  | some (ss, e2) => match Nat.beq ss.length n with
    | false => .bad
    | true => match m ss with
      | .ret s as => match slR s with
        | some r => .ok r (back rs as e2)
        | none => .bad
      | .ex c d as => .ex c d (back rs as e2)
      | .bad => .bad

section
variable {M : Mx} {X : Cx} {W : WX} {F F' H H' : Hp} {σ : L2.St} {e e' : En} {T rs : List Re} {r : R} {v : V} {pos : Pos} {a b c o : Expr} {rest es : List Expr}

theorem perm_sw (A B C : List Re) : (A ++ (B ++ C)).Perm (B ++ (A ++ C)) := by
  rw [← List.append_assoc, ← List.append_assoc]
  exact List.Perm.append_right _ List.perm_append_comm
theorem gather1_ok {A : List Re} {s : Sl} (h : Holds M F H (A ++ (resT r v ++ (σ.zip e ++ T)))) (l : σ.length = e.length) (p : resP σ H r v) (hf : gather1 r e = some (s, e')) :
    Holds M F H (A ++ ((some v, s) :: (σ.zip e' ++ T))) ∧ σ.length = e'.length := by
  cases r with
  | val d => cases hf; exact ⟨h, l⟩
  | fr d => cases hf; exact ⟨h, l⟩
  | ob c fs => cases hf; exact ⟨h, l⟩
  | pf i f => cases hf
  | pl i =>
    simp only [gather1] at hf
    have lt : i < e.length := gt_lt (fun z => by rw [z] at hf; cases hf)
    obtain ⟨w, rest, h1, h2, h3⟩ := focus1 l lt
    have p' : σ[i]? = some (some v) := p
    rw [p'] at h1
    obtain rfl : some v = w := Option.some.inj h1
    have key : s = gt e i ∧ e' = e.set i .un := by
      revert hf
      cases gt e i <;> intro hf <;> cases hf <;> exact ⟨rfl, rfl⟩
    obtain ⟨rfl, rfl⟩ := key
    refine ⟨?_, by rw [List.length_set]; exact l⟩
    have q : Holds M F H (A ++ ((some v, gt e i) :: (rest ++ T))) := h.perm (List.Perm.append_left _ (List.Perm.append_right T h2))
    have q2 : Holds M F H ((some v, .un) :: (A ++ ((some v, gt e i) :: (rest ++ T)))) := q.addUn
    refine q2.perm ?_
    refine (List.perm_middle (l₁ := (some v, Sl.un) :: A)).trans ?_
    refine List.Perm.trans ?_ (List.perm_middle).symm
    refine List.Perm.cons _ ?_
    refine List.Perm.trans ?_ (List.Perm.append_left A (List.Perm.append_right T (h3 .un).symm))
    exact (List.perm_middle (l₁ := A)).symm
theorem gather_ok : ∀ {rs : List R} {vs : List V} {e e' : En} {A : List Re} {ss : List Sl}, Holds M F H (A ++ (resTs rs vs ++ (σ.zip e ++ T))) → σ.length = e.length → Paired (resP σ H) rs vs → gather rs e = some (ss, e') →
    Holds M F H (A ++ (zipV vs ss ++ (σ.zip e' ++ T))) ∧ σ.length = e'.length ∧ ss.length = vs.length
  | [], _, e, _, A, _, h, l, at_, hf => by
    cases hf
    cases at_
    exact ⟨h, l, rfl⟩
  | r :: rs, vs, e, e', A, ss, h, l, at_, hf => by
    cases at_ with
    | cons a1 a2 =>
      rename_i v vs'
      simp only [gather] at hf
      cases h1 : gather1 r e with
      | none => rw [h1] at hf; cases hf
      | some p =>
        obtain ⟨s, e1⟩ := p
        rw [h1] at hf; simp only at hf
        cases h2 : gather rs e1 with
        | none => rw [h2] at hf; cases hf
        | some p2 =>
          obtain ⟨ss', e2⟩ := p2
          rw [h2] at hf; cases hf
          simp only [resTs, List.append_assoc] at h
          have hp : Holds M F H ((A ++ resTs rs vs') ++ (resT r v ++ (σ.zip e ++ T))) := h.perm (by
            rw [List.append_assoc]
            exact List.Perm.append_left A (perm_sw _ _ _))
          obtain ⟨q1, l1⟩ := gather1_ok hp l a1 h1
          have q2 : Holds M F H ((A ++ [(some v, s)]) ++ (resTs rs vs' ++ (σ.zip e1 ++ T))) := q1.perm (by
            rw [List.append_assoc, List.append_assoc]
            refine List.Perm.append_left A ?_
            exact List.perm_middle)
          obtain ⟨q3, l3, n3⟩ := gather_ok q2 l1 a2 h2
          refine ⟨?_, l3, by simp [n3]⟩
          rw [List.append_assoc] at q3
          exact q3
theorem back_ok : ∀ {rs : List R} {vs : List V} {e : En} {A : List Re} {as : List Sl}, Holds M F H (A ++ (zipV vs as ++ (σ.zip e ++ T))) → σ.length = e.length → (∀ i v, (R.pl i, v) ∈ rs.zip vs → σ[i]? = some (some v)) → as.length = vs.length →
    Holds M F H (A ++ (σ.zip (back rs as e) ++ T)) ∧ σ.length = (back rs as e).length
  | [], vs, e, A, as, h, l, at_, n => by
    refine ⟨h.sl (List.Sublist.append_left (List.sublist_append_right _ _) _), l⟩
  | r :: rs, [], e, A, as, h, l, at_, n => by
    have : as = [] := List.length_eq_zero_iff.mp n
    subst this
    exact ⟨h.sl (List.Sublist.append_left (List.sublist_append_right _ _) _), l⟩
  | r :: rs, v :: vs, e, A, [], h, l, at_, n => by simp at n
  | r :: rs, v :: vs, e, A, s :: as, h, l, at_, n => by
    have at2 : ∀ i v, (R.pl i, v) ∈ rs.zip vs → σ[i]? = some (some v) := fun i v m => at_ i v (by simp [m])
    have n2 : as.length = vs.length := by simpa using n
    show Holds M F H (A ++ (σ.zip (back rs as (back1 r s e)) ++ T)) ∧ σ.length = (back rs as (back1 r s e)).length
    have h0 : Holds M F H ((some v, s) :: (A ++ (zipV vs as ++ (σ.zip e ++ T)))) := h.perm List.perm_middle
    cases r with
    | pl i =>
      have hi : σ[i]? = some (some v) := at_ i v (by simp)
      have lt : i < e.length := by
        have := (List.getElem?_eq_some_iff.mp hi).1
        omega
      obtain ⟨w, rest, h1, h2, h3⟩ := focus1 l lt
      rw [hi] at h1
      obtain rfl : some v = w := Option.some.inj h1
      refine back_ok (e := e.set i s) ?_ (by rw [List.length_set]; exact l) at2 n2
      have q : Holds M F H ((some v, s) :: (A ++ (zipV vs as ++ (((some v, gt e i) :: rest) ++ T)))) := h0.perm (List.Perm.cons _ (List.Perm.append_left _ (List.Perm.append_left _ (List.Perm.append_right T h2))))
      have q2 : Holds M F H ((some v, s) :: (A ++ (zipV vs as ++ (rest ++ T)))) := q.sl (List.Sublist.cons_cons _ (List.Sublist.append_left (List.Sublist.append_left (List.Sublist.append_right (List.sublist_cons_self _ _) _) _) _))
      refine q2.perm ?_
      refine List.Perm.trans ?_ (List.Perm.append_left A (List.Perm.append_left _ (List.Perm.append_right T (h3 s).symm)))
      exact (List.perm_middle (l₁ := A)).symm.trans (List.Perm.append_left A (List.perm_middle (l₁ := zipV vs as)).symm)
    | val d => exact back_ok h0.drop l at2 n2
    | fr d => exact back_ok h0.drop l at2 n2
    | ob c fs => exact back_ok h0.drop l at2 n2
    | pf i f => exact back_ok h0.drop l at2 n2
theorem pls_of {rs : List R} {vs : List V} (h : Paired (resP σ H) rs vs) : ∀ i v, (R.pl i, v) ∈ rs.zip vs → σ[i]? = some (some v) := by
  induction h with
  | nil => intro i v m; simp at m
  | cons a b ih =>
    intro i v m
    rw [List.zip_cons_cons] at m
    rcases List.mem_cons.mp m with e | m
    · cases e; exact a
    · exact ih i v m
theorem slR_T {s : Sl} {r : R} (h : slR s = some r) (v : V) : resT r v = [(some v, s)] ∧ resP σ H r v := by
  cases s <;> cases h <;> exact ⟨rfl, trivial⟩
theorem se_call {k n : Nat} {x : Str} {p : Pos} {m : Fn} {fas : En → Oa} (tk : Takes X W) (h : FnIn M X.prog X.w X.K X.mg X.base k n x m) (hr : Room k X.A) (ha : AE M X W (a :: es) fas) (hg : Gl X x := by rfl)
    (hdb : (x == ("__debug__" : Str)) = false := by decide) (he : starEach (a :: es) X.env = (false, eval a X.env) :: starEach es X.env := by rfl) (hpl : (backTo pos (starEach es X.env)).any (·.1) = false := by rfl) :
    SE M X W (.Call (.Name x p) (a :: es) [] pos) (callE n m fas) := by
  obtain ⟨f, fd, ps, h1, h2, h3, h4⟩ := h.ex
  refine PE.weak (pe_callS h1 hr hg h2 h3 h4 (E := WE W) (fun σ => passAt tk σ) ha hdb he hpl) fun σ H Q ⟨F, e, T, hh, l, kk⟩ => ⟨F, e, T, hh, l, ?_⟩
  unfold callE at kk
  cases hfe : fas e with
  | bad => rw [hfe] at kk; exact kk
  | ex c d e' => rw [hfe] at kk; exact kk
  | ok rs e1 =>
    rw [hfe] at kk; simp only [Oa.bind] at kk
    intro F1 H1 vs q1
    cases hg : gather rs e1 with
    | none => rw [hg] at kk; exact kk.elim
    | some pr =>
      obtain ⟨ss, e2⟩ := pr
      rw [hg] at kk; simp only at kk
      obtain ⟨q2, l2, n2⟩ := gather_ok (A := []) q1.h q1.len q1.at_ hg
      cases hb : Nat.beq ss.length n with
      | false => rw [hb] at kk; exact kk.elim
      | true =>
      rw [hb] at kk; simp only at kk
      have hs0 : ss.length = n := Nat.eq_of_beq_eq_true hb
      have hv : vs.length = n := n2.symm.trans hs0
      refine ⟨F1, ss, _, hv, hs0, q2, ?_⟩
      cases hm : m ss with
      | bad => rw [hm] at kk; exact kk.elim
      | ret s as =>
        rw [hm] at kk; simp only at kk
        intro F3 H3 v n3 q3
        cases hs : slR s with
        | none => rw [hs] at kk; exact kk.elim
        | some r =>
          rw [hs] at kk
          obtain ⟨eT, pT⟩ := slR_T (σ := σ) (H := H3) hs v
          obtain ⟨q4, l4⟩ := back_ok (A := [(some v, s)]) q3 l2 (pls_of q1.at_) (n3.trans hv.symm)
          exact kk F3 H3 v ⟨by rw [eT]; exact q4, l4, pT⟩
      | ex c d as =>
        rw [hm] at kk
        intro F3 H3 dx vx n3 q3 hx rx
        obtain ⟨q4, l4⟩ := back_ok (A := []) q3 l2 (pls_of q1.at_) (n3.trans hv.symm)
        exact kk F3 H3 dx vx q4 l4 hx rx
end
end Bv
set_option maxHeartbeats 2000000
namespace Bv
open PySem PySem.Spec L2

section
variable {X : Cx} {CX : CXT} {k : Nat} {f C : Addr} {fd : FuncData} {ps : List Str} {sp : Sp} {E : L2.St → XK} {x m : Str} {p pos apos : Pos} {e o : Expr} {es : List Expr} {ta : TE} {t : TA}
/-- o.m(..), what is raised wished for at the caller's slots -/
def tMethS (C : Addr) (m : Str) (sp : Sp) (E : L2.St → XK) (ta : TE) (t : TA) : TE := fun σ H Q => ta σ H fun x H1 => ∃ a dx fs, x = .ref a ∧ H1 a = some (.ins C dx fs) ∧ fs.lookup m = none ∧ t σ H1 fun vs H2 => sp (x :: vs) H2 Q (E σ)
theorem pe_methS {pl : Sem Bool} (he : PE X o ta) (c : Cls X.K C) (hm : Meth X.K C m f) (F : FnOk X.prog X.w X.K X.mg X.base CX k f fd ps sp) (hr : Room k X.A) (hb : Binds X.K fd ps []) (hx : ∀ σ, PassesAt CX X σ (E σ)) (ha : PA X (e :: es) t)
    (hst : starEach (e :: es) X.env = (false, eval e X.env) :: starEach es X.env := by rfl) (hpl : (backTo pos (starEach es X.env)).any (·.1) = false := by rfl)
    (ht : eval (.Call (.Attribute o m apos) (e :: es) [] pos) X.env = (do
      let ov ← eval o X.env
      standAt apos.atName
      let (f, first) ← holding [ov] (getMethod ov m pl)
      callWith pos f first (backTo pos (starEach (e :: es) X.env)) (backToKw pos (keywordEach [] X.env))) := by rfl) :
    PE X (.Call (.Attribute o m apos) (e :: es) [] pos) (tMethS C m sp E ta t) := by
  refine ⟨fun pins s σ H Q I h => ?_⟩
  refine PySem.W.methodCall_KW (pl := pl) (thn (he.run pins s σ H _ I h) fun u s1 ⟨x, H1, I1, rx, a, dx, fs, ex, ea, l, q⟩ => ?_) ht
  subst ex
  obtain rfl : u = Value.ref a := rx
  refine getmeth_ok I1 ea c hm l ?_
  refine PySem.W.callWith_K (first := [.ref a]) (h₀ := X.base) I.ok.mod.kin hm.kp (thn (ha.run pos pins s1 σ H1 _ I1 q) fun us s2 ⟨vs, H2, I2, r, q2⟩ => ⟨I2.kIn, ?_⟩) hst hpl
  exact run_fnS (us := .ref a :: us) (vs := .ref a :: vs) F hr hb (hx σ) I2 (.cons rfl r) q2
theorem pe_methS0 {pl : Sem Bool} (he : PE X o ta) (c : Cls X.K C) (hm : Meth X.K C m f) (F : FnOk X.prog X.w X.K X.mg X.base CX k f fd ps sp) (hr : Room k X.A) (hb : Binds X.K fd ps []) (hx : ∀ σ, PassesAt CX X σ (E σ))
    (ht : eval (.Call (.Attribute o m apos) [] [] pos) X.env = (do
      let ov ← eval o X.env
      standAt apos.atName
      let (f, first) ← holding [ov] (getMethod ov m pl)
      callWith pos f first (backTo pos (starEach [] X.env)) (backToKw pos (keywordEach [] X.env))) := by rfl) :
    PE X (.Call (.Attribute o m apos) [] [] pos) (tMethS C m sp E ta tNil) := by
  refine ⟨fun pins s σ H Q I h => ?_⟩
  refine PySem.W.methodCall_KW (pl := pl) (thn (he.run pins s σ H _ I h) fun u s1 ⟨x, H1, I1, rx, a, dx, fs, ex, ea, l, q⟩ => ?_) ht
  subst ex
  obtain rfl : u = Value.ref a := rx
  refine getmeth_ok I1 ea c hm l ?_
  exact PySem.W.callWith_K0 (first := [.ref a]) I1.kIn hm.kp (run_fnS (us := [.ref a]) (vs := [.ref a]) F hr hb (hx σ) I1 (.cons rfl .nil) q)
def tMakeS (C : Addr) (sp : Sp) (E : L2.St → XK) (t : TA) : TE := fun σ H Q => t σ H fun vs H1 => ∀ x dx, H1 x = none → H1 dx = none → dx ≠ x →
  sp (.ref x :: vs) (upd (upd H1 dx (.own x)) x (.ins C dx [])) (fun v H2 => v = .non ∧ Q (.ref x) H2) (E σ)
theorem run_makeS {pins : List (Addr × Obj)} {σ : L2.St} {H : Hp} {s : Shared} {Q : VK} {us : List Value} {vs : List V} (M : Mk X.K C f) (F : FnOk X.prog X.w X.K X.mg X.base CX k f fd ps sp) (hr : Room (k + 1) X.A) (hb : Binds X.K fd ps [])
    (hx : PassesAt CX X σ (E σ)) (I : Inv X pins σ H s) (r : Vals vs us)
    (h : ∀ x dx, H x = none → H dx = none → dx ≠ x → sp (.ref x :: vs) (upd (upd H dx (.own x)) x (.ins C dx [])) (fun v H2 => v = .non ∧ Q (.ref x) H2) (E σ)) :
    wpAny (model X.prog X.w) X.A (call (.ref C) us) (EP X pins σ Q) X.xe s := by
  have hq := h (s.heap.objs.size + 1) s.heap.objs.size (I.hok.fresh (Nat.le_succ _)) (I.hok.fresh (Nat.le_refl _)) (Nat.ne_of_lt (Nat.lt_succ_self _))
  have I2 := Inv.made (C := C) I
  have r2 : Vals (V.ref (s.heap.objs.size + 1) :: vs) (Value.ref (s.heap.objs.size + 1) :: us) := .cons rfl r
  have hl : (Value.ref (s.heap.objs.size + 1) :: us).length = ps.length := by
    have e := r2.length
    rw [F.len _ _ _ _ hq] at e
    exact e.symm
  have b := hb _ (Value.ref (s.heap.objs.size + 1) :: us) I2.kIn (by rw [List.append_nil]; exact hl)
  rw [List.append_nil] at b
  refine wpAny_call (make_map (f := f) I.kIn M.makes M.init (beq_iff_eq.mp M.fn) (codeAny_mono (F.run _ X.stack _ _ ⟨Value.ref (s.heap.objs.size + 1) :: us, []⟩ (Value.ref (s.heap.objs.size + 1) :: us) _ _ (E σ) (hr.make C us [])
    (I2.env0.make C us []) b r2 hq) fun r s' hq' => ?_))
  cases r with
  | error e => exact hx pins _ _ e s' I2 hq'
  | ok fl =>
    cases fl with
    | ret u =>
      obtain ⟨v, H', I3, rv, ev, q3⟩ := I2.after hq'
      subst ev
      exact ⟨rv, ⟨V.ref (s.heap.objs.size + 1), H', I3, rfl, q3⟩⟩
    | next => exact False.elim hq'
    | brk => exact False.elim hq'
    | cont => exact False.elim hq'
theorem pe_makeS (M : Mk X.K C f) (F : FnOk X.prog X.w X.K X.mg X.base CX k f fd ps sp) (hr : Room (k + 1) X.A) (hg : Gl X x) (hm : X.mg x = some (.ref C)) (hb : Binds X.K fd ps []) (hx : ∀ σ, PassesAt CX X σ (E σ))
    (ha : PA X (e :: es) t) (hdb : (x == ("__debug__" : Str)) = false := by decide) (he : starEach (e :: es) X.env = (false, eval e X.env) :: starEach es X.env := by rfl) (hpl : (backTo pos (starEach es X.env)).any (·.1) = false := by rfl) :
    PE X (.Call (.Name x p) (e :: es) [] pos) (tMakeS C sp E t) := by
  refine ⟨fun pins s σ H Q I h => ?_⟩
  refine wpAny_Call_Name_kw (ld_glob I hg hm ?_ hdb)
  refine PySem.W.callWith_K (h₀ := X.base) I.ok.mod.kin M.kp (thn (ha.run pos pins s σ H _ I h) fun us s1 ⟨vs, H1, I1, r, q⟩ => ⟨I1.kIn, ?_⟩) he hpl
  exact run_makeS M F hr hb (hx σ) I1 r q
theorem pe_makeS0 (M : Mk X.K C f) (F : FnOk X.prog X.w X.K X.mg X.base CX k f fd ps sp) (hr : Room (k + 1) X.A) (hg : Gl X x) (hm : X.mg x = some (.ref C)) (hb : Binds X.K fd ps []) (hx : ∀ σ, PassesAt CX X σ (E σ))
    (hdb : (x == ("__debug__" : Str)) = false := by decide) : PE X (.Call (.Name x p) [] [] pos) (tMakeS C sp E tNil) := by
  refine ⟨fun pins s σ H Q I h => ?_⟩
  refine wpAny_Call_Name_kw (ld_glob I hg hm ?_ hdb)
  exact PySem.W.callWith_K0 I.kIn M.kp (run_makeS (us := []) M F hr hb (hx σ) I .nil h)
end

/-! ### methods -/
def isOb (c : Nat) : R → En → Bool
  | .ob c' _, _ => Nat.beq c c'
  | .pl i, e => match gt e i with
    | .ob c' _ => Nat.beq c c'
    | _ => false
  | _, _ => false
def methE (c n : Nat) (m : Fn) (fo : En → Oe) (fas : En → Oa) : En → Oe := fun e => (fo e).bind fun ro e1 => match isOb c ro e1 with
  | false => .bad
  | true => (fas e1).bind fun rs e2 => match gather rs e2 with
    | none => .bad
    | some (ss, e3) => match gather1 ro e3 with
      | none => .bad
      | some (s, e4) => match Nat.beq (ss.length + 1) n with
        | false => .bad
        | true => match m (s :: ss) with
          | .ret s' as => match slR s' with
            | some r => .ok r (back (ro :: rs) as e4)
            | none => .bad
          | .ex c d as => .ex c d (back (ro :: rs) as e4)
          | .bad => .bad
def newE (c n : Nat) (m : Fn) (fas : En → Oa) : En → Oe := fun e => (fas e).bind fun rs e1 => match gather rs e1 with
  | none => .bad
  | some (ss, e2) => match Nat.beq ss.length n with
    | false => .bad
    | true => match m (.ob c [] :: ss) with
      | .ret (.fz .none) (.ob c' fs :: as) => .ok (.ob c' fs) (back rs as e2)
      | .ex k d (_ :: as) => .ex k d (back rs as e2)
      | _ => .bad
section
variable {M : Mx} {X : Cx} {W : WX} {F F' H H' : Hp} {σ : L2.St} {e e' : En} {T rs : List Re} {r : R} {v : V} {pos apos : Pos} {a b o : Expr} {rest es : List Expr} {c k n : Nat}
theorem FRep.keys {fs : List (Str × V)} {ns : List Str} {gs : List Fl} {L : List Addr} (h : FRep M F H fs ns gs L) : ∀ x, x ∉ ns → fs.lookup x = none := by
  induction h with
  | nil => intro x hx; rfl
  | @fz y v d fs ns gs L r t ih =>
    intro x hx
    have h2 : (x == y) = false := by
      rw [beq_eq_false_iff_ne]
      exact fun z => hx (z ▸ List.mem_cons_self)
    rw [List.lookup_cons, h2]
    exact ih x (fun z => hx (List.mem_cons_of_mem _ z))
  | @ow y v d fs ns gs L r t ih =>
    intro x hx
    have h2 : (x == y) = false := by
      rw [beq_eq_false_iff_ne]
      exact fun z => hx (z ▸ List.mem_cons_self)
    rw [List.lookup_cons, h2]
    exact ih x (fun z => hx (List.mem_cons_of_mem _ z))
theorem HoldsR.isOb (h : HoldsR M F H σ e T r v) (hb : Bv.isOb c r e = true) : ∃ ad dx fvs fs L, v = .ref ad ∧ H ad = some (.ins (M.cl c) dx fvs) ∧ FRep M F H fvs (M.fn c) fs L := by
  have go : ∀ {c' : Nat} {fs : List Fl} {w : Option V} {rs : List Re}, Holds M F H rs → (w, Sl.ob c' fs) ∈ rs → c = c' → ∃ ad dx fvs fs L, w = some (.ref ad) ∧ H ad = some (.ins (M.cl c) dx fvs) ∧ FRep M F H fvs (M.fn c) fs L := by
    intro c' fs w rs hh mm ec
    subst ec
    obtain ⟨L, q, _⟩ := hh.mem mm
    cases q with
    | ob h1 h2 => exact ⟨_, _, _, _, _, rfl, h1, h2⟩
  obtain ⟨hh, l, p⟩ := h
  cases r with
  | ob c' fs =>
    obtain ⟨ad, dx, fvs, fs, L, e1, h1, h2⟩ := go hh (w := some v) (fs := fs) (by simp [resT]) (Nat.eq_of_beq_eq_true hb)
    cases e1
    exact ⟨ad, dx, fvs, fs, L, rfl, h1, h2⟩
  | pl i =>
    simp only [Bv.isOb] at hb
    have mm : (some v, gt e i) ∈ σ.zip e := mem_zip_gt l p
    cases hg : gt e i with
    | ob c' fs =>
      rw [hg] at hb mm
      obtain ⟨ad, dx, fvs, fs, L, e1, h1, h2⟩ := go hh (w := some v) (fs := fs) (by simp [resT, mm]) (Nat.eq_of_beq_eq_true hb)
      cases e1
      exact ⟨ad, dx, fvs, fs, L, rfl, h1, h2⟩
    | _ => rw [hg] at hb; cases hb
  | _ => cases hb
theorem isOb_np {c : Nat} {r : R} {e : En} (h : isOb c r e = true) : noPf r = true := by
  cases r <;> first | rfl | cases h
theorem te_meth {m : Fn} {x : Str} {fo : En → Oe} {fas : En → Oa} (hno : x ∉ M.fn c) {H : Hp} {Q : VK} (h : tE M W (methE c n m fo fas) σ H Q) : tMethS (M.cl c) x (spF M n m) (WE W) (tE M W fo) (tAE M W fas) σ H Q := by
  obtain ⟨F, e, T, hh, l, kk⟩ := h
  refine ⟨F, e, T, hh, l, ?_⟩
  unfold methE at kk
  cases hfo : fo e with
  | bad => rw [hfo] at kk; exact kk
  | ex c d e' => rw [hfo] at kk; exact kk
  | ok ro e1 =>
    rw [hfo] at kk; simp only [Oe.bind] at kk
    intro F1 H1 xv q1
    cases hb : isOb c ro e1 with
    | false => rw [hb] at kk; exact kk.elim
    | true =>
      rw [hb] at kk; simp only at kk
      obtain ⟨ad, dx, fvs, fs, L, rfl, h1, h2⟩ := q1.isOb hb
      refine ⟨ad, dx, fvs, rfl, h1, h2.keys x hno, F1, e1, _, q1.wait, q1.len, ?_⟩
      cases hfe : fas e1 with
      | bad => rw [hfe] at kk; exact kk
      | ex c d e' =>
        rw [hfe] at kk
        exact fun F2 H2 dx vx q2 l2 => kk F2 H2 dx vx (q2.sl (List.Sublist.append_left (List.sublist_append_right _ _) _)) l2
      | ok rs e2 =>
        rw [hfe] at kk; simp only [Oa.bind] at kk
        intro F2 H2 vs q2
        cases hg : gather rs e2 with
        | none => rw [hg] at kk; exact kk.elim
        | some pr =>
          obtain ⟨ss, e3⟩ := pr
          rw [hg] at kk; simp only at kk
          obtain ⟨q3, l3, n3⟩ := gather_ok (A := []) q2.h q2.len q2.at_ hg
          cases hg1 : gather1 ro e3 with
          | none => rw [hg1] at kk; exact kk.elim
          | some pr1 =>
            obtain ⟨s, e4⟩ := pr1
            rw [hg1] at kk; simp only at kk
            have q3 : Holds M F2 H2 (zipV vs ss ++ (σ.zip e3 ++ (resT ro (.ref ad) ++ T))) := q3
            have q3' : Holds M F2 H2 (zipV vs ss ++ (resT ro (.ref ad) ++ (σ.zip e3 ++ T))) := q3.perm (List.Perm.append_left _ (perm_sw _ _ _))
            obtain ⟨q4, l4⟩ := gather1_ok q3' l3 (q1.at_.keep (isOb_np hb)) hg1
            have q5 : Holds M F2 H2 (zipV (.ref ad :: vs) (s :: ss) ++ (σ.zip e4 ++ T)) := q4.perm List.perm_middle
            cases hbl : Nat.beq (ss.length + 1) n with
            | false => rw [hbl] at kk; exact kk.elim
            | true =>
              rw [hbl] at kk; simp only at kk
              have hs0 : ss.length + 1 = n := Nat.eq_of_beq_eq_true hbl
              have pa2 : Paired (resP σ H2) (ro :: rs) (.ref ad :: vs) := .cons (q1.at_.keep (isOb_np hb)) q2.at_
              refine ⟨F2, s :: ss, _, by simp [← n3, hs0], by simp [hs0], q5, ?_⟩
              cases hm : m (s :: ss) with
              | bad => rw [hm] at kk; exact kk.elim
              | ret s' as =>
                rw [hm] at kk; simp only at kk
                intro F3 H3 v n4 q6
                cases hs : slR s' with
                | none => rw [hs] at kk; exact kk.elim
                | some r =>
                  rw [hs] at kk
                  obtain ⟨eT, pT⟩ := slR_T (σ := σ) (H := H3) hs v
                  obtain ⟨q7, l7⟩ := back_ok (A := [(some v, s')]) q6 l4 (pls_of pa2) (by rw [n4]; simp [← n3, hs0])
                  exact kk F3 H3 v ⟨by rw [eT]; exact q7, l7, pT⟩
              | ex c d as =>
                rw [hm] at kk
                intro F3 H3 dx vx n4 q6 hx rx
                obtain ⟨q7, l7⟩ := back_ok (A := []) q6 l4 (pls_of pa2) (by rw [n4]; simp [← n3, hs0])
                exact kk F3 H3 dx vx q7 l7 hx rx
theorem se_meth {x : Str} {m : Fn} {fo : En → Oe} {fas : En → Oa} {pl : Sem Bool} (fit : Fit M X) (tk : Takes X W) (cl : ClIn M M.K c) (h : MtIn M X.prog X.w X.K X.mg X.base k n c x m) (hr : Room k X.A) (ho : SE M X W o fo) (ha : AE M X W (a :: es) fas)
    (hst : starEach (a :: es) X.env = (false, eval a X.env) :: starEach es X.env := by rfl) (hpl : (backTo pos (starEach es X.env)).any (·.1) = false := by rfl)
    (ht : eval (.Call (.Attribute o x apos) (a :: es) [] pos) X.env = (do
      let ov ← eval o X.env
      standAt apos.atName
      let (f, first) ← holding [ov] (getMethod ov x pl)
      callWith pos f first (backTo pos (starEach (a :: es) X.env)) (backToKw pos (keywordEach [] X.env))) := by rfl) :
    SE M X W (.Call (.Attribute o x apos) (a :: es) [] pos) (methE c n m fo fas) := by
  obtain ⟨⟨f, fd, ps, h1, h2, h3⟩, hno⟩ := h
  have cl' : Cls X.K (M.cl c) := by rw [fit.K]; exact cl.cls
  exact PE.weak (pe_methS ho cl' h2 h1 hr h3 (E := WE W) (fun σ => passAt tk σ) ha hst hpl ht) fun σ H Q q => te_meth hno q
theorem se_meth0 {x : Str} {m : Fn} {fo : En → Oe} {pl : Sem Bool} (fit : Fit M X) (tk : Takes X W) (cl : ClIn M M.K c) (h : MtIn M X.prog X.w X.K X.mg X.base k n c x m) (hr : Room k X.A) (ho : SE M X W o fo)
    (ht : eval (.Call (.Attribute o x apos) [] [] pos) X.env = (do
      let ov ← eval o X.env
      standAt apos.atName
      let (f, first) ← holding [ov] (getMethod ov x pl)
      callWith pos f first (backTo pos (starEach [] X.env)) (backToKw pos (keywordEach [] X.env))) := by rfl) :
    SE M X W (.Call (.Attribute o x apos) [] [] pos) (methE c n m fo lNil) := by
  obtain ⟨⟨f, fd, ps, h1, h2, h3⟩, hno⟩ := h
  have cl' : Cls X.K (M.cl c) := by rw [fit.K]; exact cl.cls
  refine PE.weak (pe_methS0 ho cl' h2 h1 hr h3 (E := WE W) (fun σ => passAt tk σ) ht) fun σ H Q q => ?_
  have q' := te_meth (x := x) hno q
  unfold tMethS at q' ⊢
  obtain ⟨F, e, T, hh, l, kk⟩ := q'
  refine ⟨F, e, T, hh, l, ?_⟩
  cases hfo : fo e with
  | bad => rw [hfo] at kk; exact kk
  | ex c d e' => rw [hfo] at kk; exact kk
  | ok ro e1 =>
    rw [hfo] at kk
    intro F1 H1 xv q1
    obtain ⟨ad, dx, fs, e1', h1', h2', F2, e2, T2, q2, l2, k2⟩ := kk F1 H1 xv q1
    exact ⟨ad, dx, fs, e1', h1', h2', k2 F2 H1 [] ⟨q2, l2, .nil⟩⟩
theorem Holds.grow {p : Addr} {o : HO} (x : Holds M F H rs) (hp : H p = none) : Holds M F (upd H p o) rs := by
  obtain ⟨s, L, b, c, e⟩ := x
  have ne : ∀ y ∈ L, y ≠ p := fun y hy => by
    obtain ⟨u, e⟩ := b.there y hy
    exact ne_of_none e hp
  exact ⟨s.trans (same_upd_new hp), L, b.at (Same.refl F) fun y hy => upd_ne (ne y hy), c, e⟩
theorem Holds.newOb {p dx : Addr} (x : Holds M F H rs) (hp : H p = none) : Holds M F (upd H p (.ins (M.cl c) dx [])) ((some (.ref p), .ob c []) :: rs) := by
  obtain ⟨s, L, b, k, e⟩ := x
  have ne : ∀ y ∈ L, y ≠ p := fun y hy => by
    obtain ⟨u, e⟩ := b.there y hy
    exact ne_of_none e hp
  refine ⟨s.trans (same_upd_new hp), [p] ++ L, .cons (.ob upd_same .nil) (b.at (Same.refl F) fun y hy => upd_ne (ne y hy)), ?_, fun y hy => ?_⟩
  · rw [List.singleton_append, List.nodup_cons]
    exact ⟨fun h => ne p h rfl, k⟩
  · rcases List.mem_cons.mp hy with rfl | hy
    · exact Same.free s hp
    · exact e y hy
theorem te_new {m : Fn} {fas : En → Oa} {H : Hp} {Q : VK} (h : tE M W (newE c n m fas) σ H Q) : tMakeS (M.cl c) (spF M (n + 1) m) (WE W) (tAE M W fas) σ H Q := by
  obtain ⟨F, e, T, hh, l, kk⟩ := h
  refine ⟨F, e, T, hh, l, ?_⟩
  unfold newE at kk
  cases hfe : fas e with
  | bad => rw [hfe] at kk; exact kk
  | ex c d e' => rw [hfe] at kk; exact kk
  | ok rs e1 =>
    rw [hfe] at kk; simp only [Oa.bind] at kk
    intro F1 H1 vs q1 x dx hx hd hne
    cases hg : gather rs e1 with
    | none => rw [hg] at kk; exact kk.elim
    | some pr =>
      obtain ⟨ss, e2⟩ := pr
      rw [hg] at kk; simp only at kk
      obtain ⟨q2, l2, n2⟩ := gather_ok (A := []) q1.h q1.len q1.at_ hg
      cases hbl : Nat.beq ss.length n with
      | false => rw [hbl] at kk; exact kk.elim
      | true =>
        rw [hbl] at kk; simp only at kk
        have hs0 : ss.length = n := Nat.eq_of_beq_eq_true hbl
        have q3 := (q2.grow (o := .own x) hd).newOb (c := c) (p := x) (dx := dx) (by rw [upd_ne hne.symm]; exact hx)
        refine ⟨F1, .ob c [] :: ss, σ.zip e2 ++ T, by simp [← n2, hs0], by simp [hs0], q3, ?_⟩
        cases hm : m (.ob c [] :: ss) with
        | bad => rw [hm] at kk; exact kk.elim
        | ex c d as =>
          rw [hm] at kk
          intro F3 H3 dx vx n3 q4 hx' rx
          cases as with
          | nil => simp at n3
          | cons a0 as =>
            simp only at kk
            have q5 : Holds M F3 H3 ((some (.ref x), a0) :: (zipV vs as ++ (σ.zip e2 ++ T))) := q4
            obtain ⟨q6, l6⟩ := back_ok (A := []) q5.drop l2 (pls_of q1.at_) (by simp at n3; omega)
            exact kk F3 H3 dx vx q6 l6 hx' rx
        | ret s as =>
          rw [hm] at kk
          intro F3 H3 v n3 q4
          split at kk
          · rename_i c' fs as' heq
            cases heq
            have q5 : Holds M F3 H3 ((some v, .fz .none) :: ((some (.ref x), .ob c' fs) :: (zipV vs as' ++ (σ.zip e2 ++ T)))) := q4
            obtain ⟨v', ev, rv⟩ := Holds.rep q5
            cases ev; cases rv
            obtain ⟨q6, l6⟩ := back_ok (A := [(some (.ref x), .ob c' fs)]) q5.drop l2 (pls_of q1.at_) (by simp at n3; omega)
            exact ⟨rfl, kk F3 H3 (.ref x) ⟨q6, l6, trivial⟩⟩
          · rename_i heq
            cases heq
          · exact kk.elim
theorem se_new {x : Str} {p : Pos} {m : Fn} {fas : En → Oa} (tk : Takes X W) (h : NwIn M X.prog X.w X.K X.mg X.base k n c x m) (hr : Room (k + 1) X.A) (ha : AE M X W (a :: es) fas) (hg : Gl X x := by rfl)
    (hdb : (x == ("__debug__" : Str)) = false := by decide) (he : starEach (a :: es) X.env = (false, eval a X.env) :: starEach es X.env := by rfl) (hpl : (backTo pos (starEach es X.env)).any (·.1) = false := by rfl) :
    SE M X W (.Call (.Name x p) (a :: es) [] pos) (newE c n m fas) := by
  obtain ⟨f, fd, ps, h1, h2, h3, h4⟩ := h.ex
  exact PE.weak (pe_makeS h2 h1 hr hg h3 h4 (E := WE W) (fun σ => passAt tk σ) ha hdb he hpl) fun σ H Q q => te_new q
theorem se_new0 {x : Str} {p : Pos} {m : Fn} (tk : Takes X W) (h : NwIn M X.prog X.w X.K X.mg X.base k n c x m) (hr : Room (k + 1) X.A) (hg : Gl X x := by rfl)
    (hdb : (x == ("__debug__" : Str)) = false := by decide) : SE M X W (.Call (.Name x p) [] [] pos) (newE c n m lNil) := by
  obtain ⟨f, fd, ps, h1, h2, h3, h4⟩ := h.ex
  refine PE.weak (pe_makeS0 h2 h1 hr hg h3 h4 (E := WE W) (fun σ => passAt tk σ) hdb) fun σ H Q q => ?_
  obtain ⟨F2, e2, T2, q2, l2, k2⟩ := te_new q
  exact k2 F2 H [] ⟨q2, l2, .nil⟩

/-! ### a field of an object in a slot -/
def rfld (c f : Nat) (fo : En → Option R) : En → Option R := fun e => match fo e with
  | some (.pl i) => match gt e i with
    | .ob c' fs => match Nat.beq c c' with
      | true => match fs[f]? with
        | some (.fz d) => some (.val d)
        | some (.ow _) => some (.pf i f)
        | none => none
      | false => none
    | _ => none
  | _ => none
theorem FRep.at_f {fs : List (Str × V)} {ns : List Str} {gs : List Fl} {L : List Addr} (h : FRep M F H fs ns gs L) : ∀ {f : Nat} {g : Fl}, ns.Nodup → gs[f]? = some g → ∃ x v, fs[f]? = some (x, v) ∧ ns[f]? = some x ∧ fs.lookup x = some v ∧ (match g with
    | .fz d => M.Rep F d v
    | .ow d => ∃ b, v = .ref b ∧ OwD M F H b d) := by
  induction h with
  | nil => intro f g n h; simp at h
  | @fz y v d fs ns gs L r t ih =>
    intro f g n h
    cases f with
    | zero => cases h; exact ⟨_, _, rfl, rfl, by simp [List.lookup], r⟩
    | succ f =>
      obtain ⟨x, v', h1, h2, h3, h4⟩ := ih (f := f) (g := g) (List.nodup_cons.mp n).2 (by simpa using h)
      refine ⟨x, v', by simpa using h1, by simpa using h2, ?_, h4⟩
      have hne : (x == y) = false := by
        rw [beq_eq_false_iff_ne]
        intro z
        exact (List.nodup_cons.mp n).1 (z ▸ List.mem_of_getElem? h2)
      rw [List.lookup_cons, hne]; exact h3
  | @ow y v d fs ns gs L r t ih =>
    intro f g n h
    cases f with
    | zero => cases h; exact ⟨_, _, rfl, rfl, by simp [List.lookup], _, rfl, r⟩
    | succ f =>
      obtain ⟨x, v', h1, h2, h3, h4⟩ := ih (f := f) (g := g) (List.nodup_cons.mp n).2 (by simpa using h)
      refine ⟨x, v', by simpa using h1, by simpa using h2, ?_, h4⟩
      have hne : (x == y) = false := by
        rw [beq_eq_false_iff_ne]
        intro z
        exact (List.nodup_cons.mp n).1 (z ▸ List.mem_of_getElem? h2)
      rw [List.lookup_cons, hne]; exact h3
theorem sq_fld {x : Str} {fo : En → Option R} (c f : Nat) (fit : Fit M X) (cl : ClIn M M.K c) (hx : (M.fn c)[f]? = some x) (ho : SQ M X o fo) (hb : attributeBase o x X.env (eval o X.env) = eval o X.env := by rfl) : SQ M X (.Attribute o x pos) (rfld c f fo) := by
  refine PE.weak (pe_fld ho hb) fun σ H Q ⟨F, e, T, r, h, l, hf, k⟩ => ?_
  unfold rfld at hf
  split at hf
  · rename_i i hfo
    split at hf
    · rename_i c' fs hg
      split at hf
      · rename_i hbc
        have ec : c = c' := Nat.eq_of_beq_eq_true hbc
        subst ec
        refine ⟨F, e, T, .pl i, h, l, hfo, fun F1 H1 xv s1 s2 q1 => ?_⟩
        obtain ⟨hh, _, p⟩ := id q1
        have mm : (some xv, gt e i) ∈ σ.zip e := mem_zip_gt l p
        rw [hg] at mm
        obtain ⟨L, q, _⟩ := hh.mem (p := (some xv, Sl.ob c fs)) (by simp [resT, mm])
        cases q with
        | ob h1 h2 =>
          cases hfs : fs[f]? with
          | none => rw [hfs] at hf; cases hf
          | some g =>
            obtain ⟨y, v, e1, e2, e3, e4⟩ := h2.at_f cl.nd hfs
            rw [hx] at e2
            obtain rfl : x = y := Option.some.inj e2
            refine ⟨_, _, _, _, v, rfl, h1, by rw [fit.K]; exact cl.cls, by rw [fit.K]; exact cl.att x (List.mem_of_getElem? hx), e3, ?_⟩
            rw [hfs] at hf
            cases g with
            | fz d => cases hf; exact k F1 H1 v s1 s2 (.of_val (hh.sl (List.sublist_append_right _ _)) l e4)
            | ow d => cases hf; exact k F1 H1 v s1 s2 ⟨hh, l, _, _, _, _, x, p, h1, e1⟩
      · cases hf
    · cases hf
  · cases hf
end
end Bv
set_option maxHeartbeats 2000000
namespace Bv
open PySem PySem.Spec L2

/-! ### statements -/
inductive So where
  | nx (e : En) | rt (s : Sl) (e : En) | bk (e : En) | ct (e : En) | ex (c : Nat) (d : D) (e : En) | bad
/-- the slots pr are as they were -/
def Keep (pr : List Nat) (σ0 σ : L2.St) : Prop := ∀ i ∈ pr, σ[i]? = σ0[i]?
theorem Keep.set {pr : List Nat} {σ0 σ : L2.St} {i : Nat} {v : Option V} (h : Keep pr σ0 σ) (hi : i ∉ pr) : Keep pr σ0 (σ.set i v) := fun j hj => by
  have hne : i ≠ j := fun z => by rw [← z] at hj; exact hi hj
  rw [List.getElem?_set_ne hne]
  exact h j hj
def PostS (M : Mx) (W : WX) (pr : List Nat) (σ0 : L2.St) (T : List Re) (D : Ends) : So → Prop
  | .nx e => ∀ F H σ, Holds M F H (σ.zip e ++ T) → σ.length = e.length → Keep pr σ0 σ → D.nx σ H
  | .rt s e => ∀ F H σ v, Holds M F H ((some v, s) :: (σ.zip e ++ T)) → σ.length = e.length → Keep pr σ0 σ → D.rt v H
  | .bk e => ∀ F H σ, Holds M F H (σ.zip e ++ T) → σ.length = e.length → Keep pr σ0 σ → D.bk σ H
  | .ct e => ∀ F H σ, Holds M F H (σ.zip e ++ T) → σ.length = e.length → Keep pr σ0 σ → D.ct σ H
  | .ex c d e => ∀ F H σ dx vx, Holds M F H (σ.zip e ++ T) → σ.length = e.length → Keep pr σ0 σ → H dx = some (.xd [(M.xf c, vx)]) → M.Rep F d vx → W (.ref (M.xc c)) (some dx) σ H
  | .bad => False
def tS (M : Mx) (W : WX) (pr : List Nat) (f : En → So) : TS := fun D σ H => ∃ F e T σ0, Holds M F H (σ.zip e ++ T) ∧ σ.length = e.length ∧ Keep pr σ0 σ ∧ PostS M W pr σ0 T D (f e)
def SS (M : Mx) (X : Cx) (W : WX) (pr : List Nat) (st : Stmt) (f : En → So) : Prop := PS X st (tS M W pr f)
def SB (M : Mx) (X : Cx) (W : WX) (pr : List Nat) (sts : List Stmt) (f : En → So) : Prop := PSs X sts (tS M W pr f)
def Oe.bindS : Oe → (R → En → So) → So
  | .ok r e, k => k r e
  | .ex c d e, _ => .ex c d e
  | .bad, _ => .bad
def Ot.bindS : Ot → (Bool → En → So) → So
  | .ok r e, k => k r e
  | .ex c d e, _ => .ex c d e
  | .bad, _ => .bad
def Oa.bindS : Oa → (List R → En → So) → So
  | .ok r e, k => k r e
  | .ex c d e, _ => .ex c d e
  | .bad, _ => .bad
def So.bind : So → (En → So) → So
  | .nx e, k => k e
  | r, _ => r

section
variable {M : Mx} {X : Cx} {W : WX} {pr : List Nat} {F F' H H' : Hp} {σ σ0 : L2.St} {e e' : En} {T rs : List Re} {r : R} {v : V} {pos apos : Pos} {a b o : Expr} {rest es : List Expr} {c k n : Nat}
/-- what an expression's end gives to a statement -/
theorem PostE.to {Dd : Ends} {oe : Oe} {g : R → En → So} {Q : VK} (kp : Keep pr σ0 σ) (k : PostS M W pr σ0 T Dd (oe.bindS g)) (hQ : ∀ r e1 F1 H1 v, oe = .ok r e1 → HoldsR M F1 H1 σ e1 T r v → PostS M W pr σ0 T Dd (g r e1) → Q v H1) : PostE M W σ T Q oe := by
  cases oe with
  | bad => exact k
  | ex c d e => exact fun F H dx vx h l hx rx => k F H σ dx vx h l kp hx rx
  | ok r e1 => exact fun F1 H1 v q => hQ r e1 F1 H1 v rfl q k
theorem PostT.to {Dd : Ends} {oe : Ot} {g : Bool → En → So} {Q : Bool → Hp → Prop} (kp : Keep pr σ0 σ) (k : PostS M W pr σ0 T Dd (oe.bindS g)) (hQ : ∀ b e1 F1 H1, oe = .ok b e1 → Holds M F1 H1 (σ.zip e1 ++ T) → σ.length = e1.length → PostS M W pr σ0 T Dd (g b e1) → Q b H1) : PostT M W σ T Q oe := by
  cases oe with
  | bad => exact k
  | ex c d e => exact fun F H dx vx h l hx rx => k F H σ dx vx h l kp hx rx
  | ok r e1 => exact fun F1 H1 q l => hQ r e1 F1 H1 rfl q l k

/-! ### blocks -/
def bNil : En → So := fun e => .nx e
def bCons (f g : En → So) : En → So := fun e => (f e).bind g
theorem sb_nil : SB M X W pr [] bNil := PSs.weak pss_nil fun Dd σ H ⟨F, e, T, σ0, h, l, kp, k⟩ => k F H σ h l kp
theorem sb_cons {st : Stmt} {sts : List Stmt} {f g : En → So} (h1 : SS M X W pr st f) (h2 : SB M X W pr sts g) : SB M X W pr (st :: sts) (bCons f g) := by
  refine PSs.weak (pss_cons h1 h2) fun Dd σ H ⟨F, e, T, σ0, h, l, kp, k⟩ => ⟨F, e, T, σ0, h, l, kp, ?_⟩
  unfold bCons at k
  cases hf : f e with
  | nx e1 =>
    rw [hf] at k
    exact fun F1 H1 σ1 q1 l1 k1 => ⟨F1, e1, T, σ0, q1, l1, k1, k⟩
  | rt s e1 => rw [hf] at k; exact k
  | bk e1 => rw [hf] at k; exact k
  | ct e1 => rw [hf] at k; exact k
  | ex c d e1 => rw [hf] at k; exact k
  | bad => rw [hf] at k; exact k
theorem sb_one {st : Stmt} {f : En → So} (h1 : SS M X W pr st f) : SB M X W pr [st] f := PSs.weak (pss_one h1) fun Dd σ H h => h
theorem ss_pass : SS M X W pr (.Pass pos) bNil := PS.weak ps_pass fun Dd σ H ⟨F, e, T, σ0, h, l, kp, k⟩ => k F H σ h l kp
theorem ss_break : SS M X W pr (.Break pos) (fun e => .bk e) := PS.weak ps_break fun Dd σ H ⟨F, e, T, σ0, h, l, kp, k⟩ => k F H σ h l kp
theorem ss_continue : SS M X W pr (.Continue pos) (fun e => .ct e) := PS.weak ps_continue fun Dd σ H ⟨F, e, T, σ0, h, l, kp, k⟩ => k F H σ h l kp

/-! ### e; return e -/
def dropE (f : En → Oe) : En → So := fun e => (f e).bindS fun _ e1 => .nx e1
theorem ss_expr {f : En → Oe} (he : SE M X W a f) (hs : swapsWith a none pos.line X.env = pure false := by rfl) : SS M X W pr (.Expr a pos) (dropE f) := by
  refine PS.weak (ps_expr he hs) fun Dd σ H ⟨F, e, T, σ0, h, l, kp, k⟩ => ⟨F, e, T, h, l, ?_⟩
  exact PostE.to kp k fun r e1 F1 H1 v _ q k => k F1 H1 σ (q.h.sl (List.sublist_append_right _ _)) q.len kp
/-- what goes into a name -/
def mv (r : R) (e : En) : Option (Sl × En) := match r with
  | .val d => some (.fz d, e)
  | .fr d => some (.ow d, e)
  | .ob c fs => some (.ob c fs, e)
  | .pl i => match gt e i with
    | .fz d => some (.fz d, e)
    | .ow d => some (.fz d, e.set i (.fz d))
    | _ => none
  | .pf _ _ => none
theorem mv_ok {s : Sl} {F : Hp} (h : HoldsR M F H σ e T r v) (hm : mv r e = some (s, e')) : ∃ F', Same F F' ∧ Holds M F' H ((some v, s) :: (σ.zip e' ++ T)) ∧ σ.length = e'.length := by
  obtain ⟨h, l, p⟩ := h
  cases r with
  | val d => cases hm; exact ⟨F, Same.refl F, h, l⟩
  | fr d => cases hm; exact ⟨F, Same.refl F, h, l⟩
  | ob c fs => cases hm; exact ⟨F, Same.refl F, h, l⟩
  | pf i f => cases hm
  | pl i =>
    have key : ∃ d, frz1 (.pl i) e = some (d, e') ∧ s = .fz d := by
      simp only [mv] at hm
      simp only [frz1]
      cases hg : gt e i with
      | un => rw [hg] at hm; cases hm
      | ob _ _ => rw [hg] at hm; cases hm
      | fz d => rw [hg] at hm; cases hm; exact ⟨d, rfl, rfl⟩
      | ow d => rw [hg] at hm; cases hm; exact ⟨d, rfl, rfl⟩
    obtain ⟨d, k1, rfl⟩ := key
    obtain ⟨F', s1, rp, hh, l'⟩ := frz1_ok h l p k1
    exact ⟨F', s1, hh.addFz rp, l'⟩
/-- what goes out of a def: a local list goes out as it is owned -/
def mvOut (np : Nat) (r : R) (e : En) : Option (Sl × En) := match r with
  | .pl i => if Nat.blt i np then mv r e else match gt e i with
    | .un => none
    | s => some (s, e.set i .un)
  | r => mv r e
theorem mvOut_ok {s : Sl} {np : Nat} {F : Hp} (h : HoldsR M F H σ e T r v) (hm : mvOut np r e = some (s, e')) : ∃ F', Same F F' ∧ Holds M F' H ((some v, s) :: (σ.zip e' ++ T)) ∧ σ.length = e'.length := by
  cases r with
  | pl i =>
    simp only [mvOut] at hm
    split at hm
    · exact mv_ok h hm
    · obtain ⟨h, l, p⟩ := h
      have g1 : gather1 (.pl i) e = some (s, e') := hm
      obtain ⟨q, l'⟩ := gather1_ok (A := []) (r := .pl i) h l p g1
      exact ⟨F, Same.refl F, q, l'⟩
  | _ => exact mv_ok h hm
def retE (np : Nat) (f : En → Oe) : En → So := fun e => (f e).bindS fun r e1 => match mvOut np r e1 with
  | some (s, e2) => .rt s e2
  | none => .bad
theorem ss_ret (np : Nat) {f : En → Oe} (he : SE M X W a f) : SS M X W pr (.Return (some a) pos) (retE np f) := by
  refine PS.weak (ps_ret he) fun Dd σ H ⟨F, e, T, σ0, h, l, kp, k⟩ => ⟨F, e, T, h, l, ?_⟩
  refine PostE.to kp k fun r e1 F1 H1 v _ q k => ?_
  cases hm : mvOut np r e1 with
  | none => rw [hm] at k; exact k.elim
  | some p =>
    obtain ⟨s, e2⟩ := p
    rw [hm] at k
    obtain ⟨F', s1, hh, l'⟩ := mvOut_ok q hm
    exact k F' H1 σ v hh l' kp
theorem ss_retN : SS M X W pr (.Return none pos) (fun e => .rt (.fz .none) e) := by
  refine PS.weak ps_retN fun Dd σ H ⟨F, e, T, σ0, h, l, kp, k⟩ => ?_
  exact k F H σ .non (h.addFz .non) l kp

/-! ### x = e -/
def setE (i : Nat) (f : En → Oe) : En → So := fun e => (f e).bindS fun r e1 => match mv r e1 with
  | some (s, e2) => .nx (e2.set i s)
  | none => .bad
theorem Holds.setSlot {s : Sl} {i : Nat} (h : Holds M F H ((some v, s) :: (σ.zip e ++ T))) (l : σ.length = e.length) : Holds M F H ((σ.set i (some v)).zip (e.set i s) ++ T) ∧ (σ.set i (some v)).length = (e.set i s).length := by
  refine ⟨?_, by simp [l]⟩
  by_cases hi : i < e.length
  · obtain ⟨w, rest, h1, h2, h3⟩ := focus l hi
    have q : Holds M F H ((some v, s) :: ((w, gt e i) :: (rest ++ T))) := h.perm (List.Perm.cons _ (List.Perm.append_right T h2))
    have q2 : Holds M F H ((some v, s) :: (rest ++ T)) := q.sl (List.Sublist.cons_cons _ (List.sublist_cons_self _ _))
    exact q2.perm (List.Perm.append_right T (h3 (some v) s).symm)
  · have e1 : e.set i s = e := List.set_eq_of_length_le (by omega)
    have e2 : σ.set i (some v) = σ := List.set_eq_of_length_le (by omega)
    rw [e1, e2]
    exact h.drop
theorem ss_set (i : Nat) {x : Str} {p : Pos} {f : En → Oe} (fit : Fit M X) (he : SE M X W a f) (hi : X.N[i]? = some x := by rfl) (hx : Loc X.env.scope x := by first | exact .inl rfl | exact .inr rfl) (hp : i ∉ pr := by decide)
    (hs : swapsWith a (some (.Name x p)) pos.line X.env = pure false := by rfl) (hf : X.fn x = true ∨ X.env.scope.names.lookup x = some .local := by first | exact .inl rfl | exact .inr rfl) : SS M X W pr (.Assign [.Name x p] a pos) (setE i f) := by
  refine PS.weak (ps_set fit.nd hi hx he hs hf) fun Dd σ H ⟨F, e, T, σ0, h, l, kp, k⟩ => ⟨F, e, T, h, l, ?_⟩
  refine PostE.to kp k fun r e1 F1 H1 v _ q k => ?_
  cases hm : mv r e1 with
  | none => rw [hm] at k; exact k.elim
  | some p =>
    obtain ⟨s, e2⟩ := p
    rw [hm] at k
    obtain ⟨F', s1, hh, l'⟩ := mv_ok q hm
    obtain ⟨h2, l2⟩ := hh.setSlot (i := i) l'
    exact k F' H1 _ h2 l2 (kp.set hp)
/-- x, y = a, b -/
def parE (i j : Nat) (fas : En → Oa) : En → So := fun e => (fas e).bindS fun rs e1 => match frzE rs e1 with
  | some ([a, b], e2) => .nx ((e2.set i (.fz a)).set j (.fz b))
  | _ => .bad
theorem PostA.to {Dd : Ends} {oe : Oa} {g : List R → En → So} {Q : List V → Hp → Prop} (kp : Keep pr σ0 σ) (k : PostS M W pr σ0 T Dd (oe.bindS g)) (hQ : ∀ r e1 F1 H1 v, oe = .ok r e1 → HoldsRs M F1 H1 σ e1 T r v → PostS M W pr σ0 T Dd (g r e1) → Q v H1) : PostA M W σ T Q oe := by
  cases oe with
  | bad => exact k
  | ex c d e => exact fun F H dx vx h l hx rx => k F H σ dx vx h l kp hx rx
  | ok r e1 => exact fun F1 H1 v q => hQ r e1 F1 H1 v rfl q k
theorem ss_par (i j : Nat) {x y : Str} {fas : En → Oa} {px py pt : Pos} {kt k2 pt2} (fit : Fit M X) (ha : AE M X W [a, b] fas) (hi : X.N[i]? = some x := by rfl) (hj : X.N[j]? = some y := by rfl) (hij : i ≠ j := by decide)
    (hx : X.env.scope.names.lookup x = some .local := by rfl) (hy : X.env.scope.names.lookup y = some .local := by rfl) (hp : i ∉ pr := by decide) (hq : j ∉ pr := by decide)
    (hw : swappedStores [.Tuple [.Name x px, .Name y py] kt pt] (.Tuple [a, b] k2 pt2) X.env = pure (some [x, y]) := by rfl)
    (hs : swapsWithSole [.Tuple [.Name x px, .Name y py] kt pt] (.Tuple [a, b] k2 pt2) pos.line X.env = pure false := by rfl) :
    SS M X W pr (.Assign [.Tuple [.Name x px, .Name y py] kt pt] (.Tuple [a, b] k2 pt2) pos) (parE i j fas) := by
  refine PS.weak (ps_par fit.calm fit.nd hi hj hij hx hy ha hw hs) fun Dd σ H ⟨F, e, T, σ0, h, l, kp, k⟩ => ⟨F, e, T, h, l, ?_⟩
  refine PostA.to kp k fun rs e1 F1 H1 vs _ q k => ?_
  cases hm : frzE rs e1 with
  | none => rw [hm] at k; exact k.elim
  | some p =>
    obtain ⟨ds, e2⟩ := p
    rw [hm] at k
    obtain ⟨F', s1, rp, hh, l'⟩ := frzE_ok q hm
    split at k
    · rename_i a' b' e3 heq
      cases heq
      cases rp with
      | cons r1 rp =>
        cases rp with
        | cons r2 rp =>
          cases rp
          refine ⟨_, _, rfl, ?_⟩
          obtain ⟨h2, l2⟩ := (hh.addFz r1).setSlot (i := i) l'
          obtain ⟨h3, l3⟩ := (h2.addFz r2).setSlot (i := j) l2
          exact k F' H1 _ h3 l3 ((kp.set hp).set hq)
    · exact k.elim

/-! ### targets -/
def But (ts : List Nat) (σ σ' : L2.St) : Prop := (∀ i, i ∉ ts → σ'[i]? = σ[i]?) ∧ σ'.length = σ.length
def tG (M : Mx) (ts : List Nat) (asg : D → En → Option En) : TG := fun v σ H Q => ∃ F e T d e', Holds M F H ((some v, .fz d) :: (σ.zip e ++ T)) ∧ σ.length = e.length ∧ asg d e = some e' ∧
  ∀ F' H' σ', Same F F' → Same H H' → Holds M F' H' (σ'.zip e' ++ T) → σ'.length = e'.length → But ts σ σ' → Q σ' H'
def GT (M : Mx) (X : Cx) (tg : Expr) (ts : List Nat) (asg : D → En → Option En) : Prop := PG X tg (tG M ts asg)
def tGs (M : Mx) (ts : List Nat) (asg : List D → En → Option En) : TGs := fun vs σ H Q => ∃ F e T ds e', Holds M F H (σ.zip e ++ T) ∧ M.RepAll F ds vs ∧ σ.length = e.length ∧ asg ds e = some e' ∧
  ∀ F' H' σ', Same F F' → Same H H' → Holds M F' H' (σ'.zip e' ++ T) → σ'.length = e'.length → But ts σ σ' → Q σ' H'
def GTs (M : Mx) (X : Cx) (tgs : List Expr) (ts : List Nat) (asg : List D → En → Option En) : Prop := PGs X tgs (tGs M ts asg)
theorem PG.weak {x : Expr} {t t' : TG} (h : PG X x t) (k : ∀ v σ H Q, t' v σ H Q → t v σ H Q) : PG X x t' := ⟨fun pins s σ H v u Q I r h' => h.run pins s σ H v u Q I r (k v σ H Q h')⟩
theorem PGs.weak {x : List Expr} {t t' : TGs} (h : PGs X x t) (k : ∀ v σ H Q, t' v σ H Q → t v σ H Q) : PGs X x t' := ⟨fun pins s σ H v u Q I r h' => h.run pins s σ H v u Q I r (k v σ H Q h')⟩
def asgN (i : Nat) : D → En → Option En := fun d e => some (e.set i (.fz d))
def asgNil : List D → En → Option En := fun ds e => match ds with
  | [] => some e
  | _ => none
def asgCons (f : D → En → Option En) (g : List D → En → Option En) : List D → En → Option En := fun ds e => match ds with
  | d :: ds => match f d e with
    | some e1 => g ds e1
    | none => none
  | [] => none
def asgT (n : Nat) (g : List D → En → Option En) : D → En → Option En := fun d e => match d with
  | .tuple ds => match Nat.beq ds.length n with
    | true => g ds e
    | false => none
  | _ => none
def asgL (n : Nat) (g : List D → En → Option En) : D → En → Option En := fun d e => match d with
  | .list ds => match Nat.beq ds.length n with
    | true => g ds e
    | false => none
  | _ => none
theorem gt_name (i : Nat) {x : Str} (fit : Fit M X) (hi : X.N[i]? = some x := by rfl) (hx : Loc X.env.scope x := by first | exact .inl rfl | exact .inr rfl)
    (hf : X.fn x = true ∨ X.env.scope.names.lookup x = some .local := by first | exact .inl rfl | exact .inr rfl) : GT M X (.Name x pos) [i] (asgN i) := by
  refine PG.weak (pg_name fit.nd hi hx hf) fun v σ H Q ⟨F, e, T, d, e', h, l, hm, k⟩ => ?_
  cases hm
  obtain ⟨h2, l2⟩ := h.setSlot (i := i) l
  exact k F H _ (Same.refl F) (Same.refl H) h2 l2 ⟨fun j hj => List.getElem?_set_ne (fun z => hj (by simp [z])), List.length_set⟩
theorem gts_nil : GTs M X [] [] asgNil := by
  refine PGs.weak pgs_nil fun vs σ H Q ⟨F, e, T, ds, e', h, rp, l, hm, k⟩ => ?_
  cases rp with
  | nil => cases hm; exact ⟨rfl, k F H σ (Same.refl F) (Same.refl H) h l ⟨fun _ _ => rfl, rfl⟩⟩
  | cons _ _ => cases hm
theorem gts_cons {ts us : List Nat} {f : D → En → Option En} {g : List D → En → Option En} (h1 : GT M X a ts f) (h2 : GTs M X es us g)
    (hs : (assignEach (a :: es) X.env).map (·.2) = assign a X.env :: (assignEach es X.env).map (·.2) := by rfl) : GTs M X (a :: es) (ts ++ us) (asgCons f g) := by
  refine PGs.weak (pgs_cons h1 h2 hs) fun vs σ H Q ⟨F, e, T, ds, e', h, rp, l, hm, k⟩ => ?_
  cases rp with
  | nil => cases hm
  | @cons d v ds vs r1 r2 =>
    simp only [asgCons] at hm
    cases hf : f d e with
    | none => rw [hf] at hm; cases hm
    | some e1 =>
      rw [hf] at hm
      refine ⟨v, vs, rfl, F, e, T, d, e1, h.addFz r1, l, hf, fun F1 H1 σ1 s1 s2 q1 l1 n1 => ?_⟩
      exact ⟨F1, e1, T, ds, e', q1, RepAll.mono s1 r2, l1, hm, fun F2 H2 σ2 t1 t2 q2 l2 n2 => k F2 H2 σ2 (s1.trans t1) (s2.trans t2) q2 l2 ⟨fun i hi => (n2.1 i fun z => hi (List.mem_append_right _ z)).trans (n1.1 i fun z => hi (List.mem_append_left _ z)), n2.2.trans n1.2⟩⟩
theorem gt_tup {n : Nat} {ts : List Nat} {kk : Nat} {g : List D → En → Option En} (fit : Fit M X) (h : GTs M X es ts g) (hn : (assignEach es X.env).length = n := by rfl) (hst : (assignEach es X.env).findIdx? (·.1) = none := by rfl) : GT M X (.Tuple es kk pos) ts (asgT n g) := by
  refine PG.weak (pg_tup fit.calm h hn hst) fun v σ H Q ⟨F, e, T, d, e', hh, l, hm, k⟩ => ?_
  unfold asgT at hm
  split at hm
  · rename_i ds
    split at hm
    · rename_i hb
      obtain ⟨v', ev, rp⟩ := Holds.rep hh
      cases ev
      obtain ⟨ad, vs, rfl, h1, r1⟩ := Vw.tup hh.sub (.inl rp)
      refine ⟨ad, vs, rfl, by rw [fit.K]; exact h1, by rw [← r1.length]; exact Nat.eq_of_beq_eq_true hb, F, e, T, ds, e', hh.drop, r1, l, hm, k⟩
    · cases hm
  · cases hm
theorem gt_lst {n : Nat} {ts : List Nat} {kk : Nat} {g : List D → En → Option En} (fit : Fit M X) (h : GTs M X es ts g) (hn : (assignEach es X.env).length = n := by rfl) (hst : (assignEach es X.env).findIdx? (·.1) = none := by rfl) : GT M X (.Tuple es kk pos) ts (asgL n g) := by
  refine PG.weak (pg_lst fit.calm h hn hst) fun v σ H Q ⟨F, e, T, d, e', hh, l, hm, k⟩ => ?_
  unfold asgL at hm
  split at hm
  · rename_i ds
    split at hm
    · rename_i hb
      obtain ⟨v', ev, rp⟩ := Holds.rep hh
      cases ev
      obtain ⟨ad, vs, rfl, h1, r1⟩ := Vw.lst hh.sub (.inl rp)
      refine ⟨ad, vs, rfl, by rw [fit.K]; exact SqL.of h1, by rw [← r1.length]; exact Nat.eq_of_beq_eq_true hb, F, e, T, ds, e', hh.drop, r1, l, hm, k⟩
    · cases hm
  · cases hm
/-- target = e, any target: the value is frozen -/
def unpE (asg : D → En → Option En) (f : En → Oe) : En → So := fun e => (f e).bindS fun r e1 => match frz1 r e1 with
  | some (d, e2) => match asg d e2 with
    | some e3 => .nx e3
    | none => .bad
  | none => .bad
theorem Keep.but {ts : List Nat} {σ σ' : L2.St} (h : Keep pr σ0 σ) (n : But ts σ σ') (hd : ∀ i ∈ pr, i ∉ ts) : Keep pr σ0 σ' := fun i hi => (n.1 i (hd i hi)).trans (h i hi)
theorem ss_unp {tg : Expr} {ts : List Nat} {asg : D → En → Option En} {f : En → Oe} (he : SE M X W a f) (hg : GT M X tg ts asg) (hd : ∀ i ∈ pr, i ∉ ts := by decide) (hs : swapsWithSole [tg] a pos.line X.env = pure false := by rfl) (hw : swappedStores [tg] a X.env = pure none := by rfl)
    (h1 : (assignEach [tg] X.env).map (·.2) = [assign tg X.env] := by rfl) : SS M X W pr (.Assign [tg] a pos) (unpE asg f) := by
  refine PS.weak (ps_asg he hg hs hw h1) fun Dd σ H ⟨F, e, T, σ0, h, l, kp, k⟩ => ⟨F, e, T, h, l, ?_⟩
  refine PostE.to kp k fun r e1 F1 H1 v _ q k => ?_
  cases hm : frz1 r e1 with
  | none => rw [hm] at k; exact k.elim
  | some p =>
    obtain ⟨d, e2⟩ := p
    rw [hm] at k; simp only at k
    obtain ⟨F', s1, rp, hh, l'⟩ := frz1_ok q.h q.len q.at_ hm
    cases ha : asg d e2 with
    | none => rw [ha] at k; exact k.elim
    | some e3 =>
      rw [ha] at k
      exact ⟨F', e2, T, d, e3, hh.addFz rp, l', ha, fun F3 H3 σ3 _ _ q3 l3 n3 => k F3 H3 σ3 q3 l3 (kp.but n3 hd)⟩

/-! ### x op= e -/
def augE (i : Nat) (g : D → D → Option R) (f : En → Oe) : En → So := fun e => match gt e i with
  | .fz d0 => (f e).bindS fun r e1 => match rd r e1 with
    | some d1 => match g d0 d1 with
      | some (.val d2) => .nx (e1.set i (.fz d2))
      | _ => .bad
    | none => .bad
  | _ => .bad
theorem ss_aug (i : Nat) {x : Str} {p : Pos} {op : Operator} {ti : R2} {g : D → D → Option R} {f : En → Oe} (fit : Fit M X) (hop : OpR X (inplaceOp op) ti) (ho : Op2 M ti g) (he : SE M X W a f) (hi : X.N[i]? = some x := by rfl) (hx : Loc X.env.scope x := by first | exact .inl rfl | exact .inr rfl) (hp : i ∉ pr := by decide)
    (hf : X.fn x = true ∨ X.env.scope.names.lookup x = some .local := by first | exact .inl rfl | exact .inr rfl) : SS M X W pr (.AugAssign (.Name x p) op a pos) (augE i g f) := by
  have hop' : PIp X op ti := fun pins s σ H x y v u Q I r1 r2 h => hop pins s σ H x y v u Q I r1 r2 h
  refine PS.weak (ps_aug fit.nd hi hx he hop' hf) fun Dd σ H ⟨F, e, T, σ0, h, l, kp, k⟩ => ?_
  unfold augE at k
  split at k
  · rename_i d0 hg
    have lt : i < e.length := gt_lt (fun z => by rw [z] at hg; cases hg)
    obtain ⟨w, rest, h1, h2, h3⟩ := focus1 l lt
    have mm : (w, gt e i) ∈ σ.zip e ++ T := List.mem_append_left _ (h2.mem_iff.mpr List.mem_cons_self)
    rw [hg] at mm
    obtain ⟨L, q, _⟩ := h.mem mm
    cases q with
    | @fz v0 _ rp =>
      refine ⟨v0, h1, F, e, (some v0, .fz d0) :: T, (h.addFz rp).perm List.perm_middle.symm, l, ?_⟩
      have k' := k
      cases hfe : f e with
      | bad => rw [hfe] at k'; exact k'
      | ex c d e' =>
        rw [hfe] at k'
        exact fun F1 H1 dx vx q1 l1 hx rx => k' F1 H1 σ dx vx (q1.sl (List.Sublist.append_left (List.sublist_cons_self _ _) _)) l1 kp hx rx
      | ok r e1 =>
        rw [hfe] at k'; simp only [Oe.bindS] at k'
        intro F1 H1 y q1
        cases hr : rd r e1 with
        | none => rw [hr] at k'; exact k'.elim
        | some d1 =>
          rw [hr] at k'; simp only at k'
          cases hgg : g d0 d1 with
          | none => rw [hgg] at k'; exact k'.elim
          | some res =>
            rw [hgg] at k'
            obtain ⟨v0', ev, r0⟩ := Vw.of_fz q1.h (v := some v0) (d := d0) (by simp)
            cases ev
            refine ho F1 H1 _ v0 y d0 d1 res _ q1.h r0 (q1.vw hr) hgg fun F2 H2 z s1 s2 q2 pl => ?_
            split at k'
            · rename_i d2 heq
              cases heq
              have q3 : Holds M F2 H2 ((some z, .fz d2) :: (σ.zip e1 ++ T)) := q2.sl (List.Sublist.cons_cons _ ((List.Sublist.append_left (List.sublist_cons_self _ _) _).trans (List.sublist_append_right _ _)))
              obtain ⟨q4, l4⟩ := q3.setSlot (i := i) q1.len
              exact k' F2 H2 _ q4 l4 (kp.set hp)
            · exact k'.elim
  · exact k.elim

/-! ### if, while -/
def ifE (t : En → Ot) (f g : En → So) : En → So := fun e => (t e).bindS fun b e1 => match b with
  | true => f e1
  | false => g e1
theorem ss_if {c : Expr} {p q : List Stmt} {t : En → Ot} {f g : En → So} (hc : ST M X W c t) (ha : SB M X W pr p f) (hb : SB M X W pr q g) : SS M X W pr (.If c p q pos) (ifE t f g) := by
  refine PS.weak (ps_if hc ha hb) fun Dd σ H ⟨F, e, T, σ0, h, l, kp, k⟩ => ⟨F, e, T, h, l, ?_⟩
  refine PostT.to kp k fun b e1 F1 H1 _ q l1 k => ?_
  cases b with
  | true => exact iteT ⟨F1, e1, T, σ0, q, l1, kp, k⟩
  | false => exact iteF ⟨F1, e1, T, σ0, q, l1, kp, k⟩
def whileN (t : En → Ot) (f : En → So) : Nat → En → So
  | 0, _ => .bad
  | n + 1, e => (t e).bindS fun b e1 => match b with
    | true => match f e1 with
      | .nx e2 => whileN t f n e2
      | .ct e2 => whileN t f n e2
      | .bk e2 => .nx e2
      | r => r
    | false => .nx e1
theorem ss_while (n : Nat) {c : Expr} {body : List Stmt} {t : En → Ot} {f : En → So} (hp : PassesOwn (model X.prog X.w) X.A X.env X.xe) (hc : ST M X W c t) (hb : SB M X W pr body f) : SS M X W pr (.While c body [] pos) (whileN t f n) := by
  refine PS.weak (ps_while hp hc hb) fun Dd σ H ⟨F, e, T, σ0, h, l, kp, k⟩ => ?_
  refine ⟨fun m σ H => ∃ F e, Holds M F H (σ.zip e ++ T) ∧ σ.length = e.length ∧ Keep pr σ0 σ ∧ PostS M W pr σ0 T Dd (whileN t f m e), ⟨n, F, e, h, l, kp, k⟩, ?_⟩
  rintro m σ H ⟨F, e, h, l, kp, k⟩
  cases m with
  | zero => exact k.elim
  | succ m =>
    refine ⟨F, e, T, h, l, ?_⟩
    refine PostT.to kp k fun b e1 F1 H1 _ q l1 k => ?_
    cases b with
    | false => exact iteF (k F1 H1 σ q l1 kp)
    | true =>
      refine iteT ⟨fun σ H => ∃ F e, Holds M F H (σ.zip e ++ T) ∧ σ.length = e.length ∧ Keep pr σ0 σ ∧ PostS M W pr σ0 T Dd (whileN t f m e), fun σ' H' x => ⟨m, Nat.lt_succ_self m, x⟩, F1, e1, T, σ0, q, l1, kp, ?_⟩
      simp only at k
      cases hfe : f e1 with
      | nx e2 => rw [hfe] at k; exact fun F2 H2 σ2 q2 l2 k2 => ⟨F2, e2, q2, l2, k2, k⟩
      | ct e2 => rw [hfe] at k; exact fun F2 H2 σ2 q2 l2 k2 => ⟨F2, e2, q2, l2, k2, k⟩
      | bk e2 => rw [hfe] at k; exact k
      | rt s e2 => rw [hfe] at k; exact k
      | ex c d e2 => rw [hfe] at k; exact k
      | bad => rw [hfe] at k; exact k
end
end Bv
set_option maxHeartbeats 2000000
namespace PySem
open Sem (wp)
/-- enumerate(t), t a tuple -/
theorem bv_enum_new (l : Addr) (items : Array Value) :
    Meets (Builtin.«enumerate.__new__» ⟨[.type "enumerate", .ref l], []⟩) (fun _ R s => s.heap.IsTuple l items ∧
      R (.ok (.ret (.ref (s.heap.push { cls := .type "tuple_iterator", data := .fields #[.ref l, .int 0 0] }).objs.size)))
        { s with heap := (s.heap.push { cls := .type "tuple_iterator", data := .fields #[.ref l, .int 0 0] }).push { cls := .type "enumerate", data := .fields #[.none, .bool false, .ref s.heap.objs.size, rawInt 0, .none, .none] } }) :=
  .of_wp fun prog w A R s h => by
    obtain ⟨hp, g, d, tk, os⟩ := s; obtain ⟨hl, h⟩ := h
    have hsub := sub_enumerate
    have q1 : ∀ {A' : Around} {E : Value → Shared → Prop} {Q : Value → Shared → Prop}, Q (.ref hp.objs.size) ⟨hp.push { cls := .type "tuple_iterator", data := .fields #[.ref l, .int 0 0] }, g, d, tk, os⟩ → wpAny (model prog w) A' (pyIter (.ref l)) Q E ⟨hp, g, d, tk, os⟩ :=
      fun q => wpAny_pyIter_tuple hl q
    wp_walk using q1
    refine wpAny_stack_any fun st => wpAny_pure ?_
    split
    · rename_i c _ _ _ _ _
      cases (c == Value.type "enumerate")
      · wp_walk using q1
        exact ⟨_, rfl, h⟩
      · wp_walk using q1
        exact ⟨_, rfl, h⟩
    · wp_walk using q1
      exact ⟨_, rfl, h⟩
theorem bv_enum_tuple {prog : Program} {w : World} {A : Around} {E : Value → Shared → Prop} {s : Shared} {l : Addr} {items : Array Value} {Q : Value → Shared → Prop} (hL : s.heap.IsTuple l items)
    (h : ∀ h', IsEnum h' (s.heap.objs.size + 1) s.heap.objs.size 0 .none → h'.IsTupleIter s.heap.objs.size l 0 → (∀ b o, s.heap.get? b = some o → h'.get? b = some o) → Q (.ref (s.heap.objs.size + 1)) { s with heap := h' }) :
    wpAny (model prog w) A (call (.type "enumerate") [.ref l]) Q E s := by
  refine callType_new F.called_enumerate (by decide) (F.typeCall_enumerate_1 _) (F.newCall_enumerate_1 _) (fun obj => F.args_object_init_2 obj _) F.entry_enumerate_new (bv_enum_new l items) ⟨hL, ?_⟩
  have hz : (s.heap.push { cls := .type "tuple_iterator", data := .fields #[.ref l, .int 0 0] }).objs.size = s.heap.objs.size + 1 := Heap.size_push ..
  show _ ∧ _
  rw [hz]
  have he : IsEnum ((s.heap.push { cls := .type "tuple_iterator", data := .fields #[.ref l, .int 0 0] }).push { cls := .type "enumerate", data := .fields #[.none, .bool false, .ref s.heap.objs.size, rawInt 0, .none, .none] }) (s.heap.objs.size + 1) s.heap.objs.size 0 .none := by
    have := Heap.get?_push_size (s.heap.push { cls := .type "tuple_iterator", data := .fields #[.ref l, .int 0 0] }) (o := { cls := .type "enumerate", data := .fields #[.none, .bool false, .ref s.heap.objs.size, rawInt 0, .none, .none] }) rfl
    rw [hz] at this; exact this
  exact ⟨⟨_, he, rfl⟩, h _ he ⟨_, Heap.get?_push_of_some _ (Heap.get?_push_size _ rfl), rfl, rfl⟩ fun b o y => Heap.get?_push_of_some _ (Heap.get?_push_of_some _ y)⟩
theorem bv_enum_end {prog : Program} {w : World} {A : Around} {E : Value → Shared → Prop} {s : Shared} {e it l : Addr} {i : Nat} {items : Array Value} {old : Value} {Q : Option Value → Shared → Prop} (hh : A.handled = none)
    (he : IsEnum s.heap e it i old) (hit : s.heap.IsTupleIter it l i) (hl : s.heap.IsTuple l items) (hx : items[i]? = none) (hQ : ∀ h', Heap.ExtBut it s.heap h' → Q none { s with heap := h' }) : wpAny (model prog w) A (pyNext (.ref e)) Q E s := by
  have hT : s.TypeIs (.ref e) "enumerate" := ⟨_, he, rfl⟩
  unfold pyNext
  refine wpAny_bind (wpAny_attempt (wpAny_callSpecial?_slot (name := Str.ofString "__next__") hT F.slot_enumerate_next (wpAny_call_entry F.slot_enumerate_next hT F.entry_enumerate_next ?_ (F.args_enumerate_next_1 _))))
  show wpAny _ _ (field (.ref e) 2 >>= _) _ _ _
  refine wpAny_bind (wpAny_field he rfl (x := .ref it) rfl ?_)
  refine wpAny_bind (wpAny_nextOf_tuple_end hh hit hl hx fun h' x he' hx' => ?_)
  obtain ⟨o, ho, hc⟩ := hx'
  refine wpAny_bind (wpAny_isInstance (T := "StopIteration") (b := true) ⟨o, ho, hc⟩ isSubtype_stop ?_)
  exact wpAny_pure (hQ _ he')
end PySem
namespace Bv
open PySem PySem.Spec L2

/-- the tuple at a, its items with their places -/
def IteT (K : PySem.W.Frag) (a : Addr) : It :=
  ⟨fun i H => ∃ (xs : List V) (x : V), SqT K H a xs ∧ xs[i]? = some x, fun i H v H' => ∃ T x, v = .ref T ∧ H T = none ∧ H' = upd H T (.tup [.int (i : Nat), x]) ∧ ∀ xs, SqT K H a xs → xs[i]? = some x, fun i H => ∃ xs : List V, SqT K H a xs ∧ xs.length ≤ i⟩
theorem turn_enumT {P : Program} {w : World} {K : PySem.W.Frag} {elts : List Expr} {kk : Nat} {tpos : Pos} (a e it : Addr) :
    Turn P w K (.Tuple elts kk tpos) (IteT K a) [e, it] e (fun i h => (∃ old, IsEnum h e it ((i : Nat) : Int) old) ∧ h.IsTupleIter it a i ∧ e ≠ it ∧ a ≠ it ∧ a ≠ e) where
  mem := by simp
  obj := fun i h st b hb => by
    obtain ⟨⟨old, he⟩, ⟨o, ho, hc, hd⟩, _⟩ := st
    have e' : b = e ∨ b = it := by simpa using hb
    rcases e' with z | z
    · rw [z]; exact ⟨_, he, fun v q => nomatch q⟩
    · rw [z]; exact ⟨o, ho, fun v q => by rw [hd] at q; cases q⟩
  keep := fun i h h' st k => let ⟨⟨old, he⟩, hi, hne⟩ := st; ⟨⟨old, k e (by simp) _ he⟩, hi.at fun o q => k it (by simp) o q, hne⟩
  item := by
    intro X hP hw hK hc i pins s σ H E I hf st hg
    subst hP hw hK
    obtain ⟨⟨old, he⟩, hit, hne, hai, hae⟩ := st
    obtain ⟨xs, x, hq, hx⟩ := hg
    obtain ⟨its, rv, p, hz⟩ := I.tuple hq
    obtain ⟨u, hu, ru⟩ := rv.get hx
    have hel : e < s.heap.objs.size := Heap.lt_size he
    have hil : it < s.heap.objs.size := by obtain ⟨_, q, _⟩ := hit; exact Heap.lt_size q
    have hlt : i < its.toArray.size := by
      have := (List.getElem?_eq_some_iff.mp hu).1
      simpa using this
    refine wpAny_pyNext_enum_itemC (Draws.tuple (A := X.A.in1) (I.ok.hd hc) it a hai its.toArray) he ⟨hit, (show s.heap.IsTuple a its.toArray from p)⟩ hlt hne (by simp only [List.mem_cons, List.not_mem_nil, or_false, not_or]; exact ⟨hne, fun z => hae z.symm⟩) fun x' h' tk hx' ho hit' hT hsz hk => ?_
    have ex : x' = u := by
      have h1 : its.toArray[i]? = some x' := hx'
      have h2 : its.toArray[i]? = some u := by simpa using hu
      rw [h1] at h2; exact Option.some.inj h2
    subst ex
    refine ⟨_, rfl, wpAny_letOwnedTupleGo_enum (s := { s with heap := h', toks := tk + 1 }) ho fun h'' he' sb => ?_⟩
    have hT2 : h''.get? s.heap.objs.size = some { cls := .type "tuple", data := .seq #[.int i tk, x'] } := (sb.2 _ (Nat.ne_of_gt hel)).trans hT
    have new : ObjOk X.prog X.w (upd H s.heap.objs.size (.tup [.int (i : Nat), x])) h'' s.heap.objs.size (.tup [.int (i : Nat), x]) :=
      ⟨by show 2 ≤ sizeLine; decide, [.int i tk, x'], .cons ⟨_, rfl⟩ (.cons ru .nil), ⟨_, hT2, rfl, _, rfl⟩⟩
    have I1 : Inv X pins σ (upd H s.heap.objs.size (.tup [.int (i : Nat), x])) { s with heap := h'', toks := tk + 1 } :=
      I.turnedNew (ch := [e, it]) (fun b ob hb q => (sb.2 b (fun z => hb (by simp [z]))).trans (hk b ob (fun z => hb (by simp [z])) (fun z => hb (by simp [z])) q)) hf (Nat.le_refl _) new
    refine ⟨.ref s.heap.objs.size, _, I1, rfl, ⟨_, x, rfl, I.hok.fresh (Nat.le_refl _), rfl, fun ys hy => by rw [I.tuple_inj hy hq]; exact hx⟩, ⟨⟨x', ?_⟩, hit'.1.at fun o q => (sb.2 it (Ne.symm hne)).trans q, hne, hai, hae⟩, fun b hb => ?_⟩
    · have e1 : ((i + 1 : Nat) : Int) = (i : Int) + 1 := by omega
      rw [e1]; exact he'
    · have hb' : b < s.heap.objs.size := by
        have e' : b = e ∨ b = it := by simpa using hb
        rcases e' with z | z
        · rw [z]; exact hel
        · rw [z]; exact hil
      rw [upd_ne (Nat.ne_of_lt hb')]
      exact (hf b hb).1
  done := by
    intro X hP hw hK hc i pins s σ H E I hf st hg
    subst hP hw hK
    obtain ⟨⟨old, he⟩, hit, hne, hai, hae⟩ := st
    obtain ⟨xs, hq, hx⟩ := hg
    obtain ⟨its, rv, p, hz⟩ := I.tuple hq
    obtain ⟨f0, f1, f2, f3, f4, f5⟩ := hf it (by simp)
    have hl := rv.length
    have hit0 : ∃ o, s.heap.get? it = some o := let ⟨o, q, _⟩ := hit; ⟨o, q⟩
    refine bv_enum_end (I.ok.hd hc) he hit (show s.heap.IsTuple a its.toArray from p) (by simp; omega) fun h' eb => ⟨rfl, I.turned (t' := s.toks) (fun b o hb q => eb b o hb q) f0 f1 f3 f4 f5⟩
  self := fun A i s Q E st h => let ⟨⟨_, he⟩, _⟩ := st; wpAny_pyIter_enum he h

/-! ### what a loop goes through -/
inductive Oi where
  | ok (ds : List D) (e : En) | ex (c : Nat) (d : D) (e : En) | bad
def Oe.bindI : Oe → (R → En → Oi) → Oi
  | .ok r e, k => k r e
  | .ex c d e, _ => .ex c d e
  | .bad, _ => .bad
def Oa.bindI : Oa → (List R → En → Oi) → Oi
  | .ok r e, k => k r e
  | .ex c d e, _ => .ex c d e
  | .bad, _ => .bad
def ItOk (M : Mx) (J : It) (src : List Re) (ds : List D) : Prop := ∀ (i : Nat) (F H : Hp) (rs : List Re), Holds M F H rs → (∀ p ∈ src, p ∈ rs) →
  (∀ d, ds[i]? = some d → J.go i H ∧ ∀ x H', J.yld i H x H' → ∃ F', Same F F' ∧ Same H H' ∧ Holds M F' H' rs ∧ M.Rep F' d x) ∧ (ds.length ≤ i → J.stop i H)
def PostI (M : Mx) (W : WX) (σ : L2.St) (T : List Re) (R : It → Hp → Prop) : Oi → Prop
  | .ok ds e => ∀ J F H src, Holds M F H (σ.zip e ++ (src ++ T)) → σ.length = e.length → ItOk M J src ds → R J H
  | .ex c d e => ∀ F H dx vx, Holds M F H (σ.zip e ++ T) → σ.length = e.length → H dx = some (.xd [(M.xf c, vx)]) → M.Rep F d vx → W (.ref (M.xc c)) (some dx) σ H
  | .bad => False
def tI (M : Mx) (W : WX) (f : En → Oi) : L2.TI := fun σ H R => ∃ F e T, Holds M F H (σ.zip e ++ T) ∧ σ.length = e.length ∧ PostI M W σ T R (f e)
def SI (M : Mx) (X : Cx) (W : WX) (tg it : Expr) (f : En → Oi) : Prop := PI X tg it (tI M W f)
theorem PI.weak {X : Cx} {tg it : Expr} {t t' : L2.TI} (h : PI X tg it t) (k : ∀ σ H R, t' σ H R → t σ H R) : PI X tg it t' := ⟨fun pins s σ H R I h' => h.run pins s σ H R I (k σ H R h')⟩
section
variable {M : Mx} {X : Cx} {W : WX} {pr : List Nat} {F F' H H' : Hp} {σ σ0 : L2.St} {e e' : En} {T rs : List Re} {r : R} {v : V} {pos apos : Pos} {a b o tg : Expr} {rest es : List Expr} {c k n : Nat}
theorem itOk_list {ad : Addr} {ds : List D} : ItOk M (Itl M.K ad) [(some (.ref ad), .fz (.list ds))] ds := by
  intro i F H rs h hs
  obtain ⟨L, q, _⟩ := h.mem (hs _ List.mem_cons_self)
  cases q with
  | fz rp =>
    cases rp with
    | lst h1 r1 =>
      rename_i vs
      have h2 : SqL M.K H ad vs := SqL.of (h.sub _ _ h1)
      refine ⟨fun d hd => ?_, fun hl => ⟨vs, h2, by rw [← r1.length]; exact hl⟩⟩
      obtain ⟨v, e1, e2⟩ := r1.get hd
      refine ⟨⟨vs, v, h2, e1⟩, fun x H' hy => ?_⟩
      obtain ⟨rfl, hy⟩ := hy
      have := hy vs h2
      rw [e1] at this; cases this
      exact ⟨F, Same.refl F, Same.refl _, h, e2⟩
theorem itOk_tup {ad : Addr} {ds : List D} : ItOk M (Itt M.K ad) [(some (.ref ad), .fz (.tuple ds))] ds := by
  intro i F H rs h hs
  obtain ⟨L, q, _⟩ := h.mem (hs _ List.mem_cons_self)
  cases q with
  | fz rp =>
    cases rp with
    | tup h1 r1 =>
      rename_i vs
      have h2 : SqT M.K H ad vs := SqT.mono h.sub h1
      refine ⟨fun d hd => ?_, fun hl => ⟨vs, h2, by rw [← r1.length]; exact hl⟩⟩
      obtain ⟨v, e1, e2⟩ := r1.get hd
      refine ⟨⟨vs, v, h2, e1⟩, fun x H' hy => ?_⟩
      obtain ⟨rfl, hy⟩ := hy
      have := hy vs h2
      rw [e1] at this; cases this
      exact ⟨F, Same.refl F, Same.refl _, h, e2⟩
def rangeD (lo : Int) (n : Nat) : List D := (List.range n).map fun i => .int (lo + (i : Nat))
theorem itOk_range {lo : Int} {n : Nat} : ItOk M (Itr lo n) [] (rangeD lo n) := by
  intro i F H rs h hs
  refine ⟨fun d hd => ?_, fun hl => (by simpa [rangeD] using hl : n ≤ i)⟩
  simp only [rangeD, List.getElem?_map] at hd
  obtain ⟨j, h1, rfl⟩ := Option.map_eq_some_iff.mp hd
  obtain ⟨h2, h3⟩ := List.getElem?_eq_some_iff.mp h1
  simp at h2 h3
  subst h3
  refine ⟨h2, fun x H' hy => ?_⟩
  obtain ⟨rfl, rfl⟩ := hy
  exact ⟨F, Same.refl F, Same.refl _, h, .int _⟩
def rangeDC (lo c : Int) (n : Nat) : List D := (List.range n).map fun i => .int (lo + (i : Nat) * c)
theorem itOk_rangeC {lo c : Int} {n : Nat} : ItOk M (Itc lo c n) [] (rangeDC lo c n) := by
  intro i F H rs h hs
  refine ⟨fun d hd => ?_, fun hl => (by simpa [rangeDC] using hl : n ≤ i)⟩
  simp only [rangeDC, List.getElem?_map] at hd
  obtain ⟨j, h1, rfl⟩ := Option.map_eq_some_iff.mp hd
  obtain ⟨h2, h3⟩ := List.getElem?_eq_some_iff.mp h1
  simp at h2 h3
  subst h3
  refine ⟨h2, fun x H' hy => ?_⟩
  obtain ⟨rfl, rfl⟩ := hy
  exact ⟨F, Same.refl F, Same.refl _, h, .int _⟩
def enumD (i : Nat) : List D → List D
  | [] => []
  | d :: ds => .tuple [.int (i : Nat), d] :: enumD (i + 1) ds
theorem enumD_get : ∀ (ds : List D) (k i : Nat), (enumD k ds)[i]? = (ds[i]?).map fun d => .tuple [.int ((k + i : Nat) : Int), d]
  | [], k, i => by simp [enumD]
  | d :: ds, k, 0 => by simp [enumD]
  | d :: ds, k, i + 1 => by
    simp only [enumD, List.getElem?_cons_succ]
    rw [enumD_get ds (k + 1) i]
    have : k + 1 + i = k + (i + 1) := by omega
    rw [this]
theorem enumD_len : ∀ (ds : List D) (k : Nat), (enumD k ds).length = ds.length
  | [], _ => rfl
  | d :: ds, k => by simp [enumD, enumD_len ds]
theorem pair_new {d1 d2 : D} {v1 v2 : V} {p : Addr} (h : Holds M F H rs) (hp : H p = none) (r1 : M.Rep F d1 v1) (r2 : M.Rep F d2 v2) :
    ∃ F', Same F F' ∧ Same H (upd H p (.tup [v1, v2])) ∧ Holds M F' (upd H p (.tup [v1, v2])) rs ∧ M.Rep F' (.tuple [d1, d2]) (.ref p) := by
  have hF : F p = none := Same.free h.sub hp
  have s := same_upd_new (o := .tup [v1, v2]) hF
  exact ⟨_, s, same_upd_new hp, h.newFz hp, .tup (SqT.of upd_same) (.cons (Rep.mono s r1) (.cons (Rep.mono s r2) .nil))⟩
theorem itOk_enumL {ad : Addr} {ds : List D} : ItOk M (Ite M.K ad) [(some (.ref ad), .fz (.list ds))] (enumD 0 ds) := by
  intro i F H rs h hs
  obtain ⟨L, q, _⟩ := h.mem (hs _ List.mem_cons_self)
  cases q with
  | fz rp =>
    cases rp with
    | lst h1 r1 =>
      rename_i vs
      have h2 : SqL M.K H ad vs := SqL.of (h.sub _ _ h1)
      refine ⟨fun d hd => ?_, fun hl => ⟨vs, h2, by rw [← r1.length, ← enumD_len ds 0]; exact hl⟩⟩
      rw [enumD_get] at hd
      obtain ⟨d', hd', rfl⟩ := Option.map_eq_some_iff.mp hd
      obtain ⟨v, e1, e2⟩ := r1.get hd'
      refine ⟨⟨vs, v, h2, e1⟩, fun x H' hy => ?_⟩
      obtain ⟨p, y, rfl, hp, rfl, hy⟩ := hy
      have := hy vs h2
      rw [e1] at this; cases this
      have e3 : ((0 + i : Nat) : Int) = (i : Int) := by omega
      rw [e3]
      exact pair_new h hp (.int _) e2
theorem itOk_enumT {ad : Addr} {ds : List D} : ItOk M (IteT M.K ad) [(some (.ref ad), .fz (.tuple ds))] (enumD 0 ds) := by
  intro i F H rs h hs
  obtain ⟨L, q, _⟩ := h.mem (hs _ List.mem_cons_self)
  cases q with
  | fz rp =>
    cases rp with
    | tup h1 r1 =>
      rename_i vs
      have h2 : SqT M.K H ad vs := SqT.mono h.sub h1
      refine ⟨fun d hd => ?_, fun hl => ⟨vs, h2, by rw [← r1.length, ← enumD_len ds 0]; exact hl⟩⟩
      rw [enumD_get] at hd
      obtain ⟨d', hd', rfl⟩ := Option.map_eq_some_iff.mp hd
      obtain ⟨v, e1, e2⟩ := r1.get hd'
      refine ⟨⟨vs, v, h2, e1⟩, fun x H' hy => ?_⟩
      obtain ⟨p, y, rfl, hp, rfl, hy⟩ := hy
      have := hy vs h2
      rw [e1] at this; cases this
      have e3 : ((0 + i : Nat) : Int) = (i : Int) := by omega
      rw [e3]
      exact pair_new h hp (.int _) e2
def zipD : List D → List D → List D
  | x :: xs, y :: ys => .tuple [x, y] :: zipD xs ys
  | _, _ => []
theorem zipD_get : ∀ (xs ys : List D) (i : Nat) (d : D), (zipD xs ys)[i]? = some d → ∃ x y, xs[i]? = some x ∧ ys[i]? = some y ∧ d = .tuple [x, y]
  | [], ys, i, d, h => by simp [zipD] at h
  | x :: xs, [], i, d, h => by simp [zipD] at h
  | x :: xs, y :: ys, 0, d, h => by simp [zipD] at h; exact ⟨x, y, rfl, rfl, h.symm⟩
  | x :: xs, y :: ys, i + 1, d, h => by
    simp only [zipD, List.getElem?_cons_succ] at h
    obtain ⟨x', y', h1, h2, h3⟩ := zipD_get xs ys i d h
    exact ⟨x', y', by simpa using h1, by simpa using h2, h3⟩
theorem zipD_len : ∀ (xs ys : List D), (zipD xs ys).length = min xs.length ys.length
  | [], ys => by simp [zipD]
  | x :: xs, [] => by simp [zipD]
  | x :: xs, y :: ys => by
    simp only [zipD, List.length_cons, zipD_len xs ys]
    omega
theorem itOk_zipL {ad bd : Addr} {ds es : List D} : ItOk M (Itz M.K ad bd) [(some (.ref ad), .fz (.list ds)), (some (.ref bd), .fz (.list es))] (zipD ds es) := by
  intro i F H rs h hs
  obtain ⟨L, q, _⟩ := h.mem (hs _ List.mem_cons_self)
  obtain ⟨L', q', _⟩ := h.mem (hs (some (.ref bd), .fz (.list es)) (by simp))
  cases q with
  | fz rp =>
  cases q' with
  | fz rp' =>
    cases rp with
    | lst h1 r1 =>
    cases rp' with
    | lst h1' r1' =>
      rename_i vs us
      have h2 : SqL M.K H ad vs := SqL.of (h.sub _ _ h1)
      have h2' : SqL M.K H bd us := SqL.of (h.sub _ _ h1')
      refine ⟨fun d hd => ?_, fun hl => ⟨vs, us, h2, h2', ?_⟩⟩
      · obtain ⟨x0, y0, g1, g2, rfl⟩ := zipD_get ds es i d hd
        obtain ⟨v, e1, e2⟩ := r1.get g1
        obtain ⟨u, e1', e2'⟩ := r1'.get g2
        refine ⟨⟨vs, us, v, u, h2, h2', e1, e1'⟩, fun x H' hy => ?_⟩
        obtain ⟨p, x, y, rfl, hp, rfl, hx, hy⟩ := hy
        have z1 := hx vs h2
        rw [e1] at z1; cases z1
        have z2 := hy us h2'
        rw [e1'] at z2; cases z2
        exact pair_new h hp e2 e2'
      · rw [zipD_len] at hl
        rw [← r1.length, ← r1'.length]
        omega
theorem itOk_zipT {ad bd : Addr} {ds es : List D} : ItOk M (RZ.ItzT M.K ad bd) [(some (.ref ad), .fz (.tuple ds)), (some (.ref bd), .fz (.tuple es))] (zipD ds es) := by
  intro i F H rs h hs
  obtain ⟨L, q, _⟩ := h.mem (hs _ List.mem_cons_self)
  obtain ⟨L', q', _⟩ := h.mem (hs (some (.ref bd), .fz (.tuple es)) (by simp))
  cases q with
  | fz rp =>
  cases q' with
  | fz rp' =>
    cases rp with
    | tup h1 r1 =>
    cases rp' with
    | tup h1' r1' =>
      rename_i vs us
      have h2 : SqT M.K H ad vs := SqT.mono h.sub h1
      have h2' : SqT M.K H bd us := SqT.mono h.sub h1'
      refine ⟨fun d hd => ?_, fun hl => ⟨vs, us, h2, h2', ?_⟩⟩
      · obtain ⟨x0, y0, g1, g2, rfl⟩ := zipD_get ds es i d hd
        obtain ⟨v, e1, e2⟩ := r1.get g1
        obtain ⟨u, e1', e2'⟩ := r1'.get g2
        refine ⟨⟨vs, us, v, u, h2, h2', e1, e1'⟩, fun x H' hy => ?_⟩
        obtain ⟨p, x, y, rfl, hp, rfl, hx, hy⟩ := hy
        have z1 := hx vs h2
        rw [e1] at z1; cases z1
        have z2 := hy us h2'
        rw [e1'] at z2; cases z2
        exact pair_new h hp e2 e2'
      · rw [zipD_len] at hl
        rw [← r1.length, ← r1'.length]
        omega
theorem itOk_rol {ad : Addr} {ds : List D} : ItOk M (Itl M.K ad) [(some (.ref ad), .fz (.dict [(.none, .tuple ds)]))] ds := by
  intro i F H rs h hs
  obtain ⟨L, q, _⟩ := h.mem (hs _ List.mem_cons_self)
  cases q with
  | fz rp =>
    obtain ⟨p, vs, ev, h2, r1⟩ := Vw.rol h.sub (.inl rp)
    cases ev
    refine ⟨fun d hd => ?_, fun hl => ⟨vs, h2, by rw [← r1.length]; exact hl⟩⟩
    obtain ⟨v, e1, e2⟩ := r1.get hd
    refine ⟨⟨vs, v, h2, e1⟩, fun x H' hy => ?_⟩
    obtain ⟨rfl, hy⟩ := hy
    have := hy vs h2
    rw [e1] at this; cases this
    exact ⟨F, Same.refl F, Same.refl _, h, e2⟩
/-! ### the sources -/
def iSeqA (K : PySem.W.Frag) (tl : TE) : L2.TI := fun σ H R => tl σ H fun x H1 => ∃ a, x = .ref a ∧ (((∃ xs, SqL K H1 a xs) ∧ R (Itl K a) H1) ∨ ((∃ xs, SqT K H1 a xs) ∧ R (Itt K a) H1))
theorem pi_seqA {l : Expr} {tl : TE} (hl : PE X l tl) : PI X tg l (iSeqA X.K tl) := by
  refine ⟨fun pins s σ H R I h => ?_⟩
  refine thn (hl.run pins s σ H _ I h) fun v s1 ⟨x, H1, I1, r1, ad, ex, q1⟩ => ?_
  subst ex
  cases r1
  have fp : ∀ b ∈ [s1.heap.objs.size], FpOk X pins H1 b := fun b hb => by
    have e : b = s1.heap.objs.size := by simpa using hb
    subst e
    exact I1.fpOk (Nat.le_refl _) (I1.hok.fresh (Nat.le_refl _))
  rcases q1 with ⟨⟨xs, hq⟩, q⟩ | ⟨⟨xs, hq⟩, q⟩
  · obtain ⟨its, rv, p, hz⟩ := I1.list hq
    exact wpAny_pyIter_list p.isList ⟨_, _, _, _, H1, rfl, I1.kept (t' := s1.toks) fun b o e => Heap.get?_push_of_some _ e, turn_list ad _, ⟨_, Heap.get?_push_size _ rfl, rfl, rfl⟩, fp, q⟩
  · obtain ⟨its, rv, p, hz⟩ := I1.tuple hq
    exact wpAny_pyIter_tuple (show s1.heap.IsTuple ad its.toArray from p) ⟨_, _, _, _, H1, rfl, I1.kept (t' := s1.toks) fun b o e => Heap.get?_push_of_some _ e, turn_tuple ad _, ⟨_, Heap.get?_push_size _ rfl, rfl, rfl⟩, fp, q⟩
theorem PostE.toI {oe : Oe} {g : R → En → Oi} {Q : VK} {R' : It → Hp → Prop} (k : PostI M W σ T R' (oe.bindI g)) (hQ : ∀ r e1 F1 H1 v, HoldsR M F1 H1 σ e1 T r v → PostI M W σ T R' (g r e1) → Q v H1) : PostE M W σ T Q oe := by
  cases oe with
  | bad => exact k
  | ex c d e => exact k
  | ok r e1 => exact fun F1 H1 v q => hQ r e1 F1 H1 v q k
theorem PostA.toI {oe : Oa} {g : List R → En → Oi} {Q : List V → Hp → Prop} {R' : It → Hp → Prop} (k : PostI M W σ T R' (oe.bindI g)) (hQ : ∀ r e1 F1 H1 v, HoldsRs M F1 H1 σ e1 T r v → PostI M W σ T R' (g r e1) → Q v H1) : PostA M W σ T Q oe := by
  cases oe with
  | bad => exact k
  | ex c d e => exact k
  | ok r e1 => exact fun F1 H1 v q => hQ r e1 F1 H1 v q k
def seqI (f : En → Oe) : En → Oi := fun e => (f e).bindI fun r e1 => match frz1 r e1 with
  | some (.list ds, e2) => .ok ds e2
  | some (.tuple ds, e2) => .ok ds e2
  | some (.dict [(.none, .tuple ds)], e2) => .ok ds e2
  | _ => .bad
theorem si_seq {f : En → Oe} (fit : Fit M X) (ha : SE M X W a f) : SI M X W tg a (seqI f) := by
  refine PI.weak (pi_seqA ha) fun σ H R' ⟨F, e, T, h, l, k⟩ => ⟨F, e, T, h, l, ?_⟩
  refine PostE.toI k fun r e1 F1 H1 v q k => ?_
  rw [fit.K]
  have key : ∀ {d : D} {e2 : En}, frz1 r e1 = some (d, e2) → ∃ F', M.Rep F' d v ∧ Holds M F' H1 (σ.zip e2 ++ ([(some v, .fz d)] ++ T)) ∧ σ.length = e2.length := by
    intro d e2 hf
    obtain ⟨F', s1, rp, hh, l'⟩ := frz1_ok q.h q.len q.at_ hf
    exact ⟨F', rp, (hh.addFz rp).perm List.perm_middle.symm, l'⟩
  split at k
  · rename_i ds e2 hf
    obtain ⟨F', rp, hh, l'⟩ := key hf
    obtain ⟨ad, vs, rfl, h1, r1⟩ := Vw.lst hh.sub (.inl rp)
    exact ⟨ad, rfl, .inl ⟨⟨vs, SqL.of h1⟩, k _ F' H1 _ hh l' itOk_list⟩⟩
  · rename_i ds e2 hf
    obtain ⟨F', rp, hh, l'⟩ := key hf
    obtain ⟨ad, vs, rfl, h1, r1⟩ := Vw.tup hh.sub (.inl rp)
    exact ⟨ad, rfl, .inr ⟨⟨vs, h1⟩, k _ F' H1 _ hh l' itOk_tup⟩⟩
  · rename_i ds e2 hf
    obtain ⟨F', rp, hh, l'⟩ := key hf
    obtain ⟨ad, vs, rfl, h1, r1⟩ := Vw.rol hh.sub (.inl rp)
    exact ⟨ad, rfl, .inl ⟨⟨vs, h1⟩, k _ F' H1 _ hh l' itOk_rol⟩⟩
  · exact k.elim
def in62 (i : Int) : Bool := decide (-(2 ^ 62) ≤ i) && decide (i < 2 ^ 62)
theorem in62_ok {i : Int} (h : in62 i = true) : -(2 ^ 62) ≤ i ∧ i < 2 ^ 62 := by simpa [in62] using h
def rng1I (fas : En → Oa) : En → Oi := fun e => (fas e).bindI fun rs e1 => match rds rs e1 with
  | some [.int j] => match in62 j with
    | true => .ok (rangeD 0 j.toNat) e1
    | false => .bad
  | _ => .bad
def rng2I (fas : En → Oa) : En → Oi := fun e => (fas e).bindI fun rs e1 => match rds rs e1 with
  | some [.int i, .int j] => match in62 i && in62 j with
    | true => .ok (rangeD i (j - i).toNat) e1
    | false => .bad
  | _ => .bad
def rng3I (fas : En → Oa) : En → Oi := fun e => (fas e).bindI fun rs e1 => match rds rs e1 with
  | some [.int i, .int j, .int (.negSucc 0)] => match in62 i && in62 j with
    | true => .ok (rangeDC i (-1) (i - j).toNat) e1
    | false => .bad
  | _ => .bad
theorem si_range1 {fas : En → Oa} {p : Pos} (hm : X.mg "range" = none) (ha : AE M X W [a] fas) (hg : Gl X "range" := by rfl) (hs : starEach [a] X.env = [(false, eval a X.env)] := by rfl) : SI M X W tg (.Call (.Name "range" p) [a] [] pos) (rng1I fas) := by
  refine PI.weak (pi_range1 hg hm ha hs) fun σ H R' ⟨F, e, T, h, l, k⟩ => ⟨F, e, T, h, l, ?_⟩
  refine PostA.toI k fun rs e1 F1 H1 vs q k => ?_
  split at k
  · rename_i j hr
    obtain ⟨x, rfl, hx⟩ := paired1 (q.vw hr)
    split at k
    · rename_i hb
      obtain ⟨b1, b2⟩ := in62_ok hb
      exact ⟨j, by rw [hx.int], b1, b2, k _ F1 H1 [] (q.h.sl (List.sublist_append_right _ _)) q.len itOk_range⟩
    · exact k.elim
  · exact k.elim
theorem si_range2 {fas : En → Oa} {p : Pos} (hm : X.mg "range" = none) (ha : AE M X W [a, b] fas) (hg : Gl X "range" := by rfl) (hs : starEach [a, b] X.env = [(false, eval a X.env), (false, eval b X.env)] := by rfl) (hs2 : starEach [b] X.env = [(false, eval b X.env)] := by rfl) : SI M X W tg (.Call (.Name "range" p) [a, b] [] pos) (rng2I fas) := by
  refine PI.weak (pi_range2 hg hm ha hs hs2) fun σ H R' ⟨F, e, T, h, l, k⟩ => ⟨F, e, T, h, l, ?_⟩
  refine PostA.toI k fun rs e1 F1 H1 vs q k => ?_
  split at k
  · rename_i i j hr
    obtain ⟨x, y, rfl, hx, hy⟩ := paired2 (q.vw hr)
    split at k
    · rename_i hb
      rw [Bool.and_eq_true] at hb
      obtain ⟨b1, b2⟩ := in62_ok hb.1
      obtain ⟨b3, b4⟩ := in62_ok hb.2
      exact ⟨i, j, by rw [hx.int, hy.int], ⟨b1, b2, b3, b4⟩, k _ F1 H1 [] (q.h.sl (List.sublist_append_right _ _)) q.len itOk_range⟩
    · exact k.elim
  · exact k.elim
theorem paired3 {P : D → V → Prop} {d d' d'' : D} {xs : List V} (h : Paired P [d, d', d''] xs) : ∃ x y z, xs = [x, y, z] ∧ P d x ∧ P d' y ∧ P d'' z := by
  cases h with
  | cons a b =>
    obtain ⟨y, z, rfl, c, d⟩ := paired2 b
    exact ⟨_, y, z, rfl, a, c, d⟩
theorem si_range3 {x3 : Expr} {fas : En → Oa} {p : Pos} (hm : X.mg "range" = none) (ha : AE M X W [a, b, x3] fas) (hg : Gl X "range" := by rfl) (hs : starEach [a, b, x3] X.env = (false, eval a X.env) :: starEach [b, x3] X.env := by rfl) (hpl : (backTo pos (starEach [b, x3] X.env)).any (·.1) = false := by rfl) : SI M X W tg (.Call (.Name "range" p) [a, b, x3] [] pos) (rng3I fas) := by
  refine PI.weak (pi_range3 hg hm ha hs hpl) fun σ H R' ⟨F, e, T, h, l, k⟩ => ⟨F, e, T, h, l, ?_⟩
  refine PostA.toI k fun rs e1 F1 H1 vs q k => ?_
  split at k
  · rename_i i j hr
    obtain ⟨x, y, z, rfl, hx, hy, hz⟩ := paired3 (q.vw hr)
    split at k
    · rename_i hb
      rw [Bool.and_eq_true] at hb
      obtain ⟨b1, b2⟩ := in62_ok hb.1
      obtain ⟨b3, b4⟩ := in62_ok hb.2
      exact ⟨i, j, -1, _, by rw [hx.int, hy.int, hz.int]; rfl, RgC.neg b1 b2 b3 b4, k _ F1 H1 [] (q.h.sl (List.sublist_append_right _ _)) q.len itOk_rangeC⟩
    · exact k.elim
  · exact k.elim
def iEnumA (K : PySem.W.Frag) (ta : TA) : L2.TI := fun σ H R => ta σ H fun vs H1 => ∃ a xs, vs = [.ref a] ∧ ((SqL K H1 a xs ∧ R (Ite K a) H1) ∨ (SqT K H1 a xs ∧ R (IteT K a) H1))
theorem pi_enumA {ta : TA} {p tpos : Pos} {elts : List Expr} {kk : Nat} (hg : Gl X "enumerate") (hm : X.mg "enumerate" = none) (ha : PA X [a] ta) (hs : starEach [a] X.env = [(false, eval a X.env)] := by rfl) :
    PI X (.Tuple elts kk tpos) (.Call (.Name "enumerate" p) [a] [] pos) (iEnumA X.K ta) := by
  refine ⟨fun pins s σ H R I h => ?_⟩
  refine PyProof.Rows.Call_ (ld_blt I hg hm PyProof.Rows.boot_enumerate (PyProof.Rows.callWith_type1 (thn (ha.run pos pins s σ H _ I h) fun us s1 ⟨vs, H1, I1, r1, ad, xs, ex, q⟩ => ?_) hs rfl))
  subst ex
  obtain ⟨u, rfl, ru⟩ := vals1 r1
  cases ru
  have fp : ∀ b ∈ [s1.heap.objs.size + 1, s1.heap.objs.size], FpOk X pins H1 b := fun b hb => by
    have hle : s1.heap.objs.size ≤ b := by
      have e' : b = s1.heap.objs.size + 1 ∨ b = s1.heap.objs.size := by simpa using hb
      rcases e' with z | z <;> omega
    exact I1.fpOk hle (I1.hok.fresh hle)
  rcases q with ⟨hq, q⟩ | ⟨hq, q⟩
  · obtain ⟨its, rv, p', hz⟩ := I1.list hq
    refine call_enumerate_list p'.isList fun h' he hit hsz hk => wpAny_pyIter_enum he ?_
    exact ⟨_, _, _, _, H1, rfl, I1.kept (t' := s1.toks) hk, turn_enum ad (s1.heap.objs.size + 1) s1.heap.objs.size, ⟨⟨.none, he⟩, hit, Nat.succ_ne_self _⟩, fp, q⟩
  · obtain ⟨its, rv, p', hz⟩ := I1.tuple hq
    have lt : ad < s1.heap.objs.size := p'.lt
    refine bv_enum_tuple (show s1.heap.IsTuple ad its.toArray from p') fun h' he hit hk => wpAny_pyIter_enum he ?_
    exact ⟨_, _, _, _, H1, rfl, I1.kept (t' := s1.toks) hk, turn_enumT ad (s1.heap.objs.size + 1) s1.heap.objs.size, ⟨⟨.none, he⟩, hit, Nat.succ_ne_self _, Nat.ne_of_lt lt, Nat.ne_of_lt (Nat.lt_succ_of_lt lt)⟩, fp, q⟩
def enumI (fas : En → Oa) : En → Oi := fun e => (fas e).bindI fun rs e1 => match frzE rs e1 with
  | some ([.list ds], e2) => .ok (enumD 0 ds) e2
  | some ([.tuple ds], e2) => .ok (enumD 0 ds) e2
  | _ => .bad
theorem repAll1 {d : D} {vs : List V} (h : M.RepAll F [d] vs) : ∃ v, vs = [v] ∧ M.Rep F d v := by
  cases h with
  | cons a b => cases b; exact ⟨_, rfl, a⟩
theorem repAll2 {d d' : D} {vs : List V} (h : M.RepAll F [d, d'] vs) : ∃ v v', vs = [v, v'] ∧ M.Rep F d v ∧ M.Rep F d' v' := by
  cases h with
  | cons a b =>
    obtain ⟨v', rfl, c⟩ := repAll1 b
    exact ⟨_, v', rfl, a, c⟩
theorem si_enum {fas : En → Oa} {p tpos : Pos} {elts : List Expr} {kk : Nat} (fit : Fit M X) (hm : X.mg "enumerate" = none) (ha : AE M X W [a] fas) (hg : Gl X "enumerate" := by rfl) (hs : starEach [a] X.env = [(false, eval a X.env)] := by rfl) :
    SI M X W (.Tuple elts kk tpos) (.Call (.Name "enumerate" p) [a] [] pos) (enumI fas) := by
  refine PI.weak (pi_enumA hg hm ha hs) fun σ H R' ⟨F, e, T, h, l, k⟩ => ⟨F, e, T, h, l, ?_⟩
  refine PostA.toI k fun rs e1 F1 H1 vs q k => ?_
  rw [fit.K]
  split at k
  · rename_i ds e2 hf
    obtain ⟨F', s1, rp, hh, l'⟩ := frzE_ok q hf
    obtain ⟨v, rfl, rv⟩ := repAll1 rp
    obtain ⟨ad, us, rfl, h1, r1⟩ := Vw.lst hh.sub (.inl rv)
    exact ⟨ad, us, rfl, .inl ⟨SqL.of h1, k _ F' H1 [(some (.ref ad), .fz (.list ds))] ((hh.addFz rv).perm List.perm_middle.symm) l' itOk_enumL⟩⟩
  · rename_i ds e2 hf
    obtain ⟨F', s1, rp, hh, l'⟩ := frzE_ok q hf
    obtain ⟨v, rfl, rv⟩ := repAll1 rp
    obtain ⟨ad, us, rfl, h1, r1⟩ := Vw.tup hh.sub (.inl rv)
    exact ⟨ad, us, rfl, .inr ⟨h1, k _ F' H1 [(some (.ref ad), .fz (.tuple ds))] ((hh.addFz rv).perm List.perm_middle.symm) l' itOk_enumT⟩⟩
  · exact k.elim
def zipI (fas : En → Oa) : En → Oi := fun e => (fas e).bindI fun rs e1 => match frzE rs e1 with
  | some ([.list ds, .list es], e2) => .ok (zipD ds es) e2
  | some ([.tuple ds, .tuple es], e2) => .ok (zipD ds es) e2
  | _ => .bad
theorem si_zip {fas : En → Oa} {p tpos : Pos} {elts : List Expr} {kk : Nat} (fit : Fit M X) (hm : X.mg "zip" = none) (ha : AE M X W [a, b] fas) (hg : Gl X "zip" := by rfl)
    (hs : starEach [a, b] X.env = (false, eval a X.env) :: starEach [b] X.env := by rfl) (hpl : (backTo pos (starEach [b] X.env)).any (·.1) = false := by rfl) :
    SI M X W (.Tuple elts kk tpos) (.Call (.Name "zip" p) [a, b] [] pos) (zipI fas) := by
  refine PI.weak (RZ.pi_zipA hg hm ha hs hpl) fun σ H R' ⟨F, e, T, h, l, k⟩ => ⟨F, e, T, h, l, ?_⟩
  refine PostA.toI k fun rs e1 F1 H1 vs q k => ?_
  rw [fit.K]
  split at k
  · rename_i ds es e2 hf
    obtain ⟨F', s1, rp, hh, l'⟩ := frzE_ok q hf
    obtain ⟨v, v', rfl, rv, rv'⟩ := repAll2 rp
    obtain ⟨ad, us, rfl, h1, r1⟩ := Vw.lst hh.sub (.inl rv)
    obtain ⟨bd, us', rfl, h1', r1'⟩ := Vw.lst hh.sub (.inl rv')
    have h2 : Holds M F' H1 (σ.zip e2 ++ ([(some (.ref ad), .fz (.list ds)), (some (.ref bd), .fz (.list es))] ++ T)) := ((hh.addFz rv').addFz rv).perm (perm_sw [_, _] _ _)
    exact ⟨ad, bd, us, us', rfl, .inl ⟨SqL.of h1, SqL.of h1', k _ F' H1 _ h2 l' itOk_zipL⟩⟩
  · rename_i ds es e2 hf
    obtain ⟨F', s1, rp, hh, l'⟩ := frzE_ok q hf
    obtain ⟨v, v', rfl, rv, rv'⟩ := repAll2 rp
    obtain ⟨ad, us, rfl, h1, r1⟩ := Vw.tup hh.sub (.inl rv)
    obtain ⟨bd, us', rfl, h1', r1'⟩ := Vw.tup hh.sub (.inl rv')
    have h2 : Holds M F' H1 (σ.zip e2 ++ ([(some (.ref ad), .fz (.tuple ds)), (some (.ref bd), .fz (.tuple es))] ++ T)) := ((hh.addFz rv').addFz rv).perm (perm_sw [_, _] _ _)
    exact ⟨ad, bd, us, us', rfl, .inr ⟨h1, h1', k _ F' H1 _ h2 l' itOk_zipT⟩⟩
  · exact k.elim
/-! ### for -/
def forL (asg : D → En → Option En) (f : En → So) : List D → En → So
  | [], e => .nx e
  | d :: ds, e => match asg d e with
    | none => .bad
    | some e1 => match f e1 with
      | .nx e2 => forL asg f ds e2
      | .ct e2 => forL asg f ds e2
      | .bk e2 => .nx e2
      | r => r
def forE (fi : En → Oi) (asg : D → En → Option En) (f : En → So) : En → So := fun e => match fi e with
  | .ok ds e1 => forL asg f ds e1
  | .ex c d e1 => .ex c d e1
  | .bad => .bad
theorem PostS.drop {src : List Re} {Dd : Ends} {r : So} (h : PostS M W pr σ0 T Dd r) : PostS M W pr σ0 (src ++ T) Dd r := by
  have sl : ∀ {σ : L2.St} {e : En}, (σ.zip e ++ T).Sublist (σ.zip e ++ (src ++ T)) := List.Sublist.append_left (List.sublist_append_right _ _) _
  cases r with
  | nx e => exact fun F H σ q l k => h F H σ (q.sl sl) l k
  | rt s e => exact fun F H σ v q l k => h F H σ v (q.sl (List.Sublist.cons_cons _ sl)) l k
  | bk e => exact fun F H σ q l k => h F H σ (q.sl sl) l k
  | ct e => exact fun F H σ q l k => h F H σ (q.sl sl) l k
  | ex c d e => exact fun F H σ dx vx q l k => h F H σ dx vx (q.sl sl) l k
  | bad => exact h
theorem ss_for {it : Expr} {body : List Stmt} {fi : En → Oi} {ts : List Nat} {asg : D → En → Option En} {f : En → So} (fit : Fit M X) (hp : PassesOwn (model X.prog X.w) X.A X.env X.xe) (hi : SI M X W tg it fi) (hg : GT M X tg ts asg) (hb : SB M X W pr body f) (hd : ∀ i ∈ pr, i ∉ ts := by decide)
    (hs : ∀ x, foldedSetIterable it X.env x = pure x := by intro _; rfl) : SS M X W pr (.For tg it body [] pos) (forE fi asg f) := by
  refine PS.weak (ps_for hp fit.calm hi hg hb hs) fun Dd σ H ⟨F, e, T, σ0, h, l, kp, k⟩ => ⟨F, e, T, h, l, ?_⟩
  unfold forE at k
  cases hfi : fi e with
  | bad => rw [hfi] at k; exact k.elim
  | ex c d e1 => rw [hfi] at k; exact fun F H dx vx h l hx rx => k F H σ dx vx h l kp hx rx
  | ok ds e1 =>
    rw [hfi] at k
    intro J F1 H1 src q1 l1 J1
    refine ⟨fun i m σ H => ∃ F e, Holds M F H (σ.zip e ++ (src ++ T)) ∧ σ.length = e.length ∧ Keep pr σ0 σ ∧ i + m = ds.length ∧ PostS M W pr σ0 T Dd (forL asg f (ds.drop i) e), ⟨ds.length, F1, e1, q1, l1, kp, by simp, by simpa using k⟩, ?_⟩
    rintro i m σ H ⟨F, e, q, l, kp, him, k⟩
    obtain ⟨j1, j2⟩ := J1 i F H _ q (fun p hp => List.mem_append_right _ (List.mem_append_left _ hp))
    by_cases hlt : i < ds.length
    · obtain ⟨hgo, hy⟩ := j1 ds[i] (List.getElem?_eq_getElem hlt)
      refine .inr ⟨hgo, fun σ H => ∃ F e, Holds M F H (σ.zip e ++ (src ++ T)) ∧ σ.length = e.length ∧ Keep pr σ0 σ ∧ PostS M W pr σ0 T Dd (forL asg f (ds.drop (i + 1)) e), fun σ' H' ⟨F', e', a1, a2, a3, a4⟩ => ⟨m - 1, by omega, F', e', a1, a2, a3, by omega, a4⟩, fun x H' yx => ?_⟩
      obtain ⟨F', s1, s2, q', rx⟩ := hy x H' yx
      rw [List.drop_eq_getElem_cons hlt] at k
      simp only [forL] at k
      cases ha : asg ds[i] e with
      | none => rw [ha] at k; exact k.elim
      | some e2 =>
        rw [ha] at k; simp only at k
        refine ⟨F', e, _, ds[i], e2, q'.addFz rx, l, ha, fun F2 H2 σ2 t1 t2 q2 l2 n2 => ?_⟩
        refine ⟨F2, e2, _, σ0, q2, l2, kp.but n2 hd, ?_⟩
        cases hfe : f e2 with
        | nx e3 => rw [hfe] at k; exact fun F3 H3 σ3 q3 l3 k3 => ⟨F3, e3, q3, l3, k3, k⟩
        | ct e3 => rw [hfe] at k; exact fun F3 H3 σ3 q3 l3 k3 => ⟨F3, e3, q3, l3, k3, k⟩
        | bk e3 => rw [hfe] at k; exact fun F3 H3 σ3 q3 l3 k3 => k F3 H3 σ3 (q3.sl (List.Sublist.append_left (List.sublist_append_right _ _) _)) l3 k3
        | rt s e3 => rw [hfe] at k; exact fun F3 H3 σ3 v q3 l3 k3 => k F3 H3 σ3 v (q3.sl (List.Sublist.cons_cons _ (List.Sublist.append_left (List.sublist_append_right _ _) _))) l3 k3
        | ex c d e3 => rw [hfe] at k; exact fun F3 H3 σ3 dx vx q3 l3 k3 => k F3 H3 σ3 dx vx (q3.sl (List.Sublist.append_left (List.sublist_append_right _ _) _)) l3 k3
        | bad => rw [hfe] at k; exact k
    · have hnil : ds.drop i = [] := List.drop_eq_nil_of_le (by omega)
      rw [hnil] at k
      exact .inl ⟨j2 (by omega), k F H σ (q.sl (List.Sublist.append_left (List.sublist_append_right _ _) _)) l kp⟩
end
end Bv
set_option maxHeartbeats 2000000
namespace Bv
open PySem PySem.Spec L2

/-! ### list comprehensions -/
def W0 : WX := fun _ _ _ _ => False
def wipeE (e : En) : List Nat → En
  | [] => e
  | v :: vs => (wipeE e vs).set v .un
def backE (e : En) : List Nat → En → En
  | [], e' => e'
  | v :: vs, e' => backE e vs (e'.set v (gt (wipeE e vs) v))
def lcL (vs : List Nat) (asg : D → En → Option En) (tt : En → Ot) (te : En → Oe) : List D → List D → En → Oe
  | acc, [], e => .ok (.fr (.list acc)) e
  | acc, d :: ds, e => match asg d e with
    | none => .bad
    | some e1 => match tt e1 with
      | .ok true e2 => match te e2 with
        | .ok r e3 => match frz1 r e3 with
          | some (y, e4) => match Nat.blt acc.length line with
            | true => lcL vs asg tt te (acc ++ [y]) ds (wipeE e4 vs)
            | false => .bad
          | none => .bad
        | _ => .bad
      | .ok false e2 => lcL vs asg tt te acc ds (wipeE e2 vs)
      | _ => .bad
def lcE (vs : List Nat) (fi : En → Oi) (asg : D → En → Option En) (tt : En → Ot) (te : En → Oe) : En → Oe := fun e => match fi e with
  | .ok ds e1 => match lcL vs asg tt te [] ds (wipeE e1 vs) with
    | .ok r e2 => .ok r (backE e1 vs e2)
    | _ => .bad
  | _ => .bad
def SIf (M : Mx) (X : Cx) (ifs : List Expr) (f : En → Ot) : Prop := PTs X ifs (tTE M W0 f)
def yesE : En → Ot := fun e => .ok true e
section
variable {M : Mx} {X : Cx} {W : WX} {pr : List Nat} {F F' H H' : Hp} {σ σ0 : L2.St} {e e' : En} {T rs : List Re} {r : R} {v : V} {pos apos : Pos} {a b o tg : Expr} {rest es : List Expr} {c k n : Nat}
theorem sif_nil : SIf M X [] yesE := ⟨fun pins s σ H Q I ⟨F, e, T, h, l, k⟩ => pts_nil.run pins s σ H Q I (k F H h l)⟩
theorem sif_one {t : En → Ot} (h : ST M X W0 a t) : SIf M X [a] t := pts_one h
theorem wipeE_length : ∀ vs : List Nat, (wipeE e vs).length = e.length
  | [] => rfl
  | v :: vs => by unfold wipeE; rw [List.length_set, wipeE_length vs]
theorem backE_length : ∀ (vs : List Nat) (e' : En), (backE e vs e').length = e'.length
  | [], e' => rfl
  | v :: vs, e' => by unfold backE; rw [backE_length vs, List.length_set]
theorem wipe_get {i : Nat} (h : i < σ.length) : ∀ {vs : List Nat}, (wipe σ vs)[i]? = if i ∈ vs then some none else σ[i]?
  | [] => by simp [wipe]
  | v :: vs => by
    unfold wipe
    by_cases hv : v = i
    · subst hv
      rw [List.getElem?_set_self (by rw [wipe_length]; exact h)]
      simp
    · rw [List.getElem?_set_ne hv, wipe_get h]
      have : (i ∈ v :: vs) ↔ i ∈ vs := by simp [show i ≠ v from fun z => hv z.symm]
      simp only [this]
theorem wipe_same {σ' : L2.St} {vs : List Nat} (hl : σ'.length = σ.length) (h : ∀ i, i ∉ vs → σ'[i]? = (wipe σ vs)[i]?) : wipe σ' vs = wipe σ vs := by
  apply List.ext_getElem?
  intro i
  by_cases hi : i < σ.length
  · rw [wipe_get hi, wipe_get (by omega)]
    by_cases hm : i ∈ vs
    · rw [if_pos hm, if_pos hm]
    · rw [if_neg hm, if_neg hm, h i hm, wipe_get hi, if_neg hm]
  · rw [List.getElem?_eq_none (by rw [wipe_length]; omega), List.getElem?_eq_none (by rw [wipe_length]; omega)]
/-- the block's names put by, and back -/
theorem wipe_away : ∀ {vs : List Nat} {T : List Re}, (∀ v ∈ vs, v < e.length) → Holds M F H (σ.zip e ++ T) → σ.length = e.length →
    ∃ S, Holds M F H ((wipe σ vs).zip (wipeE e vs) ++ (S ++ T)) ∧ ∀ A F' H' e', Holds M F' H' (A ++ ((wipe σ vs).zip e' ++ (S ++ T))) → e'.length = e.length → Holds M F' H' (A ++ (σ.zip (backE e vs e') ++ T))
  | [], T, _, h, l => ⟨[], h, fun A F' H' e' q _ => q⟩
  | v :: vs, T, hv, h, l => by
    obtain ⟨S1, h1, b1⟩ := wipe_away (vs := vs) (T := T) (fun u hu => hv u (List.mem_cons_of_mem _ hu)) h l
    have hlt : v < (wipeE e vs).length := by rw [wipeE_length]; exact hv v List.mem_cons_self
    have ll : (wipe σ vs).length = (wipeE e vs).length := by rw [wipe_length, wipeE_length]; exact l
    obtain ⟨u, rest, g1, g2, g3⟩ := focus ll hlt
    refine ⟨(u, gt (wipeE e vs) v) :: S1, ?_, fun A F' H' e' q l' => ?_⟩
    · have q1 : Holds M F H ((u, gt (wipeE e vs) v) :: (rest ++ (S1 ++ T))) := h1.perm (List.Perm.append_right (S1 ++ T) g2)
      have q2 : Holds M F H ((none, .un) :: ((u, gt (wipeE e vs) v) :: (rest ++ (S1 ++ T)))) := q1.addUn
      refine q2.perm ?_
      show (_ :: _).Perm (((wipe σ vs).set v none).zip ((wipeE e vs).set v .un) ++ _)
      refine List.Perm.trans ?_ (List.Perm.append_right _ (g3 none .un).symm)
      refine List.Perm.cons _ ?_
      exact List.perm_middle.symm
    · have l2 : ((wipe σ vs).set v none).length = e'.length := by rw [List.length_set, wipe_length, l']; exact l
      obtain ⟨u', rest', k1, k2, k3⟩ := focus l2 (show v < e'.length by rw [l']; exact hv v List.mem_cons_self)
      have k4 := k3 u (gt (wipeE e vs) v)
      rw [List.set_set] at k4
      have hset : (wipe σ vs).set v u = wipe σ vs := by
        apply List.ext_getElem?
        intro j
        by_cases hj : v = j
        · subst hj
          rw [List.getElem?_set_self (by have := (List.getElem?_eq_some_iff.mp g1).1; omega), g1]
        · rw [List.getElem?_set_ne hj]
      rw [hset] at k4
      refine b1 A F' H' (e'.set v (gt (wipeE e vs) v)) ?_ (by rw [List.length_set]; exact l')
      have q1 : Holds M F' H' (((wipe σ vs).set v none).zip e' ++ (A ++ ((u, gt (wipeE e vs) v) :: (S1 ++ T)))) := q.perm (perm_sw _ _ _)
      have q2 : Holds M F' H' ((u', gt e' v) :: (rest' ++ (A ++ ((u, gt (wipeE e vs) v) :: (S1 ++ T))))) := q1.perm (List.Perm.append_right _ k2)
      refine q2.drop.perm ?_
      refine List.Perm.trans ?_ (List.Perm.append_left A (List.Perm.append_right (S1 ++ T) k4.symm))
      refine (perm_sw _ _ _).trans (List.Perm.append_left A ?_)
      exact List.perm_middle
theorem fit_blk {s : Shared} {scope : Scope} {cenv : Env} {fp : List Addr} (fit : Fit M X) : Fit M (X.blk s H scope cenv fp) := ⟨fit.K, fit.w, fit.nd, fit.calm, fit.hu⟩
/-- what a comprehension's turns hold -/
theorem lc_turns {fi : En → Oi} {ts vs : List Nat} {asg : D → En → Option En} {tt : En → Ot} {te : En → Oe} {Q : VK} (hsub : ∀ i ∈ ts, i ∈ vs) (hlen : ∀ v ∈ vs, v < σ.length)
    (h : tE M W (lcE vs fi asg tt te) σ H Q) : tLc (tI M W fi) (tG M ts asg) (tTE M W0 tt) (tE M W0 te) vs σ H Q := by
  obtain ⟨F, e, T, h, l, k⟩ := h
  refine ⟨F, e, T, h, l, ?_⟩
  unfold lcE at k
  cases hfi : fi e with
  | bad => rw [hfi] at k; exact k.elim
  | ex c d e1 => rw [hfi] at k; exact k.elim
  | ok ds e1 =>
    rw [hfi] at k; simp only at k
    cases hlc : lcL vs asg tt te [] ds (wipeE e1 vs) with
    | bad => rw [hlc] at k; exact k.elim
    | ex c d e2 => rw [hlc] at k; exact k.elim
    | ok rr e2 =>
      rw [hlc] at k; simp only at k
      intro J F1 H1 src q1 l1 J1 D hD
      have q1' : Holds M F1 H1 (σ.zip e1 ++ (src ++ T)) := q1
      obtain ⟨S, w1, bk⟩ := wipe_away (vs := vs) (fun v hv' => by have := hlen v hv'; omega) q1' l1
      refine ⟨fun i m H => ∃ F e acc, Holds M F H ((some (.ref D), .ow (.list acc)) :: ((wipe σ vs).zip e ++ (S ++ (src ++ T)))) ∧ e.length = σ.length ∧ i + m = ds.length ∧ lcL vs asg tt te acc (ds.drop i) e = .ok rr e2, ?_, ?_⟩
      · refine ⟨ds.length, F1, wipeE e1 vs, [], ?_, by rw [wipeE_length]; exact l1.symm, by simp, by simpa using hlc⟩
        refine w1.newOw hD (d := .list []) ?_
        exact ⟨[], upd_same, .nil⟩
      · rintro i m H ⟨F, e, acc, q, le, him, kk⟩
        have lw : (wipe σ vs).length = e.length := by rw [wipe_length]; exact le.symm
        obtain ⟨j1, j2⟩ := J1 i F H _ q (fun p hp => by simp [hp])
        by_cases hlt : i < ds.length
        · obtain ⟨hgo, hy⟩ := j1 ds[i] (List.getElem?_eq_getElem hlt)
          refine .inr ⟨hgo, fun H => ∃ F e acc, Holds M F H ((some (.ref D), .ow (.list acc)) :: ((wipe σ vs).zip e ++ (S ++ (src ++ T)))) ∧ e.length = σ.length ∧ lcL vs asg tt te acc (ds.drop (i + 1)) e = .ok rr e2,
            fun H' ⟨F', e', acc', a1, a2, a3⟩ => ⟨m - 1, by omega, F', e', acc', a1, a2, by omega, a3⟩, fun x H' yx => ?_⟩
          obtain ⟨F', s1, s2, q', rx⟩ := hy x H' yx
          rw [List.drop_eq_getElem_cons hlt] at kk
          simp only [lcL] at kk
          cases ha : asg ds[i] e with
          | none => rw [ha] at kk; cases kk
          | some e3 =>
            rw [ha] at kk; simp only at kk
            have q2 : Holds M F' H' ((some x, .fz ds[i]) :: ((wipe σ vs).zip e ++ ((some (.ref D), .ow (.list acc)) :: (S ++ (src ++ T))))) := (q'.addFz rx).perm (List.Perm.cons _ List.perm_middle.symm)
            refine ⟨F', e, _, ds[i], e3, q2, lw, ha, fun F2 H2 σ2 t1 t2 q3 l2 n2 => ?_⟩
            have l3 : σ2.length = σ.length := by rw [n2.2, wipe_length]
            have ws : wipe σ2 vs = wipe σ vs := wipe_same l3 fun i hi => n2.1 i fun z => hi (hsub i z)
            refine ⟨ws, F2, e3, _, q3, l2, ?_⟩
            cases ht : tt e3 with
            | bad => rw [ht] at kk; cases kk
            | ex c d e' => rw [ht] at kk; cases kk
            | ok bb e4 =>
              rw [ht] at kk
              cases bb with
              | false =>
                simp only at kk
                intro F3 H3 q4 l4
                obtain ⟨S2, w2, _⟩ := wipe_away (vs := vs) (fun v hv' => by have := hlen v hv'; omega) q4 l4
                rw [ws] at w2
                rw [if_neg (by simp)]
                refine ⟨F3, _, acc, ?_, by rw [wipeE_length]; omega, kk⟩
                refine (w2.sl (List.Sublist.append_left (List.sublist_append_right _ _) _)).perm List.perm_middle
              | true =>
                simp only at kk
                intro F3 H3 q4 l4
                rw [if_pos rfl]
                refine ⟨F3, e4, _, q4, l4, ?_⟩
                cases he : te e4 with
                | bad => rw [he] at kk; cases kk
                | ex c d e' => rw [he] at kk; cases kk
                | ok r5 e5 =>
                  rw [he] at kk; simp only at kk
                  intro F4 H4 y q5
                  cases hf : frz1 r5 e5 with
                  | none => rw [hf] at kk; cases kk
                  | some p =>
                    obtain ⟨dy, e6⟩ := p
                    rw [hf] at kk; simp only at kk
                    cases hb : Nat.blt acc.length line with
                    | false => rw [hb] at kk; cases kk
                    | true =>
                      rw [hb] at kk; simp only at kk
                      obtain ⟨F5, s5, ry, q6, l6⟩ := frz1_ok q5.h q5.len q5.at_ hf
                      have q7 := q6.perm (List.perm_middle (l₁ := σ2.zip e6) (l₂ := S ++ (src ++ T)))
                      obtain ⟨ad, hd, ow, hFn⟩ := q7.own
                      cases hd
                      obtain ⟨us, hD4, rus⟩ := ow
                      refine ⟨us, hD4, ?_, ?_⟩
                      · rw [← rus.length, ← line_eq]
                        exact Nat.le_of_ble_eq_true hb
                      · have q8 := q7.write (o := .lst (us ++ [y])) (d' := .list (acc ++ [dy])) ⟨us ++ [y], upd_same, rus.append (.cons ry .nil)⟩
                        have q9 := q8.perm (List.perm_middle (l₁ := σ2.zip e6) (l₂ := S ++ (src ++ T))).symm
                        obtain ⟨S2, w2, _⟩ := wipe_away (vs := vs) (fun v hv' => by have := hlen v hv'; omega) q9 l6
                        rw [ws] at w2
                        refine ⟨F5, _, _, ?_, by rw [wipeE_length]; omega, kk⟩
                        refine (w2.sl (List.Sublist.append_left (List.sublist_append_right _ _) _)).perm List.perm_middle
        · have hnil : ds.drop i = [] := List.drop_eq_nil_of_le (by omega)
          rw [hnil] at kk
          simp only [lcL] at kk
          cases kk
          refine .inl ⟨j2 (by omega), ?_⟩
          refine k F H _ ⟨?_, ?_, trivial⟩
          · have := bk [(some (.ref D), .ow (.list acc))] F H e2 q (by omega)
            exact this.sl (List.Sublist.cons_cons _ (List.Sublist.append_left (List.sublist_append_right _ _) (σ.zip _)))
          · rw [backE_length]; exact le.symm

theorem se_lc {elt iter : Expr} {ifs : List Expr} {scope : Scope} {own : List (Str × Nat)} {vs : List Nat} {fi : En → Oi} {ts : List Nat} {asg : D → En → Option En} {tt : En → Ot} {te : En → Oe} (fit : Fit M X) (hi : SI M X W tg iter fi) (ok : BlkOk X.N X.env.scope scope own) (hvs : own.map (·.2) = vs)
    (hg : ∀ (s : Shared) (H : Hp) (C : Addr) (cl : List (Str × Addr)) (fp : List Addr), GT M (X.blk s H scope (compEnvC scope cl C X.env) fp) tg ts asg)
    (ht : ∀ (s : Shared) (H : Hp) (C : Addr) (cl : List (Str × Addr)) (fp : List Addr), SIf M (X.blk s H scope (compEnvC scope cl C X.env) fp) ifs tt)
    (he : ∀ (s : Shared) (H : Hp) (C : Addr) (cl : List (Str × Addr)) (fp : List Addr), SE M (X.blk s H scope (compEnvC scope cl C X.env) fp) W0 elt te) (hsub : ∀ i ∈ ts, i ∈ vs := by decide) (hs : ∀ x, foldedSetIterable iter X.env x = pure x := by intro _; rfl) :
    SE M X W (.ListComp elt [⟨tg, iter, ifs, 0⟩] scope pos) (lcE vs fi asg tt te) := by
  subst hvs
  refine ⟨fun pins s σ H Q I h => (pe_lc fit.calm fit.nd hi ok hg ht he hs).run pins s σ H Q I (lc_turns hsub (fun v hv => ?_) h)⟩
  obtain ⟨p, hp, rfl⟩ := List.mem_map.mp hv
  have := (List.getElem?_eq_some_iff.mp (ok.ix p hp)).1
  rw [I.len]; exact this
theorem ss_setLc (i : Nat) {y : Str} {py spos : Pos} {elt iter : Expr} {ifs : List Expr} {scope : Scope} {own : List (Str × Nat)} {vs : List Nat} {fi : En → Oi} {ts : List Nat} {asg : D → En → Option En} {tt : En → Ot} {te : En → Oe} (fit : Fit M X) (hi : SI M X W tg iter fi) (ok : BlkOk X.N X.env.scope scope own) (hvs : own.map (·.2) = vs)
    (hg : ∀ (s : Shared) (H : Hp) (C : Addr) (cl : List (Str × Addr)) (fp : List Addr), GT M (X.blk s H scope (compEnvC scope cl C X.env) fp) tg ts asg)
    (ht : ∀ (s : Shared) (H : Hp) (C : Addr) (cl : List (Str × Addr)) (fp : List Addr), SIf M (X.blk s H scope (compEnvC scope cl C X.env) fp) ifs tt)
    (he : ∀ (s : Shared) (H : Hp) (C : Addr) (cl : List (Str × Addr)) (fp : List Addr), SE M (X.blk s H scope (compEnvC scope cl C X.env) fp) W0 elt te)
    (hsw : swapsWith (.ListComp elt [⟨tg, iter, ifs, 0⟩] scope pos) (some (.Name y py)) spos.line X.env = pure true)
    (hsub : ∀ i ∈ ts, i ∈ vs := by decide) (hy : X.N[i]? = some y := by rfl) (hyl : X.env.scope.names.lookup y = some .local := by rfl) (hp : i ∉ pr := by decide) (hs : ∀ x, foldedSetIterable iter X.env x = pure x := by intro _; rfl) :
    SS M X W pr (.Assign [.Name y py] (.ListComp elt [⟨tg, iter, ifs, 0⟩] scope pos) spos) (setE i (lcE vs fi asg tt te)) := by
  subst hvs
  refine ⟨fun pins s σ H Dd I ⟨F, e, T, σ0, h, l, kp, k⟩ => (ps_setLc fit.calm fit.nd hy hyl hsw hi ok hg ht he hs).run pins s σ H Dd I (lc_turns hsub (fun v hv => ?_) ⟨F, e, T, h, l, ?_⟩)⟩
  · obtain ⟨p, hp, rfl⟩ := List.mem_map.mp hv
    have := (List.getElem?_eq_some_iff.mp (ok.ix p hp)).1
    rw [I.len]; exact this
  refine PostE.to kp k fun r e1 F1 H1 v _ q k => ?_
  cases hm : mv r e1 with
  | none => rw [hm] at k; exact k.elim
  | some p =>
    obtain ⟨s, e2⟩ := p
    rw [hm] at k
    obtain ⟨F', s1, hh, l'⟩ := mv_ok q hm
    obtain ⟨h2, l2⟩ := hh.setSlot (i := i) l'
    exact k F' H1 _ h2 l2 (kp.set hp)
end
end Bv
set_option maxHeartbeats 2000000
namespace Bv
open PySem PySem.Spec L2

/-! ### an owned thing in a slot or in an object's field -/
def gow (s : Sl) : Option D := match s with
  | .ow d => some d
  | _ => none
def gof : List Fl → Nat → Option D
  | [], _ => none
  | .ow d :: _, 0 => some d
  | _ :: _, 0 => none
  | _ :: r, i + 1 => gof r i
def plR : R → En → Option D
  | .pl i, e => gow (gt e i)
  | .pf i f, e => match gt e i with
    | .ob _ fs => gof fs f
    | _ => none
  | _, _ => none
def plW : R → D → En → En
  | .pl i, d, e => e.set i (.ow d)
  | .pf i f, d, e => match gt e i with
    | .ob c fs => e.set i (.ob c (fs.set f (.ow d)))
    | _ => e
  | _, _, e => e
section
variable {M : Mx} {X : Cx} {W : WX} {pr : List Nat} {F F' H H' : Hp} {σ σ0 : L2.St} {e e' : En} {T rs : List Re} {r : R} {v : V} {pos apos : Pos} {a b o tg : Expr} {rest es : List Expr} {c k n : Nat}
theorem FRep.owAt : ∀ {fs : List (Str × V)} {ns : List Str} {gs : List Fl} {L : List Addr} {f : Nat} {d : D}, FRep M F H fs ns gs L → gof gs f = some d →
    ∃ x b, fs[f]? = some (x, .ref b) ∧ b ∈ L ∧ OwD M F H b d ∧ ∀ (H' : Hp) d', L.Nodup → (∀ y ∈ L, y ≠ b → H' y = H y) → OwD M F H' b d' → FRep M F H' fs ns (gs.set f (.ow d')) L
  | _, _, _, _, _, _, .nil, h => by simp [gof] at h
  | _, _, _, _, 0, _, .fz r t, h => by simp [gof] at h
  | _, _, _, _, f + 1, d, .fz r t, h => by
    obtain ⟨x, b, h1, h2, h3, h4⟩ := FRep.owAt t (f := f) (d := d) h
    exact ⟨x, b, by simpa using h1, h2, h3, fun H' d' n k o => .fz r (h4 H' d' n k o)⟩
  | _, _, _, _, 0, _, .ow (x := x) (b := b) r t, h => by
    cases h
    exact ⟨x, b, rfl, List.mem_cons_self, r, fun H' d' n k o => .ow o (t.at (Same.refl F) fun y hy => k y (List.mem_cons_of_mem _ hy) fun z => (List.nodup_cons.mp n).1 (z ▸ hy))⟩
  | _, _, _, _, f + 1, d, .ow (b := b0) r t, h => by
    obtain ⟨x, b, h1, h2, h3, h4⟩ := FRep.owAt t (f := f) (d := d) h
    refine ⟨x, b, by simpa using h1, List.mem_cons_of_mem _ h2, h3, fun H' d' n k o => ?_⟩
    have hne : b0 ≠ b := fun z => (List.nodup_cons.mp n).1 (z ▸ h2)
    exact .ow (r.at (Same.refl F) (k b0 List.mem_cons_self hne)) (h4 H' d' (List.nodup_cons.mp n).2 (fun y hy => k y (List.mem_cons_of_mem _ hy)) o)
theorem Holds.writeF {a : Addr} {fs : List Fl} {f : Nat} {d : D} (x : Holds M F H ((some (.ref a), .ob c fs) :: rs)) (hd : gof fs f = some d) :
    ∃ b dx fvs y, H a = some (.ins (M.cl c) dx fvs) ∧ fvs[f]? = some (y, .ref b) ∧ OwD M F H b d ∧ F b = none ∧ ∀ o d', OwD M F (upd H b o) b d' → Holds M F (upd H b o) ((some (.ref a), .ob c (fs.set f (.ow d'))) :: rs) := by
  obtain ⟨s, L, q1, nd, fr⟩ := x
  cases q1 with
  | cons q1 q2 =>
    rename_i L2
    cases q1 with
    | ob h1 h2 =>
      rename_i dx fvs L1
      obtain ⟨y, b, k1, k2, k3, k4⟩ := FRep.owAt h2 hd
      have nd' : (a :: (L1 ++ L2)).Nodup := nd
      have n1 := List.nodup_cons.mp nd'
      have n2 := List.nodup_append.mp n1.2
      have hba : a ≠ b := fun z => n1.1 (z ▸ List.mem_append_left _ k2)
      have hF : F b = none := fr b (List.mem_append_left _ (List.mem_cons_of_mem _ k2))
      refine ⟨b, dx, fvs, y, h1, k1, k3, hF, fun o d' od => ⟨fun (y : Addr) (u : HO) (z : F y = some u) => ?_, (a :: L1) ++ L2, .cons (Each.ob (dx := dx) (fvs := fvs) ?_ ?_) (q2.at (Same.refl F) fun y hy => upd_ne fun z => n2.2.2 b k2 y hy z.symm), nd, fr⟩⟩
      · rw [upd_ne (a := b) fun q => by rw [q, hF] at z; cases z]
        exact s y u z
      · rw [upd_ne hba]; exact h1
      · exact k4 _ d' n2.1 (fun y hy hne => upd_ne hne) od
/-- the place, in hand -/
theorem place_ok {d : D} (h : HoldsR M F H σ e T r v) (hr : plR r e = some d) : ∃ ad, v = .ref ad ∧ OwD M F H ad d ∧ F ad = none ∧ ∀ o d', OwD M F (upd H ad o) ad d' → Holds M F (upd H ad o) (σ.zip (plW r d' e) ++ T) ∧ σ.length = (plW r d' e).length := by
  obtain ⟨h, l, p⟩ := h
  cases r with
  | val _ => cases hr
  | fr _ => cases hr
  | ob _ _ => cases hr
  | pl i =>
    simp only [plR] at hr
    have lt : i < e.length := gt_lt (fun z => by rw [z] at hr; cases hr)
    obtain ⟨u, rest, h1, h2, h3⟩ := focus1 l lt
    have p' : σ[i]? = some (some v) := p
    rw [p'] at h1; cases h1
    cases hg : gt e i with
    | ow d0 =>
      rw [hg] at hr h2; cases hr
      have q : Holds M F H ((some v, .ow d) :: (rest ++ T)) := Holds.perm h (List.Perm.append_right T h2)
      obtain ⟨ad, ev, od, hF⟩ := q.own
      cases ev
      refine ⟨ad, rfl, od, hF, fun o d' od' => ⟨(q.write od').perm ?_, by simp [plW, l]⟩⟩
      exact (List.Perm.append_right T (h3 (.ow d'))).symm
    | un => rw [hg] at hr; cases hr
    | fz _ => rw [hg] at hr; cases hr
    | ob _ _ => rw [hg] at hr; cases hr
  | pf i f =>
    simp only [plR] at hr
    have lt : i < e.length := gt_lt (fun z => by rw [z] at hr; cases hr)
    obtain ⟨u, rest, h1, h2, h3⟩ := focus1 l lt
    obtain ⟨ad, dx, C, fvs, x, p1, p2, p3⟩ := p
    rw [p1] at h1; cases h1
    cases hg : gt e i with
    | un => rw [hg] at hr; cases hr
    | fz _ => rw [hg] at hr; cases hr
    | ow _ => rw [hg] at hr; cases hr
    | ob c fs =>
      rw [hg] at hr h2
      have q : Holds M F H ((some (.ref ad), .ob c fs) :: (rest ++ T)) := Holds.perm h (List.Perm.append_right T h2)
      obtain ⟨b, dx', fvs', y, k1, k2, k3, k4, k5⟩ := q.writeF hr
      rw [p2] at k1; cases k1
      rw [p3] at k2; cases k2
      refine ⟨b, rfl, k3, k4, fun o d' od' => ⟨?_, by simp only [plW, hg, List.length_set]; exact l⟩⟩
      simp only [plW, hg]
      refine (k5 o d' od').perm ?_
      exact (List.Perm.append_right T (h3 _)).symm
/-- a method that changes its own thing -/
def OpMt (M : Mx) (r : V → List V → Hp → VK → Prop) (g : D → List D → Option (D × D)) : Prop := ∀ (F H : Hp) (ad : Addr) (d : D) (args : List D) (vs : List V) (d' y : D) (Q : VK), Same F H → F ad = none → OwD M F H ad d → M.RepAll F args vs → g d args = some (d', y) →
  (∀ o v, OwD M F (upd H ad o) ad d' → M.Rep F y v → Q v (upd H ad o)) → r (.ref ad) vs H Q
def gAppend : D → List D → Option (D × D) := fun d as => match d, as with
  | .list ds, [y] => if Nat.blt ds.length line then some (.list (ds ++ [y]), .none) else none
  | _, _ => none
theorem o_append : OpMt M rAppend gAppend := by
  intro F H ad d args vs d' y Q s hF od ra hg k
  unfold gAppend at hg
  split at hg
  · rename_i ds y0
    split at hg
    · rename_i hb
      cases hg
      obtain ⟨us, h1, h2⟩ := od
      obtain ⟨v, rfl, rv⟩ := repAll1 ra
      refine ⟨ad, us, v, rfl, rfl, h1, ?_, k _ _ ?_ .non⟩
      · rw [← h2.length, ← line_eq]; exact Nat.le_of_ble_eq_true hb
      · exact ⟨us ++ [v], upd_same, h2.append (.cons rv .nil)⟩
    · cases hg
  · cases hg
def gPop : D → List D → Option (D × D) := fun d as => match d, as with
  | .list ds, [] => match ds[ds.length - 1]? with
    | some y => some (.list ds.dropLast, y)
    | none => none
  | _, _ => none
theorem o_pop : OpMt M rPop gPop := by
  intro F H ad d args vs d' y Q s hF od ra hg k
  unfold gPop at hg
  split at hg
  · rename_i ds
    split at hg
    · rename_i y0 hy
      cases hg
      obtain ⟨us, h1, h2⟩ := od
      cases ra
      obtain ⟨v, e1, e2⟩ := h2.get hy
      refine ⟨ad, us, v, rfl, rfl, h1, by rw [← h2.length]; exact e1, k _ _ ?_ e2⟩
      exact ⟨us.dropLast, upd_same, h2.dropLast⟩
    · cases hg
  · cases hg
def gExtend : D → List D → Option (D × D) := fun d as => match d, as with
  | .list ds, [.list es] => if Nat.ble (ds.length + es.length) line then some (.list (ds ++ es), .none) else none
  | _, _ => none
theorem o_extend : OpMt M rExtend gExtend := by
  intro F H ad d args vs d' y Q s hF od ra hg k
  unfold gExtend at hg
  split at hg
  · rename_i ds y0
    split at hg
    · rename_i hb
      cases hg
      obtain ⟨us, h1, h2⟩ := od
      obtain ⟨v, rfl, rv⟩ := repAll1 ra
      cases rv with
      | lst q1 q2 =>
        rename_i b ws
        refine ⟨ad, b, us, ws, rfl, rfl, h1, s _ _ q1, ?_, k _ _ ?_ .non⟩
        · rw [← h2.length, ← q2.length, ← line_eq]; exact Nat.le_of_ble_eq_true hb
        · exact ⟨us ++ ws, upd_same, h2.append q2⟩
    · cases hg
  · cases hg
def isList : D → Bool
  | .list _ => true
  | _ => false
/-- o.f(..) on a list in a place; the arguments frozen -/
def isL : Option D → Bool
  | some (.list _) => true
  | _ => false
def mtE (g : D → List D → Option (D × D)) (fo : En → Option R) (fas : En → Oa) : En → Oe := fun e => match fo e with
  | some (.pl i) => match isL (plR (.pl i) e) with
    | true => (fas e).bind fun rs e1 => match frzE rs e1 with
      | some (ds, e2) => match plR (.pl i) e2 with
        | some d => match g d ds with
          | some (d', y) => .ok (.val y) (plW (.pl i) d' e2)
          | none => .bad
        | none => .bad
      | none => .bad
    | false => .bad
  | _ => .bad
def mt0E (g : D → List D → Option (D × D)) (fo : En → Option R) : En → Oe := fun e => match fo e with
  | some r => match isL (plR r e) with
    | true => match plR r e with
      | some d => match g d [] with
        | some (d', y) => .ok (.val y) (plW r d' e)
        | none => .bad
      | none => .bad
    | false => .bad
  | none => .bad
def mtQE (g : D → List D → Option (D × D)) (fo : En → Option R) (fas : En → Option (List R)) : En → Oe := fun e => match fo e with
  | some r => match isL (plR r e) with
    | true => match fas e with
      | some rs => match frzE rs e with
        | some (ds, e2) => match plR r e2 with
          | some d => match g d ds with
            | some (d', y) => .ok (.val y) (plW r d' e2)
            | none => .bad
          | none => .bad
        | none => .bad
      | none => .bad
    | false => .bad
  | none => .bad
theorem place_ty {Fx : Hp} (h : HoldsR M Fx H σ e T r v) (hl : isL (plR r e) = true) : tyV M.K "list" v H := by
  cases hr : plR r e with
  | none => rw [hr] at hl; cases hl
  | some d =>
    rw [hr] at hl
    obtain ⟨ad, rfl, od, _⟩ := place_ok h hr
    cases d with
    | list ds =>
      obtain ⟨vs, h1, _⟩ := od
      exact .inl ⟨rfl, vs, SqL.of h1⟩
    | _ => cases hl
variable {cpos : Pos} {id : String} {name : Str} {rl : V → List V → Hp → VK → Prop} {g : D → List D → Option (D × D)}
theorem se_mt0 {fo : En → Option R} (fit : Fit M X) (hm : MtR X id rl) (hop : OpMt M rl g) (ho : SQ M X o fo) (slot : Slot "list" name id) (hty : typeOf (.builtin id) = pure (.type "method_descriptor") := by rfl)
    (hbase : attributeBase o name X.env (eval o X.env) = eval o X.env := by rfl) (hline : (apos.endLine == cpos.line) = true := by rfl) : SE M X W (.Call (.Attribute o name apos) [] [] cpos) (mt0E g fo) := by
  refine PE.weak (pe_bm0 F.plainAttrs_list slot hty hm ho hbase hline) fun σ H Q ⟨F, e, T, h, l, k⟩ => ?_
  unfold mt0E at k
  cases hfo : fo e with
  | none => rw [hfo] at k; exact k.elim
  | some r =>
    rw [hfo] at k; simp only at k
    refine ⟨F, e, T, r, h, l, hfo, fun F1 H1 v s1 s2 q => ?_⟩
    cases hl : isL (plR r e) with
    | false => rw [hl] at k; exact k.elim
    | true =>
      rw [hl] at k; simp only at k
      refine ⟨by rw [fit.K]; exact place_ty q hl, ?_⟩
      cases hr : plR r e with
      | none => rw [hr] at k; exact k.elim
      | some d =>
        rw [hr] at k; simp only at k
        cases hg : g d [] with
        | none => rw [hg] at k; exact k.elim
        | some p =>
          obtain ⟨d', y⟩ := p
          rw [hg] at k
          obtain ⟨ad, rfl, od, hF, wr⟩ := place_ok q hr
          refine hop F1 H1 ad d [] [] d' y Q q.self hF od .nil hg fun o w od' ry => ?_
          obtain ⟨h2, l2⟩ := wr o d' od'
          exact k F1 _ w ⟨h2.addFz ry, l2, trivial⟩
theorem se_mt {fo : En → Option R} {fas : En → Oa} (fit : Fit M X) (hm : MtR X id rl) (hop : OpMt M rl g) (ho : SQ M X o fo) (ha : AE M X W (a :: es) fas) (slot : Slot "list" name id) (hty : typeOf (.builtin id) = pure (.type "method_descriptor") := by rfl)
    (hbase : attributeBase o name X.env (eval o X.env) = eval o X.env := by rfl)
    (hfew : ((backTo cpos (starEach (a :: es) X.env)).all (fun x => !x.1) && (backToKw cpos (keywordEach [] X.env)).all (fun x => x.1.isSome)
      && decide ((a :: es).length + ([] : List Keyword).length + (if ([] : List Keyword).isEmpty then 0 else 1) < 30)) = true := by rfl)
    (hline : (apos.endLine == cpos.line) = true := by rfl) (hs : starEach (a :: es) X.env = (false, eval a X.env) :: starEach es X.env := by rfl) (hplain : (backTo cpos (starEach es X.env)).any (·.1) = false := by rfl) :
    SE M X W (.Call (.Attribute o name apos) (a :: es) [] cpos) (mtE g fo fas) := by
  refine PE.weak (pe_bm F.plainAttrs_list slot hty hm ho ha hbase hfew hline hs hplain) fun σ H Q ⟨F, e, T, h, l, k⟩ => ?_
  unfold mtE at k
  split at k
  · rename_i i hfo
    refine ⟨F, e, T, .pl i, h, l, hfo, fun F1 H1 v s1 s2 q => ?_⟩
    cases hl : isL (plR (.pl i) e) with
    | false => rw [hl] at k; exact k.elim
    | true =>
      rw [hl] at k; simp only at k
      refine ⟨by rw [fit.K]; exact place_ty q hl, F1, e, T, q.h, q.len, ?_⟩
      cases hfa : fas e with
      | bad => rw [hfa] at k; exact k
      | ex c d e' => rw [hfa] at k; exact k
      | ok rs e1 =>
        rw [hfa] at k; simp only [Oa.bind] at k
        intro F2 H2 vs q2
        cases hf : frzE rs e1 with
        | none => rw [hf] at k; exact k.elim
        | some p =>
          obtain ⟨ds, e2⟩ := p
          rw [hf] at k; simp only at k
          obtain ⟨F3, s3, ra, q3, l3⟩ := frzE_ok q2 hf
          have q4 : HoldsR M F3 H2 σ e2 T (.pl i) v := ⟨q3, l3, q.at_⟩
          cases hr : plR (.pl i) e2 with
          | none => rw [hr] at k; exact k.elim
          | some d =>
            rw [hr] at k; simp only at k
            cases hg : g d ds with
            | none => rw [hg] at k; exact k.elim
            | some p =>
              obtain ⟨d', y⟩ := p
              rw [hg] at k
              obtain ⟨ad, rfl, od, hF, wr⟩ := place_ok q4 hr
              refine hop F3 H2 ad d ds vs d' y Q q4.self hF od ra hg fun o w od' ry => ?_
              obtain ⟨h2, l2⟩ := wr o d' od'
              exact k F3 _ w ⟨h2.addFz ry, l2, trivial⟩
  · exact k.elim
theorem se_mtQ {fo : En → Option R} {fas : En → Option (List R)} (fit : Fit M X) (hm : MtR X id rl) (hop : OpMt M rl g) (ho : SQ M X o fo) (ha : AQ M X (a :: es) fas) (slot : Slot "list" name id) (hty : typeOf (.builtin id) = pure (.type "method_descriptor") := by rfl)
    (hbase : attributeBase o name X.env (eval o X.env) = eval o X.env := by rfl)
    (hfew : ((backTo cpos (starEach (a :: es) X.env)).all (fun x => !x.1) && (backToKw cpos (keywordEach [] X.env)).all (fun x => x.1.isSome)
      && decide ((a :: es).length + ([] : List Keyword).length + (if ([] : List Keyword).isEmpty then 0 else 1) < 30)) = true := by rfl)
    (hline : (apos.endLine == cpos.line) = true := by rfl) (hs : starEach (a :: es) X.env = (false, eval a X.env) :: starEach es X.env := by rfl) (hplain : (backTo cpos (starEach es X.env)).any (·.1) = false := by rfl) :
    SE M X W (.Call (.Attribute o name apos) (a :: es) [] cpos) (mtQE g fo fas) := by
  refine PE.weak (pe_bm F.plainAttrs_list slot hty hm ho ha hbase hfew hline hs hplain) fun σ H Q ⟨F, e, T, h, l, k⟩ => ?_
  unfold mtQE at k
  cases hfo : fo e with
  | none => rw [hfo] at k; exact k.elim
  | some r =>
    rw [hfo] at k; simp only at k
    refine ⟨F, e, T, r, h, l, hfo, fun F1 H1 v s1 s2 q => ?_⟩
    cases hl : isL (plR r e) with
    | false => rw [hl] at k; exact k.elim
    | true =>
      rw [hl] at k; simp only at k
      refine ⟨by rw [fit.K]; exact place_ty q hl, ?_⟩
      cases hfa : fas e with
      | none => rw [hfa] at k; exact k.elim
      | some rs =>
        rw [hfa] at k; simp only at k
        refine ⟨F1, e, T, rs, q.h.sl (List.sublist_append_right _ _), q.len, hfa, fun F2 H2 vs t1 t2 q2 => ?_⟩
        cases hf : frzE rs e with
        | none => rw [hf] at k; exact k.elim
        | some p =>
          obtain ⟨ds, e2⟩ := p
          rw [hf] at k; simp only at k
          cases hr : plR r e2 with
          | none => rw [hr] at k; exact k.elim
          | some d =>
            rw [hr] at k; simp only at k
            obtain ⟨F3, s3, ra, q3, l3⟩ := frzE_ok q2 hf
            have hpl : resT r v = [] := by
              revert hr
              cases r <;> intro hr <;> first | rfl | cases hr
            have q4 : HoldsR M F3 H2 σ e2 T r v := ⟨by rw [hpl]; exact q3, l3, q.at_.mono t2⟩
            cases hg : g d ds with
            | none => rw [hg] at k; exact k.elim
            | some p =>
              obtain ⟨d', y⟩ := p
              rw [hg] at k
              obtain ⟨ad, rfl, od, hF, wr⟩ := place_ok q4 hr
              refine hop F3 H2 ad d ds vs d' y Q q4.self hF od ra hg fun o w od' ry => ?_
              obtain ⟨h2, l2⟩ := wr o d' od'
              exact k F3 _ w ⟨h2.addFz ry, l2, trivial⟩
end
end Bv
set_option maxHeartbeats 2000000
namespace Bv
open PySem PySem.Spec L2

/-! ### o.f = value -/
def flOf : Sl → Option Fl
  | .fz d => some (.fz d)
  | .ow d => some (.ow d)
  | _ => none
def setFl : List Fl → Nat → Fl → List Fl
  | [], _, g => [g]
  | _ :: r, 0, g => g :: r
  | x :: r, i + 1, g => x :: setFl r i g
section
variable {M : Mx} {X : Cx} {W : WX} {pr : List Nat} {F F' H H' : Hp} {σ σ0 : L2.St} {e e' : En} {T rs : List Re} {r : R} {v : V} {pos apos : Pos} {a b o tg : Expr} {rest es : List Expr} {c k n : Nat}
theorem FRep.put {x : Str} {v : V} {g : Fl} {s : Sl} (hg : flOf s = some g) : ∀ {fs : List (Str × V)} {ns : List Str} {gs : List Fl} {L L1 : List Addr} {f : Nat}, FRep M F H fs ns gs L → Each M F H (some v, s) L1 → ns.Nodup → ns[f]? = some x → f ≤ gs.length →
    ∃ L' K, FRep M F H (putF x v fs) ns (setFl gs f g) L' ∧ (L1 ++ L).Perm (K ++ L')
  | [], ns, [], _, L1, f, .nil, hs, nd, hx, hf => by
    have hf0 : f = 0 := by simpa using hf
    subst hf0
    cases ns with
    | nil => simp at hx
    | cons y ns =>
      simp at hx; subst hx
      cases hs with
      | un => cases hg
      | fz r => cases hg; exact ⟨[], [], .fz r .nil, by simp⟩
      | ow r => cases hg; exact ⟨_, [], .ow r .nil, by simp⟩
      | ob _ _ => cases hg
  | _, _, _, _, L1, 0, .fz (x := y) r t, hs, nd, hx, hf => by
    simp at hx; subst hx
    simp only [putF, setFl, if_true]
    cases hs with
    | un => cases hg
    | fz r' => cases hg; exact ⟨_, [], .fz r' t, by simp⟩
    | ow r' => cases hg; exact ⟨_, [], .ow r' t, by simp⟩
    | ob _ _ => cases hg
  | _, _, _, _, L1, 0, .ow (x := y) (b := b) (L := L) r t, hs, nd, hx, hf => by
    simp at hx; subst hx
    simp only [putF, setFl, if_true]
    cases hs with
    | un => cases hg
    | fz r' => cases hg; exact ⟨_, [b], .fz r' t, by simp⟩
    | ow r' =>
      cases hg
      rename_i b'
      exact ⟨_, [b], .ow r' t, List.Perm.swap _ _ _⟩
    | ob _ _ => cases hg
  | _, _, _, _, L1, f + 1, .fz (x := y) (ns := ns) r t, hs, nd, hx, hf => by
    have hx' : ns[f]? = some x := by simpa using hx
    have hne : y ≠ x := fun z => (List.nodup_cons.mp nd).1 (z ▸ List.mem_of_getElem? hx')
    obtain ⟨L', K, h1, h2⟩ := FRep.put hg t hs (List.nodup_cons.mp nd).2 hx' (by simpa using hf)
    simp only [putF, setFl, if_neg hne]
    exact ⟨L', K, .fz r h1, h2⟩
  | _, _, _, _, L1, f + 1, .ow (x := y) (b := b) (ns := ns) r t, hs, nd, hx, hf => by
    have hx' : ns[f]? = some x := by simpa using hx
    have hne : y ≠ x := fun z => (List.nodup_cons.mp nd).1 (z ▸ List.mem_of_getElem? hx')
    obtain ⟨L', K, h1, h2⟩ := FRep.put hg t hs (List.nodup_cons.mp nd).2 hx' (by simpa using hf)
    simp only [putF, setFl, if_neg hne]
    refine ⟨b :: L', K, .ow r h1, ?_⟩
    exact (List.perm_middle).trans ((List.Perm.cons b h2).trans (List.perm_middle).symm)
theorem Holds.putFld {ad : Addr} {fs : List Fl} {f : Nat} {g : Fl} {s : Sl} {x : Str} {v : V} (h : Holds M F H ((some (.ref ad), .ob c fs) :: (some v, s) :: rs)) (hg : flOf s = some g) (hn : (M.fn c).Nodup) (hx : (M.fn c)[f]? = some x) (hf : f ≤ fs.length) :
    ∃ dx fvs, H ad = some (.ins (M.cl c) dx fvs) ∧ fvs.length ≤ (M.fn c).length ∧ Holds M F (upd H ad (.ins (M.cl c) dx (putF x v fvs))) ((some (.ref ad), .ob c (setFl fs f g)) :: rs) := by
  obtain ⟨sub, L, q1, nd, fr⟩ := h
  cases q1 with
  | cons q1 q2 =>
    cases q2 with
    | cons q2 q3 =>
      rename_i L0 L1 L3 
      cases q1 with
      | ob h1 h2 =>
        rename_i dx fvs L0
        have lenF : ∀ {fs : List (Str × V)} {ns : List Str} {gs : List Fl} {L : List Addr}, FRep M F H fs ns gs L → fs.length ≤ ns.length := by
          intro fs ns gs L h
          induction h with
          | nil => simp
          | fz _ _ ih => simpa using ih
          | ow _ _ ih => simpa using ih
        obtain ⟨L', K, p1, p2⟩ := FRep.put hg h2 q2 hn hx hf
        have pp : (ad :: L0 ++ (L1 ++ L3)).Perm (K ++ ((ad :: L') ++ L3)) := by
          have e1 : (ad :: L0 ++ (L1 ++ L3)).Perm (ad :: ((L1 ++ L0) ++ L3)) := by
            refine List.Perm.cons ad ?_
            show (L0 ++ (L1 ++ L3)).Perm _
            rw [← List.append_assoc]
            exact List.Perm.append_right _ List.perm_append_comm
          refine e1.trans ?_
          refine (List.Perm.cons ad (List.Perm.append_right L3 p2)).trans ?_
          rw [List.append_assoc]
          exact List.perm_middle.symm
        have nd2 := pp.nodup_iff.mp nd
        have nd3 := (List.nodup_append.mp nd2).2.1
        have nd4 : ad ∉ L' ++ L3 := (List.nodup_cons.mp nd3).1
        have hF : F ad = none := fr ad (by simp)
        refine ⟨dx, fvs, h1, lenF h2, fun (y : Addr) (u : HO) (z : F y = some u) => ?_, (ad :: L') ++ L3, .cons (Each.ob (dx := dx) (fvs := putF x v fvs) upd_same ?_) (q3.at (Same.refl F) fun y hy => upd_ne fun z => nd4 (z ▸ List.mem_append_right _ hy)), nd3, fun y hy => fr y (pp.mem_iff.mpr (List.mem_append_right _ hy))⟩
        · rw [upd_ne (a := ad) fun q => by rw [q, hF] at z; cases z]
          exact sub y u z
        · exact p1.at (Same.refl F) fun y hy => upd_ne fun z => nd4 (z ▸ List.mem_append_left _ hy)
def fldE (c f : Nat) (fv : En → Oe) (fo : En → Option R) : En → So := fun e => (fv e).bindS fun rv e1 => match mv rv e1 with
  | some (s, e2) => match flOf s with
    | some g => match fo e2 with
      | some (.pl i) => match gt e2 i with
        | .ob c' fs => match Nat.beq c c' && Nat.ble f fs.length with
          | true => .nx (e2.set i (.ob c (setFl fs f g)))
          | false => .bad
        | _ => .bad
      | _ => .bad
    | none => .bad
  | none => .bad
theorem ss_fld (c f : Nat) {x : Str} {p : Pos} {fv : En → Oe} {fo : En → Option R} (fit : Fit M X) (cl : ClIn M M.K c) (hx : (M.fn c)[f]? = some x) (hv : SE M X W a fv) (ho : SQ M X o fo) (hs : swapsWith a (some (.Attribute o x p)) pos.line X.env = pure false := by rfl) :
    SS M X W pr (.Assign [.Attribute o x p] a pos) (fldE c f fv fo) := by
  refine PS.weak (L2.ps_fld ho hv hs) fun Dd σ H ⟨F, e, T, σ0, h, l, kp, k⟩ => ⟨F, e, T, h, l, ?_⟩
  refine PostE.to kp k fun rv e1 F1 H1 v _ q k => ?_
  cases hm : mv rv e1 with
  | none => rw [hm] at k; exact k.elim
  | some p =>
    obtain ⟨s, e2⟩ := p
    rw [hm] at k; simp only at k
    cases hg : flOf s with
    | none => rw [hg] at k; exact k.elim
    | some g =>
      rw [hg] at k; simp only at k
      split at k
      · rename_i i hfo
        split at k
        · rename_i c' fs hgt
          split at k
          · rename_i hb
            rw [Bool.and_eq_true] at hb
            have ec : c = c' := Nat.eq_of_beq_eq_true hb.1
            subst ec
            obtain ⟨F', s1, hh, l'⟩ := mv_ok q hm
            refine ⟨F', e2, (some v, s) :: T, .pl i, hh.perm List.perm_middle.symm, l', hfo, fun F2 H2 ov t1 t2 q2 => ?_⟩
            obtain ⟨q3, q4, q5⟩ := q2
            have lt : i < e2.length := gt_lt (fun z => by rw [z] at hgt; cases hgt)
            obtain ⟨u, rest, h1, h2, h3⟩ := focus1 l' lt
            have p' : σ[i]? = some (some ov) := q5
            rw [p'] at h1; cases h1
            rw [hgt] at h2
            have q6 : Holds M F2 H2 ((some ov, .ob c fs) :: (rest ++ ((some v, s) :: T))) := Holds.perm q3 (List.Perm.append_right _ h2)
            have q7 : Holds M F2 H2 ((some ov, .ob c fs) :: (some v, s) :: (rest ++ T)) := q6.perm (List.Perm.cons _ List.perm_middle)
            obtain ⟨L, eo, _⟩ := q7.head
            cases eo with
            | ob k1 k2 =>
              obtain ⟨dx, fvs, r1, r2, r3⟩ := q7.putFld hg cl.nd hx (Nat.le_of_ble_eq_true hb.2)
              refine ⟨_, M.cl c, dx, fvs, rfl, r1, ?_, ?_, ?_, ?_⟩
              · rw [fit.K]; exact cl.cls
              · rw [fit.K]; exact cl.att x (List.mem_of_getElem? hx)
              · exact Nat.lt_of_le_of_lt r2 cl.few
              · refine k F2 _ σ (r3.perm ?_) (by rw [List.length_set]; exact l') kp
                exact (List.Perm.append_right T (h3 _)).symm
          · exact k.elim
        · exact k.elim
      · exact k.elim

/-! ### dicts with keys of tuples -/
def vAtN : List (D × D) → NestedKey → Option D
  | [], _ => none
  | (kd, d) :: r, k => if toKey kd = some k then some d else vAtN r k
def stN (kvs : List (D × D)) (k : NestedKey) (kd d : D) : List (D × D) :=
  if (vAtN kvs k).isSome then kvs.map (fun p => if toKey p.1 = some k then (p.1, d) else p) else kvs ++ [(kd, d)]
def mark : D × D := (.bool true, .none)
def keyN (d : D) : Option NestedKey := match d with
  | .tuple _ => match toKey d with
    | some k => if k.depth ≤ 8 then some k else none
    | none => none
  | _ => none
theorem keyN_ok {d : D} {k : NestedKey} (h : keyN d = some k) : toKey d = some k ∧ k.depth ≤ 8 ∧ ∃ ds, d = .tuple ds := by
  cases d with
  | tuple ds =>
    simp only [keyN] at h
    cases ht : toKey (.tuple ds) with
    | none => rw [ht] at h; cases h
    | some k' =>
      rw [ht] at h; simp only at h
      split at h
      · cases h; exact ⟨rfl, by assumption, ds, rfl⟩
      · cases h
  | _ => cases h
section
variable {pins : List (Addr × Obj)} {s : Shared}
mutual
theorem nestedIs_of (fk : X.K = M.K) (I : Inv X pins σ H s) (sub : Same F H) : ∀ {d : D} {v : V} {k : NestedKey} {u : Value}, M.Rep F d v → toKey d = some k → RelV v u → NestedIs s.heap k u
  | .none, _, _, _, .non, h, r => by cases h; cases r; exact .none
  | .bool b, _, _, _, .bl _, h, r => by cases h; cases r; exact .bool rfl
  | .int i, _, _, _, .int _, h, r => by cases h; obtain ⟨t, rfl⟩ := r; exact .int i t
  | .str x, _, _, _, .str _, h, r => by cases h; obtain ⟨t, rfl⟩ := r; exact .text x t
  | .tuple ds, _, k, _, .tup q1 q2, h, r => by
    simp only [toKey] at h
    obtain ⟨ks, hk, rfl⟩ := Option.map_eq_some_iff.mp h
    cases r
    obtain ⟨its, rv, ⟨o, ho, hc, n, hd⟩, hz⟩ := I.tuple (xs := _) (a := _) (by rw [fk]; exact SqT.mono sub q1)
    exact .tup ho hc hd (by simpa using nestedAll_of fk I sub q2 hk rv)
  | .list _, _, _, _, _, h, _ => by cases h
  | .dict _, _, _, _, _, h, _ => by cases h
theorem nestedAll_of (fk : X.K = M.K) (I : Inv X pins σ H s) (sub : Same F H) : ∀ {ds : List D} {vs : List V} {ks : List NestedKey} {us : List Value}, M.RepAll F ds vs → toKeys ds = some ks → Vals vs us → NestedAll s.heap ks us
  | [], _, _, _, .nil, h, r => by cases h; cases r; exact .nil
  | d :: ds, _, ks, _, .cons r1 r2, h, .cons q1 q2 => by
    simp only [toKeys] at h
    split at h
    · rename_i k ks' h1 h2
      cases h
      exact .cons (nestedIs_of fk I sub r1 h1 q1) (nestedAll_of fk I sub r2 h2 q2)
    · cases h
end
end
theorem vAtN_ok : ∀ {xs : List (NestedKey × Addr × Value)} {kvs : List (D × D)} {k : NestedKey}, DNs M.w M.K F xs kvs → (atKey xs k).isSome = (vAtN kvs k).isSome ∧ ∀ d, vAtN kvs k = some d → ∃ p v, atKey xs k = some p ∧ M.Rep F d v ∧ RelV v p.2
  | _, _, _, .nil => ⟨rfl, fun d h => by cases h⟩
  | _, _, k, .cons (k := k0) (q := q) (u := u) (v := v) (d := d0) h1 h2 h3 h4 h5 t => by
    by_cases hk : k0 = k
    · subst hk
      simp only [vAtN, h1, if_true]
      refine ⟨by simp [atKey], fun d h => ?_⟩
      cases h
      exact ⟨(q, u), v, by simp [atKey], h4, h5⟩
    · have hne : ¬ (some k0 = some k) := fun z => hk (Option.some.inj z)
      simp only [vAtN, h1, if_neg hne]
      obtain ⟨i1, i2⟩ := vAtN_ok (k := k) t
      refine ⟨by simpa [atKey, hk] using i1, fun d h => ?_⟩
      obtain ⟨p, v', e1, e2, e3⟩ := i2 d h
      exact ⟨p, v', by simpa [atKey, hk] using e1, e2, e3⟩
theorem DNs.map {k : NestedKey} {d : D} {v : V} {u : Value} (rv : M.Rep F d v) (r : RelV v u) : ∀ {xs : List (NestedKey × Addr × Value)} {kvs : List (D × D)}, DNs M.w M.K F xs kvs → DNs M.w M.K F (xs.map (putAt k u)) (kvs.map (fun p => if toKey p.1 = some k then (p.1, d) else p))
  | _, _, .nil => .nil
  | _, _, .cons (k := k0) (q := q) (kd := kd) h1 h2 h3 h4 h5 t => by
    by_cases hk : k0 = k
    · subst hk
      simp only [List.map_cons, putAt, h1, if_true]
      exact .cons h1 h2 h3 rv r (DNs.map rv r t)
    · have hne : ¬ (some k0 = some k) := fun z => hk (Option.some.inj z)
      simp only [List.map_cons, putAt, h1, if_neg hk, if_neg hne]
      exact .cons h1 h2 h3 h4 h5 (DNs.map rv r t)
theorem DNs.snoc {k : NestedKey} {kd d : D} {q : Addr} {v : V} {u : Value} (h1 : toKey kd = some k) (h2 : k.depth ≤ 8) (h3 : M.Rep F kd (.ref q)) (rv : M.Rep F d v) (r : RelV v u) : ∀ {xs : List (NestedKey × Addr × Value)} {kvs : List (D × D)}, DNs M.w M.K F xs kvs → DNs M.w M.K F (xs ++ [(k, q, u)]) (kvs ++ [(kd, d)])
  | _, _, .nil => .cons h1 h2 h3 rv r .nil
  | _, _, .cons a1 a2 a3 a4 a5 t => .cons a1 a2 a3 a4 a5 (DNs.snoc h1 h2 h3 rv r t)
theorem DNs.stored {k : NestedKey} {kd d : D} {q : Addr} {v : V} {u : Value} (h1 : toKey kd = some k) (h2 : k.depth ≤ 8) (h3 : M.Rep F kd (.ref q)) (rv : M.Rep F d v) (r : RelV v u) {xs : List (NestedKey × Addr × Value)} {kvs : List (D × D)} (t : DNs M.w M.K F xs kvs) :
    DNs M.w M.K F (storedH xs k q u) (stN kvs k kd d) := by
  unfold storedH stN
  rw [(vAtN_ok t).1]
  split
  · exact DNs.map rv r t
  · exact DNs.snoc h1 h2 h3 rv r t
theorem DNs.len : ∀ {xs : List (NestedKey × Addr × Value)} {kvs : List (D × D)}, DNs M.w M.K F xs kvs → xs.length = kvs.length
  | _, _, .nil => rfl
  | _, _, .cons _ _ _ _ _ t => by simp [DNs.len t]
/-- the dict at ad, as the kit tells it -/
theorem dictOf {pins : List (Addr × Obj)} {s : Shared} {ad : Addr} {o : HO} {kvs : List (D × D)} (fit : Fit M X) (I : Inv X pins σ H s) (sub : Same F H) (ho : H ad = some o) (hr : M.DRep F ad o (mark :: kvs)) :
    ∃ xs, s.heap.DictOfH (nestedKind X.prog X.w) ad xs ∧ DNs M.w M.K F xs kvs ∧ (ad == sysModules) = false ∧ xs.length ≤ sizeLine := by
  generalize e : mark :: kvs = l at hr
  cases hr with
  | dk y =>
    cases y with
    | nil => cases e
    | @cons k v d m kvs y1 y2 => cases k <;> cases e
  | nk h1 h2 h3 h4 h5 h6 h7 =>
    rename_i ob es ep xs kvs'
    cases e
    obtain ⟨hob, _⟩ := I.hok ad _ ho
    have his : ∀ {xs : List (NestedKey × Addr × Value)} {kvs : List (D × D)}, DNs M.w M.K F xs kvs → ∀ x ∈ xs, (nestedKind X.prog X.w).is s.heap x.1 x.2.1 := by
      intro xs kvs h
      induction xs generalizing kvs with
      | nil => intro x hx; cases hx
      | cons y ys ih =>
        cases h with
        | cons a1 a2 a3 a4 a5 t =>
          intro x hx
          rcases List.mem_cons.mp hx with rfl | hx
          · exact ⟨nestedIs_of fit.K I sub a3 a1 rfl, a2⟩
          · exact ih t x hx
    refine ⟨xs, ⟨ob, es, ep, hob, h1, h2, ?_, his h7, h4⟩, h7, h5, h6⟩
    rw [h3]
    refine List.map_congr_left fun x _ => ?_
    show _ = (⟨x.1.hash X.w, _, _⟩ : DictEntry)
    rw [fit.w]
    rfl
/-- k in d, k not in d -/
def rInN (M : Mx) (neg : Bool) : R2 := fun x y H Q => ∃ F d k ad o kvs, Same F H ∧ M.Rep F d x ∧ keyN d = some k ∧ y = .ref ad ∧ H ad = some o ∧ M.DRep F ad o (mark :: kvs) ∧ Q (.bl (neg != (vAtN kvs k).isSome)) H
theorem isRef {d : D} {k : NestedKey} {x : V} (hk : keyN d = some k) (r : M.Rep F d x) : ∃ q, x = .ref q := by
  obtain ⟨_, _, ds, rfl⟩ := keyN_ok hk
  cases r with
  | tup _ _ => exact ⟨_, rfl⟩
theorem roomN (fit : Fit M X) : (nestedKind X.prog X.w).room X.A.in1 := by
  show X.A.in1.units + 8 < cLine
  rw [Around.in1_units]
  have := fit.hu
  omega
theorem op_inN (fit : Fit M X) : OpR X (compareOp .In) (rInN M false) := by
  intro pins s σ H x y v u Q I rx ry ⟨F, d, k, ad, o, kvs, sub, rd, hk, e, ho, hr, q⟩
  subst e
  obtain ⟨q0, rfl⟩ := isRef hk rd
  cases rx; cases ry
  obtain ⟨h1, h2, _⟩ := keyN_ok hk
  obtain ⟨xs, hm, hn, lo, hz⟩ := dictOf fit I sub ho hr
  refine in_keyed (knd := nestedKind X.prog X.w) (roomN fit) ⟨nestedIs_of fit.K I sub rd h1 rfl, h2⟩ lo ⟨xs, hm, rfl⟩ ?_
  rw [valueAt_pairsH, Option.isSome_map, (vAtN_ok hn).1]
  refine ⟨.bl _, H, I.tok _, rfl, ?_⟩
  simpa using q
theorem op_notInN (fit : Fit M X) : OpR X (compareOp .NotIn) (rInN M true) := by
  intro pins s σ H x y v u Q I rx ry ⟨F, d, k, ad, o, kvs, sub, rd, hk, e, ho, hr, q⟩
  subst e
  obtain ⟨q0, rfl⟩ := isRef hk rd
  cases rx; cases ry
  obtain ⟨h1, h2, _⟩ := keyN_ok hk
  obtain ⟨xs, hm, hn, lo, hz⟩ := dictOf fit I sub ho hr
  refine notIn_keyed (knd := nestedKind X.prog X.w) (roomN fit) ⟨nestedIs_of fit.K I sub rd h1 rfl, h2⟩ lo ⟨xs, hm, rfl⟩ ?_
  rw [valueAt_pairsH, Option.isSome_map, (vAtN_ok hn).1]
  refine ⟨.bl _, H, I.tok _, rfl, ?_⟩
  simpa using q
def unmark : D → Option (List (D × D))
  | .dict ((.bool true, .none) :: kvs) => some kvs
  | _ => none
theorem unmark_ok {d : D} {kvs : List (D × D)} (h : unmark d = some kvs) : d = .dict (mark :: kvs) := by
  unfold unmark at h
  split at h
  · cases h; rfl
  · cases h
def gInN (neg : Bool) : D → D → Option R := fun a b => match keyN a, unmark b with
  | some k, some kvs => some (.val (.bool (neg != (vAtN kvs k).isSome)))
  | _, _ => none
theorem Vw.dN {kvs : List (D × D)} {d : D} {v : V} (sub : Same F H) (h : Vw M F H d v) (hu : unmark d = some kvs) : ∃ ad o, v = .ref ad ∧ H ad = some o ∧ M.DRep F ad o (mark :: kvs) := by
  have := unmark_ok hu
  subst this
  rcases h with h | ⟨a, rfl, o, h1, h2⟩
  · generalize e : (PyData.dict (mark :: kvs) : D) = l at h
    cases h with
    | dct h1 h2 => cases e; exact ⟨_, _, rfl, sub _ _ h1, h2⟩
    | rol _ _ => cases e
    | _ => cases e
  · exact ⟨a, o, rfl, h1, h2⟩
theorem Vw.keyN {d : D} {v : V} {k : NestedKey} (h : Vw M F H d v) (hk : Bv.keyN d = some k) : M.Rep F d v := by
  obtain ⟨_, _, ds, rfl⟩ := keyN_ok hk
  exact h.tupR
theorem o_inN (neg : Bool) : Op2 M (rInN M neg) (gInN neg) := by
  intro F H rs x y a b res Q h ha hb e k
  unfold gInN at e
  split at e
  · rename_i kk kvs h1 h2
    cases e
    obtain ⟨ad, o, rfl, ho, hr⟩ := hb.dN h.sub h2
    exact ⟨F, a, kk, ad, o, kvs, h.sub, ha.keyN h1, h1, rfl, ho, hr, fin_val h (.bl _) k⟩
  · cases e
/-- d[k] -/
def rIxN (M : Mx) : R2 := fun x y H Q => ∃ F d k ad o kvs z, Same F H ∧ M.Rep F d y ∧ keyN d = some k ∧ x = .ref ad ∧ H ad = some o ∧ M.DRep F ad o (mark :: kvs) ∧ vAtN kvs k = some z ∧ ∀ v, M.Rep F z v → Q v H
theorem ix_N (fit : Fit M X) : IxR X (rIxN M) := by
  intro value slice pins s σ H x y v u Q I rx ry ⟨F, d, k, ad, o, kvs, z, sub, rd, hk, e, ho, hr, hz, q⟩ hsub
  subst e
  obtain ⟨q0, rfl⟩ := isRef hk rd
  cases rx; cases ry
  obtain ⟨h1, h2, _⟩ := keyN_ok hk
  obtain ⟨xs, hm, hn, lo, hsz⟩ := dictOf fit I sub ho hr
  obtain ⟨p, w, e1, e2, e3⟩ := (vAtN_ok hn).2 z hz
  refine PyProof.Rows.subscriptTail_builtinR (x := p.2) hm.typeIs PySem.F.slot_dict_getitem.lookup ?_ hsub
  refine getItem_keyed (knd := nestedKind X.prog X.w) (roomN fit) ⟨nestedIs_of fit.K I sub rd h1 rfl, h2⟩ ⟨xs, hm, rfl⟩ (v := p.2) (by rw [valueAt_pairsH, e1]; rfl) ?_
  exact ⟨rfl, w, H, I.tok _, e3, q w e2⟩
def gIxN : D → D → Option R := fun a b => match keyN b, unmark a with
  | some k, some kvs => match vAtN kvs k with
    | some z => match z with
      | .list _ => none
      | .dict _ => none
      | z => some (.val z)
    | none => none
  | _, _ => none
theorem o_ixN : Op2 M (rIxN M) gIxN := by
  intro F H rs x y a b res Q h ha hb e k
  unfold gIxN at e
  split at e
  · rename_i kk kvs h1 h2
    split at e
    · rename_i z hz
      obtain ⟨ad, o, rfl, ho, hr⟩ := ha.dN h.sub h2
      refine ⟨F, b, kk, ad, o, kvs, z, h.sub, hb.keyN h1, h1, rfl, ho, hr, hz, fun v rv => ?_⟩
      split at e
      · cases e
      · cases e
      · cases e; exact fin_val h rv k
    · cases e
  · cases e

/-! ### x[i] = v -/
def OpSet (M : Mx) (t : TSet) (g : D → D → D → Option D) : Prop := ∀ (F H : Hp) (ad : Addr) (d di dv d' : D) (i v : V) (Q : Hp → Prop), Same F H → F ad = none → OwD M F H ad d → Vw M F H di i → M.Rep F dv v → g d di dv = some d' →
  (∀ o, OwD M F (upd H ad o) ad d' → Q (upd H ad o)) → t (.ref ad) i v H Q
def ixD (n : Nat) (i : Int) : Option Nat := if 0 ≤ i then (if i < (n : Int) then some i.toNat else none) else (if -(n : Int) ≤ i then some (i + (n : Int)).toNat else none)
def rSetN (M : Mx) : TSet := fun o i v H Q => ∃ F d k ad u dv kvs, Same F H ∧ F ad = none ∧ M.Rep F d i ∧ keyN d = some k ∧ o = .ref ad ∧ H ad = some u ∧ M.DRep F ad u (mark :: kvs) ∧ M.Rep F dv v ∧ kvs.length < sizeLine ∧ ∀ u', M.DRep F ad u' (mark :: stN kvs k d dv) → Q (upd H ad u')
theorem stN_len {kvs : List (D × D)} {k : NestedKey} {kd d : D} : (stN kvs k kd d).length ≤ kvs.length + 1 := by
  unfold stN
  split
  · simp
  · simp
theorem set_N (fit : Fit M X) : PSet X (rSetN M) := by
  intro pins s σ H o i v ov iv u Q I ro ri rv ⟨F, d, k, ad, u0, dv, kvs, sub, hF, rd, hk, e, ho, hr, rdv, hlen, q⟩
  subst e
  obtain ⟨q0, rfl⟩ := isRef hk rd
  cases ro; cases ri
  obtain ⟨h1, h2, _⟩ := keyN_ok hk
  obtain ⟨xs, hm, hn, lo, hz⟩ := dictOf fit I sub ho hr
  have hmut : Mut (H ad) := by
    rw [ho]
    generalize e : mark :: kvs = l at hr
    cases hr with
    | dk y =>
      cases y with
      | nil => cases e
      | @cons k v d m kvs y1 y2 => cases k <;> cases e
    | nk _ _ _ _ _ _ _ => trivial
  refine wpAny_setItem_heap (hsz := hz) (knd := nestedKind X.prog X.w) (roomN fit) ⟨nestedIs_of fit.K I sub rd h1 rfl, h2⟩ hm fun h' hm' hs => ?_
  have hn' := hn.stored h1 h2 rd rdv rv
  obtain ⟨ob, es, ep, k1, k2, k3, k4, k5, k6⟩ := hm'
  have k4' : es.toList = (storedH xs k q0 u).map (entN M.w) := by
    rw [k4]
    refine List.map_congr_left fun x _ => ?_
    show (⟨x.1.hash X.w, _, _⟩ : DictEntry) = _
    rw [fit.w]
    rfl
  have hl := hn'.len
  have hl2 := stN_len (kvs := kvs) (k := k) (kd := d) (d := dv)
  refine ⟨upd H ad (.ext fun h => h.get? ad = some ob), I.write (t' := _) hmut (.inl rfl) (fun b u hb e => (hs.2 b hb).trans e) ⟨_, k1⟩ ⟨k1, ⟨_, k1⟩, fun a b c d => d _ c⟩, q _ (.nk k2 k3 k4' k6 lo (by omega) hn')⟩
def gSetN : D → D → D → Option D := fun d di dv => match keyN di, unmark d with
  | some k, some kvs => if Nat.blt kvs.length line then some (.dict (mark :: stN kvs k di dv)) else none
  | _, _ => none
theorem os_N : OpSet M (rSetN M) gSetN := by
  intro F H ad d di dv d' i v Q sub hF od vi rv hg k
  unfold gSetN at hg
  split at hg
  · rename_i kk kvs h1 h2
    split at hg
    · rename_i hb
      cases hg
      have := unmark_ok h2
      subst this
      obtain ⟨o, e1, e2⟩ := od
      refine ⟨F, di, kk, ad, o, dv, kvs, sub, hF, vi.keyN h1, h1, rfl, e1, e2, rv, ?_, fun u' hu => k u' ⟨u', upd_same, hu⟩⟩
      rw [← line_eq]; exact Nat.le_of_ble_eq_true hb
    · cases hg
  · cases hg
def subE (g : D → D → D → Option D) (fv : En → Oe) (fo fi : En → Option R) : En → So := fun e => (fv e).bindS fun rv e1 => match frz1 rv e1 with
  | some (dv, e2) => match fo e2 with
    | some r => match fi e2 with
      | some ri => match rdI ri e2, rd ri e2 with
        | some _, some di => match plR r e2 with
          | some d => match g d di dv with
            | some d' => .nx (plW r d' e2)
            | none => .bad
          | none => .bad
        | _, _ => .bad
      | none => .bad
    | none => .bad
  | none => .bad
theorem ss_sub {g : D → D → D → Option D} {t : TSet} {fv : En → Oe} {fo fi : En → Option R} (hs : PSet X t) (hop : OpSet M t g) (hv : SE M X W a fv) (ho : SQ M X o fo) (hi : SQ M X b fi)
    (ha : ∀ v, assign (.Subscript o b apos) X.env v = (do
      let ov ← holding [v] (eval o X.env)
      let iv ← holding [v, ov] (eval b X.env)
      standAt apos
      holding [v, ov, iv] (setItem ov iv v)
      release [v, ov, iv] []) := by intro _; rfl) (hsw : swapsWithSole [.Subscript o b apos] a pos.line X.env = pure false := by rfl) (hw : swappedStores [.Subscript o b apos] a X.env = pure none := by rfl)
    (h1 : (assignEach [.Subscript o b apos] X.env).map (·.2) = [assign (.Subscript o b apos) X.env] := by rfl) : SS M X W pr (.Assign [.Subscript o b apos] a pos) (subE g fv fo fi) := by
  refine PS.weak (ps_asg hv (pg_sub ho hi hs ha) hsw hw h1) fun Dd σ H ⟨F, e, T, σ0, h, l, kp, k⟩ => ⟨F, e, T, h, l, ?_⟩
  refine PostE.to kp k fun rv e1 F1 H1 v _ q k => ?_
  cases hm : frz1 rv e1 with
  | none => rw [hm] at k; exact k.elim
  | some p =>
    obtain ⟨dv, e2⟩ := p
    rw [hm] at k; simp only at k
    obtain ⟨F', s1, rp, hh, l'⟩ := frz1_ok q.h q.len q.at_ hm
    cases hfo : fo e2 with
    | none => rw [hfo] at k; exact k.elim
    | some r =>
      rw [hfo] at k; simp only at k
      cases hfi : fi e2 with
      | none => rw [hfi] at k; exact k.elim
      | some ri =>
        rw [hfi] at k; simp only at k
        split at k
        · rename_i dx di e3 e4
          refine ⟨F', e2, T, r, hh, l', hfo, fun F2 H2 ov t1 t2 q2 => ?_⟩
          refine ⟨F2, e2, T, ri, q2.h.sl (List.sublist_append_right _ _), l', hfi, fun F3 H3 iv t3 t4 q3 => ?_⟩
          cases hr : plR r e2 with
          | none => rw [hr] at k; exact k.elim
          | some d =>
            rw [hr] at k; simp only at k
            have hpl : resT r ov = [] := by
              revert hr
              cases r <;> intro hr <;> first | rfl | cases hr
            have q4 : HoldsR M F3 H3 σ e2 T r ov := ⟨by rw [hpl]; exact q3.h.sl (List.sublist_append_right _ _), l', q2.at_.mono t4⟩
            cases hg : g d di dv with
            | none => rw [hg] at k; exact k.elim
            | some d' =>
              rw [hg] at k
              obtain ⟨ad, rfl, od, hF, wr⟩ := place_ok q4 hr
              refine hop F3 H3 ad d di dv d' iv v _ q4.self hF od (q3.vw e4) (Rep.mono (t1.trans t3) rp) hg fun o od' => ?_
              obtain ⟨h2, l2⟩ := wr o d' od'
              exact k F3 _ σ h2 l2 kp
        · exact k.elim
/-- {} for keys of tuples -/
theorem se_dnewN : SE M X W (.Dict [] [] pos) (fun e => .ok (.fr (.dict [mark])) e) := by
  refine ⟨fun pins s σ H Q I ⟨F, e, T, h, l, k⟩ => ?_⟩
  have hn := I.hok.fresh (Nat.le_refl s.heap.objs.size)
  refine wpAny_Dict_empty ⟨.ref s.heap.objs.size, upd H s.heap.objs.size (.ext fun h => h.get? s.heap.objs.size = some { cls := .type "dict", data := .dict #[] }), I.laid (t' := s.toks) (fun _ _ q => Heap.get?_push_of_some _ q) (Nat.le_refl _) ?_, rfl, ?_⟩
  · exact ⟨Heap.get?_push_size _ rfl, ⟨_, Heap.get?_push_size _ rfl⟩, fun a b c d => d _ c⟩
  · refine k F _ _ ⟨h.newOw hn ?_, l, trivial⟩
    refine ⟨_, upd_same, .nk (xs := []) ⟨rfl, rfl, rfl⟩ rfl rfl List.nodup_nil ?_ (Nat.zero_le _) .nil⟩
    have hb : sysModules < s.heap.objs.size := I.big
    exact beq_eq_false_iff_ne.mpr (fun z => by rw [z] at hb; exact Nat.lt_irrefl _ hb)
end
end Bv
set_option maxHeartbeats 2000000
namespace Bv
open PySem PySem.Spec L2

/-! ### match over tuples -/
inductive Om where
  | hit (bs : List (Nat × D)) | miss | bad
section
variable {M : Mx} {X : Cx} {W : WX} {pr : List Nat} {F F' H H' : Hp} {σ σ0 : L2.St} {e e' : En} {T rs : List Re} {r : R} {v : V} {pos apos : Pos} {a b o tg : Expr} {rest es : List Expr} {c k n : Nat}
inductive PBs (M : Mx) (X : Cx) (F : Hp) : List Nat → List (Str × Value) → List (Nat × D) → Prop
  | nil {ts} : PBs M X F ts [] []
  | cons {ts} {i : Nat} {x : Str} {u : Value} {v : V} {d : D} {bs ds} : i ∈ ts → X.N[i]? = some x → Loc X.env.scope x → (X.fn x = true ∨ X.env.scope.names.lookup x = some .local) → RelV v u → M.Rep F d v → PBs M X F ts bs ds → PBs M X F ts ((x, u) :: bs) ((i, d) :: ds)
theorem PBs.mono {ts ts' : List Nat} (h : Same F F') (ht : ∀ i ∈ ts, i ∈ ts') : ∀ {bs : List (Str × Value)} {ds : List (Nat × D)}, PBs M X F ts bs ds → PBs M X F' ts' bs ds
  | _, _, .nil => .nil
  | _, _, .cons a b c d e f g => .cons (ht _ a) b c d e (Rep.mono h f) (PBs.mono h ht g)
theorem PBs.app {ts : List Nat} : ∀ {bs bs' : List (Str × Value)} {ds ds' : List (Nat × D)}, PBs M X F ts bs ds → PBs M X F ts bs' ds' → PBs M X F ts (bs ++ bs') (ds ++ ds')
  | _, _, _, _, .nil, h => h
  | _, _, _, _, .cons a b c d e f g, h => .cons a b c d e f (PBs.app g h)
def PostP (M : Mx) (X : Cx) (pins : List (Addr × Obj)) (σ : L2.St) (F H : Hp) (rs : List Re) (ts : List Nat) (Q : Option (List (Str × Value)) → Shared → Prop) : Om → Prop
  | .hit ds => ∀ s' F' H' bs, Inv X pins σ H' s' → Same F F' → Same H H' → Holds M F' H' rs → PBs M X F' ts bs ds → Q (some bs) s'
  | .miss => ∀ s' F' H', Inv X pins σ H' s' → Same F F' → Same H H' → Holds M F' H' rs → Q none s'
  | .bad => False
def PP (M : Mx) (X : Cx) (p : Pattern) (ts : List Nat) (m : D → Om) : Prop := ∀ (pins : List (Addr × Obj)) (s : Shared) (σ : L2.St) (F H : Hp) (rs : List Re) (vx : V) (u : Value) (d : D) (Q : Option (List (Str × Value)) → Shared → Prop),
  Inv X pins σ H s → Holds M F H rs → M.Rep F d vx → RelV vx u → PostP M X pins σ F H rs ts Q (m d) → wpAny (model X.prog X.w) X.A (matchPattern p X.env u) Q X.xe s
def PPs (M : Mx) (X : Cx) (ps : List Pattern) (ts : List Nat) (m : List D → Om) : Prop := ∀ (pins : List (Addr × Obj)) (s : Shared) (σ : L2.St) (F H : Hp) (rs : List Re) (vs : List V) (us : List Value) (ds : List D) (Q : Option (List (Str × Value)) → Shared → Prop),
  Inv X pins σ H s → Holds M F H rs → M.RepAll F ds vs → Vals vs us → PostP M X pins σ F H rs ts Q (m ds) → wpAny (model X.prog X.w) X.A (matchEach ps X.env us) Q X.xe s
def mAny : D → Om := fun _ => .hit []
def mCap (i : Nat) : D → Om := fun d => .hit [(i, d)]
def mLit (c : D) : D → Om := fun d => match plain0 d && plain0 c with
  | true => match PyData.eqv d c with
    | true => .hit []
    | false => .miss
  | false => .bad
theorem pp_any : PP M X (.MatchAs none none pos) [] mAny := by
  intro pins s σ F H rs vx u d Q I h rd ru k
  exact wpAny_matchPattern_Capture (k s F H [] I (Same.refl F) (Same.refl H) h .nil)
theorem pp_cap (i : Nat) {x : Str} (hi : X.N[i]? = some x := by rfl) (hx : Loc X.env.scope x := by first | exact .inl rfl | exact .inr rfl) (hf : X.fn x = true ∨ X.env.scope.names.lookup x = some .local := by first | exact .inl rfl | exact .inr rfl) : PP M X (.MatchAs none (some x) pos) [i] (mCap i) := by
  intro pins s σ F H rs vx u d Q I h rd ru k
  exact wpAny_matchPattern_Capture (k s F H [(x, u)] I (Same.refl F) (Same.refl H) h (.cons List.mem_cons_self hi hx hf ru rd .nil))
theorem pp_lit {a : Expr} {c : D} (fit : Fit M X) (ha : SQ M X a (fun _ => some (.val c))) : PP M X (.MatchValue a pos) [] (mLit c) := by
  intro pins s σ F H rs vx u d Q I h rd ru k
  refine wpAny_matchPattern_Value ?_
  unfold mLit at k
  cases hp : plain0 d && plain0 c with
  | false => rw [hp] at k; exact k.elim
  | true =>
    rw [hp] at k; simp only at k
    -- the constant is read with no slots told
    have hl : σ.length = (σ.map fun _ => Sl.un).length := by simp
    have hz : Holds M F H (σ.zip (σ.map fun _ => Sl.un) ++ ((some vx, .fz d) :: rs)) := by
      have go : ∀ (σ : L2.St) {rs : List Re}, Holds M F H rs → Holds M F H (σ.zip (σ.map fun _ => Sl.un) ++ rs) := by
        intro σ
        induction σ with
        | nil => intro rs h; exact h
        | cons x xs ih => intro rs h; exact (ih h).addUn
      exact go σ (h.addFz rd)
    refine thn (ha.run pins s σ H (fun y H1 => ∃ F1, Same F F1 ∧ Same H H1 ∧ Holds M F1 H1 ((some y, .fz c) :: (some vx, .fz d) :: rs)) I ⟨F, _, _, .val c, hz, hl, rfl, fun F' H' v s1 s2 q => ⟨F', s1, s2, ?_⟩⟩) fun w s1 ⟨y, H1, I1, ry, F1, t1, t2, q1⟩ => ?_
    · have : Holds M F' H' ((some v, .fz c) :: (σ.zip (σ.map fun _ => Sl.un) ++ ((some vx, .fz d) :: rs))) := q.h
      exact this.sl (List.Sublist.cons_cons _ (List.sublist_append_right _ _))
    obtain ⟨y', ey, rc⟩ := q1.rep
    cases ey
    have hg : gEq d c = some (.val (.bool (PyData.eqv d c))) := by unfold gEq; rw [hp]; rfl
    refine thn (op_eqA fit pins s1 σ H1 vx y u w (fun z H2 => ∃ F2, Same F1 F2 ∧ Same H1 H2 ∧ Holds M F2 H2 rs ∧ z = .bl (PyData.eqv d c)) I1 ru ry ?_) fun w2 s2 ⟨z, H2, I2, rz, F2, t3, t4, q2, ez⟩ => ?_
    · exact o_eq F1 H1 _ vx y d c _ _ q1 (.inl (Rep.mono t1 rd)) (.inl rc) hg fun F2 H2 v s1 s2 q2 _ => by
        have q3 : Holds M F2 H2 ((some v, .fz (.bool (PyData.eqv d c))) :: ((some y, .fz c) :: (some vx, .fz d) :: rs)) := q2
        obtain ⟨v', ev, rv⟩ := q3.rep
        cases ev
        cases rv
        exact ⟨F2, s1, s2, q3.drop.drop.drop, rfl⟩
    · subst ez
      cases rz
      refine wpAny_truthy_bool ?_
      cases hq : PyData.eqv d c with
      | true =>
        rw [hq] at k; simp only at k
        rw [if_pos rfl]
        exact k s2 F2 H2 [] I2 (t1.trans t3) (t2.trans t4) q2 .nil
      | false =>
        rw [hq] at k; simp only at k
        rw [if_neg (by simp)]
        exact k s2 F2 H2 I2 (t1.trans t3) (t2.trans t4) q2
def mNil : List D → Om := fun _ => .hit []
def mCons (f : D → Om) (g : List D → Om) : List D → Om := fun ds => match ds with
  | d :: ds => match f d with
    | .hit bs => match g ds with
      | .hit more => .hit (bs ++ more)
      | .miss => .miss
      | .bad => .bad
    | .miss => .miss
    | .bad => .bad
  | [] => .bad
def mSeq (n : Nat) (g : List D → Om) : D → Om := fun d => match d with
  | .tuple ds => match Nat.beq ds.length n with
    | true => g ds
    | false => .miss
  | _ => .bad
theorem pps_nil : PPs M X [] [] mNil := by
  intro pins s σ F H rs vs us ds Q I h rd ru k
  exact wpAny_matchEach_nil (k s F H [] I (Same.refl F) (Same.refl H) h .nil)
theorem pps_cons {p : Pattern} {ps : List Pattern} {ts us : List Nat} {f : D → Om} {g : List D → Om} (h1 : PP M X p ts f) (h2 : PPs M X ps us g) (hp : p.isStar = false := by rfl) : PPs M X (p :: ps) (ts ++ us) (mCons f g) := by
  intro pins s σ F H rs vs ws ds Q I h rd ru k
  cases rd with
  | nil => exact k.elim
  | @cons d v ds vs r1 r2 =>
    cases ru with
    | @cons _ u _ us' r3 r4 =>
      refine wpAny_matchEach_cons ?_ hp
      simp only [mCons] at k
      refine h1 pins s σ F H rs v u d _ I h r1 r3 ?_
      cases hf : f d with
      | bad => rw [hf] at k; exact k.elim
      | miss => rw [hf] at k; exact fun s' F' H' I' a b q => k s' F' H' I' a b q
      | hit bs =>
        rw [hf] at k; simp only at k
        intro s1 F1 H1 b1 I1 a1 c1 q1 p1
        refine h2 pins s1 σ F1 H1 rs vs us' ds _ I1 q1 (RepAll.mono a1 r2) r4 ?_
        cases hg : g ds with
        | bad => rw [hg] at k; exact k.elim
        | miss => rw [hg] at k; exact fun s' F' H' I' a b q => k s' F' H' I' (a1.trans a) (c1.trans b) q
        | hit more =>
          rw [hg] at k
          exact fun s' F' H' b2 I' a b q p2 => k s' F' H' (b1 ++ b2) I' (a1.trans a) (c1.trans b) q ((p1.mono a fun i hi => List.mem_append_left _ hi).app (p2.mono (Same.refl F') fun i hi => List.mem_append_right _ hi))
theorem pp_seq {n : Nat} {ps : List Pattern} {ts : List Nat} {g : List D → Om} (fit : Fit M X) (h : PPs M X ps ts g) (hn : ps.length = n := by rfl) (hstar : ps.findIdx? (·.isStar) = none := by rfl)
    (hwild : (ps.all fun p => p.isWildcard || (p.isStar && p.names.isEmpty)) = false := by rfl) : PP M X (.MatchSequence ps pos) ts (mSeq n g) := by
  subst hn
  intro pins s σ F H rs vx u d Q I hh rd ru k
  cases rd with
  | tup h1 r1 =>
    rename_i ad vs ds
    cases ru
    have hq : SqT X.K H ad vs := by rw [fit.K]; exact SqT.mono hh.sub h1
    obtain ⟨its, rv, p, hz⟩ := I.tuple hq
    have l1 := rv.length
    have l2 := r1.length
    have l63 := line63
    simp only [mSeq] at k
    by_cases hl : ds.length = ps.length
    · have hb : Nat.beq ds.length ps.length = true := by simp [hl]
      rw [hb] at k; simp only at k
      have hsz : its.toArray.size = ps.length := by simp; omega
      refine PyProof.Rows.matchSeq_tuple_hit p (by simp; omega) hsz ?_ hstar hwild
      have p' : PyProof.Rows.IsTup ({ s with toks := s.toks + 1 + 1 } : Shared).heap ad its.toArray := p
      rw [← hsz]
      refine PyProof.Rows.unpackItems_tuple (I.ok.hd fit.calm) p' fun h' he => ?_
      have I2 : Inv X pins σ H { s with heap := h', toks := s.toks + 1 + 1 } := I.kept (t' := _) fun b u e => he b u (Nat.ne_of_lt (Heap.lt_size e)) e
      exact h pins _ σ F H rs vs its ds Q I2 hh r1 rv k
    · have hb : Nat.beq ds.length ps.length = false := by
        rw [← Bool.not_eq_true]; intro z; exact hl (Nat.eq_of_beq_eq_true z)
      rw [hb] at k; simp only at k
      refine PyProof.Rows.matchSeq_tuple_miss p (by simp; omega) (by simp; omega) ?_ hstar hwild
      exact k _ F H (I.tok _) (Same.refl F) (Same.refl H) hh
  | _ => exact k.elim

/-! ### the cases -/
def bindE : List (Nat × D) → En → En
  | [], e => e
  | (i, d) :: bs, e => bindE bs (e.set i (.fz d))
def CC (M : Mx) (X : Cx) (W : WX) (pr : List Nat) (cs : List MatchCase) (f : D → En → So) : Prop := ∀ (pins : List (Addr × Obj)) (s : Shared) (σ σ0 : L2.St) (F H : Hp) (e : En) (T : List Re) (Dd : Ends) (vx : V) (u : Value) (d : D) (first : Bool),
  Inv X pins σ H s → Holds M F H (σ.zip e ++ T) → σ.length = e.length → Keep pr σ0 σ → M.Rep F d vx → RelV vx u → PostS M W pr σ0 T Dd (f d e) → wpAny (model X.prog X.w) X.A (matchCases cs X.env u first) (SP X pins Dd) X.xe s
def cNil : D → En → So := fun _ e => .nx e
def cCons (m : D → Om) (g : En → So) (f : D → En → So) : D → En → So := fun d e => match m d with
  | .hit bs => g (bindE bs e)
  | .miss => f d e
  | .bad => .bad
theorem cc_nil : CC M X W pr [] cNil := by
  intro pins s σ σ0 F H e T Dd vx u d first I h l kp rd ru k
  exact wpAny_matchCases_nil ⟨σ, H, I, k F H σ h l kp⟩
theorem bind_ok (fit : Fit M X) {ts : List Nat} (hd : ∀ i ∈ pr, i ∉ ts) {pins : List (Addr × Obj)} : ∀ {bs : List (Str × Value)} {ds : List (Nat × D)} {s : Shared} {σ : L2.St} {e : En} {F : Hp} {Q : Unit → Shared → Prop}, PBs M X F ts bs ds → Inv X pins σ H s → Holds M F H (σ.zip e ++ T) → σ.length = e.length → Keep pr σ0 σ →
    (∀ s' σ', Inv X pins σ' H s' → Holds M F H (σ'.zip (bindE ds e) ++ T) → σ'.length = (bindE ds e).length → Keep pr σ0 σ' → Q () s') → wpAny (model X.prog X.w) X.A (assignInOrder (bs.map fun (n, _) => bindName X.env n) (bs.map (·.2))) Q X.xe s
  | _, _, s, σ, e, F, Q, .nil, I, h, l, kp, k => wpAny_assignInOrder_none (k s σ I h l kp)
  | _, _, s, σ, e, F, Q, .cons (i := i) a1 a2 a3 a4 a5 a6 t, I, h, l, kp, k => by
    refine wpAny_assignInOrder_more (wpAny_bindName (store_ok I fit.nd a2 a3 a5 (fun s2 I2 => ?_) a4))
    obtain ⟨h2, l2⟩ := (h.addFz a6).setSlot (i := i) l
    exact bind_ok fit hd t I2 h2 l2 (kp.set fun z => hd i z a1) k
theorem cc_cons {p : Pattern} {body : List Stmt} {cs : List MatchCase} {ts : List Nat} {m : D → Om} {g : En → So} {f : D → En → So} (fit : Fit M X) (hp : PP M X p ts m) (hb : SB M X W pr body g) (hr : CC M X W pr cs f) (hd : ∀ i ∈ pr, i ∉ ts := by decide) :
    CC M X W pr (⟨p, none, body⟩ :: cs) (cCons m g f) := by
  intro pins s σ σ0 F H e T Dd vx u d first I h l kp rd ru k
  refine wpAny_matchCases_cons ?_
  simp only [cCons] at k
  refine hp pins s σ F H _ vx u d _ I h rd ru ?_
  cases hm : m d with
  | bad => rw [hm] at k; exact k.elim
  | miss =>
    rw [hm] at k
    exact fun s' F' H' I' a b q => hr pins s' σ σ0 F' H' e T Dd vx u d false I' q l kp (Rep.mono a rd) ru k
  | hit bs =>
    rw [hm] at k
    intro s' F' H' bv I' a b q pb
    refine bind_ok fit hd pb I' q l kp fun s2 σ2 I2 q2 l2 k2 => ?_
    exact hb.run pins s2 σ2 H' Dd I2 ⟨F', _, T, σ0, q2, l2, k2, k⟩
def matchE (fa : En → Option R) (f : D → En → So) : En → So := fun e => match fa e with
  | some r => match rd r e with
    | some (.tuple ds) => f (.tuple ds) e
    | _ => .bad
  | none => .bad
theorem ss_match {cs : List MatchCase} {fa : En → Option R} {f : D → En → So} (ha : SQ M X a fa) (hc : CC M X W pr cs f) : SS M X W pr (.Match a cs pos) (matchE fa f) := by
  refine ⟨fun pins s σ H Dd I ⟨F, e, T, σ0, h, l, kp, k⟩ => ?_⟩
  unfold matchE at k
  cases hfa : fa e with
  | none => rw [hfa] at k; exact k.elim
  | some r =>
    rw [hfa] at k; simp only at k
    split at k
    · rename_i ds hr
      refine wpAny_Match (thn (ha.run pins s σ H (fun v H1 => ∃ F1, HoldsR M F1 H1 σ e T r v) I ⟨F, e, T, r, h, l, hfa, fun F1 H1 v _ _ q => ⟨F1, q⟩⟩) fun u s1 ⟨v, H1, I1, ru, F1, q⟩ => ?_)
      exact hc pins s1 σ σ0 F1 H1 e T Dd v u _ true I1 (q.h.sl (List.sublist_append_right _ _)) l kp ((q.vw hr).tupR) ru k
    · exact k.elim
end
end Bv
set_option maxHeartbeats 2000000
namespace Bv
open PySem PySem.Spec L2

/-! ### raise, try -/
def tMkX (C : Addr) (f : Str) (ta : TA) : L2.St → Hp → XK → Prop := fun σ H Q => ta σ H fun vs H1 => ∃ v, vs = [v] ∧ ∀ d, H1 d = none → Q (.ref C) (some d) (upd H1 d (.xd [(f, v)]))
section
variable {M : Mx} {X : Cx} {W : WX} {pr : List Nat} {F F' H H' : Hp} {σ σ0 : L2.St} {e e' : En} {T rs : List Re} {r : R} {v : V} {pos apos : Pos} {a b o tg : Expr} {rest es : List Expr} {c k n : Nat}
def raiseE (c : Nat) (fas : En → Oa) : En → So := fun e => (fas e).bindS fun rs e1 => match frzE rs e1 with
  | some ([d], e2) => .ex c d e2
  | _ => .bad
theorem ss_raise (c : Nat) {x : Expr} {fas : En → Oa} (fit : Fit M X) (tk : Takes X W) (hm : PMk X x (tMkX (M.xc c) (M.xf c) (tAE M W fas))) : SS M X W pr (.Raise (some x) none pos) (raiseE c fas) := by
  refine PS.weak (L2.ps_raise fit.calm tk hm) fun Dd σ H ⟨F, e, T, σ0, h, l, kp, k⟩ => ⟨F, e, T, h, l, ?_⟩
  refine PostA.to kp k fun rs e1 F1 H1 vs _ q k => ?_
  split at k
  · rename_i d e2 hf
    obtain ⟨F', s1, rp, hh, l'⟩ := frzE_ok q hf
    obtain ⟨v, rfl, rv⟩ := repAll1 rp
    refine ⟨v, rfl, fun dx hd => ?_⟩
    exact k F' _ σ dx v (hh.grow (o := .xd [(M.xf c, v)]) hd) l' kp upd_same rv
  · exact k.elim
/-- e, slot i emptied, behind an except suite -/
def unSo (i : Nat) : So → So
  | .nx e => .nx (e.set i .un)
  | .bk e => .bk (e.set i .un)
  | .ct e => .ct (e.set i .un)
  | r => r
def tryE (f : En → So) (ct : Nat → Option Bool) (g : Nat → D → En → So) : En → So := fun e => match f e with
  | .ex c d e1 => match ct c with
    | some true => g c d e1
    | some false => .ex c d e1
    | none => .bad
  | r => r
def tryAsE (i : Nat) (f : En → So) (ct : Nat → Option Bool) (g : Nat → D → En → So) : En → So := tryE f ct fun c d e => match Nat.blt i e.length with
  | true => unSo i (g c d (e.set i .un))
  | false => .bad
def tX (M : Mx) (W : WX) (pr : List Nat) (g : Nat → D → En → So) (cls : Value) (dd : Option Addr) : TS := fun Dd σ H => ∃ F e T σ0 c dx dv vx, cls = .ref (M.xc c) ∧ dd = some dx ∧ H dx = some (.xd [(M.xf c, vx)]) ∧ M.Rep F dv vx ∧ Holds M F H (σ.zip e ++ T) ∧ σ.length = e.length ∧
  Keep pr σ0 σ ∧ PostS M W pr σ0 T Dd (g c dv e)
/-- an except suite, without a name -/
def SX (M : Mx) (X : Cx) (W : WX) (pr : List Nat) (sts : List Stmt) (g : Nat → D → En → So) : Prop := ∀ (a : Addr) (oe : Obj) (cls : Value) (d : Option Addr) (pn : List (Addr × Obj)), Zc cls d oe → (∃ vs, oe.data = .fields vs) →
  PSs (X.suite a ((a, oe) :: pn)) sts (tX M W pr g cls d)
theorem sx_plain {sts : List Stmt} {f : En → So} (h : ∀ (a : Addr) (pn : List (Addr × Obj)), SB M (X.suite a pn) W pr sts f) : SX M X W pr sts (fun _ _ => f) := by
  intro a oe cls d pn hz hf
  exact PSs.weak (h a _) fun Dd σ H ⟨F, e, T, σ0, c, dx, dv, vx, e1, e2, e3, e4, h, l, kp, k⟩ => ⟨F, e, T, σ0, h, l, kp, k⟩
theorem ss_try {x : Str} {cc : Value} {body suite : List Stmt} {b0 : Stmt} {np pos' : Pos} {f : En → So} {ct : Nat → Option Bool} {g : Nat → D → En → So} (hs : X.stack = X.env :: X.outer) (hfr : X.env.frame = some X.env.locals) (hc : Names X x cc) (tk : Takes X W)
    (hct : ∀ c b, ct c = some b → PySem.W.exmOne X.K (.ref (M.xc c)) cc = some b)
    (hb : ∀ (W' : WX) (pn : List (Addr × Obj)) (xe : Value → Shared → Prop), Takes (X.tr pn xe) W' → PassesOwn (model X.prog X.w) X.A X.env xe → SB M (X.tr pn xe) W' pr body f) (hsu : SX M X W pr (b0 :: suite) g) :
    SS M X W pr (.Try body [.ExceptHandler (some (.Name x np)) none (b0 :: suite) pos'] [] [] pos) (tryE f ct g) := by
  refine PS.weak (ps_try_only (ts := fun _ cls d => tX M W pr g cls d) hs hfr hc tk (fun W' pn xe t p => hb W' pn xe t p) (fun a oe cls d pn hz hf => hsu a oe cls d pn hz hf)) fun Dd σ H ⟨F, e, T, σ0, h, l, kp, k⟩ => ⟨F, e, T, σ0, h, l, kp, ?_⟩
  unfold tryE at k
  cases hf : f e with
  | nx e1 => rw [hf] at k; exact k
  | rt s e1 => rw [hf] at k; exact k
  | bk e1 => rw [hf] at k; exact k
  | ct e1 => rw [hf] at k; exact k
  | bad => rw [hf] at k; exact k
  | ex c d e1 =>
    rw [hf] at k; simp only at k
    intro F1 H1 σ1 dx vx h1 l1 kp1 hx rx
    cases hcc : ct c with
    | none => rw [hcc] at k; exact k.elim
    | some b =>
      rw [hcc] at k
      refine ⟨b, hct c b hcc, fun hbt a _ => ?_, fun hbf => ?_⟩
      · subst hbt
        exact ⟨F1, e1, T, σ0, c, dx, d, vx, rfl, rfl, hx, rx, h1, l1, kp1, k⟩
      · subst hbf
        exact k F1 H1 σ1 dx vx h1 l1 kp1 hx rx

/-! ### .. as n -/
def tXi (M : Mx) (W : WX) (pr : List Nat) (i : Nat) (g : Nat → D → En → So) (a : Addr) (cls : Value) (dd : Option Addr) : TS := fun Dd σ H => ∃ F e T σ0 c dx dv vx, cls = .ref (M.xc c) ∧ dd = some dx ∧ H dx = some (.xd [(M.xf c, vx)]) ∧ M.Rep F dv vx ∧ Holds M F H (σ.zip e ++ T) ∧ σ.length = e.length ∧
  Keep pr σ0 σ ∧ σ[i]? = some (some (.ref a)) ∧ PostS M W pr σ0 T Dd (g c dv e)
def SXi (M : Mx) (X : Cx) (W : WX) (pr : List Nat) (i : Nat) (sts : List Stmt) (g : Nat → D → En → So) : Prop := ∀ (a : Addr) (oe : Obj) (cls : Value) (d : Option Addr) (pn : List (Addr × Obj)), Zc cls d oe → (∃ vs, oe.data = .fields vs) →
  PSs (X.suite a ((a, oe) :: pn)) sts (tXi M W pr i g a cls d)
theorem sxi_plain {i : Nat} {sts : List Stmt} {f : En → So} (h : ∀ (a : Addr) (pn : List (Addr × Obj)), SB M (X.suite a pn) W pr sts f) : SXi M X W pr i sts (fun _ _ => f) := by
  intro a oe cls d pn hz hf
  exact PSs.weak (h a _) fun Dd σ H ⟨F, e, T, σ0, c, dx, dv, vx, e1, e2, e3, e4, h, l, kp, ei, k⟩ => ⟨F, e, T, σ0, h, l, kp, k⟩
/-- what isinstance asks of the exceptions' own classes -/
structure XsC (M : Mx) (K : PySem.W.Frag) (C : Addr) : Prop where
  cl : (PySem.W.clsIn K C).isSome = true
  hg : PySem.W.findIn K (.ref C) "__getattribute__" = some (some (.builtin "BaseException.__getattribute__"))
  hk : PySem.W.findIn K (.ref C) "__getattr__" = some none
  hs : PySem.W.subIn K (.ref C) (.type "BaseException") = some true
  ha : PySem.W.findIn K (.ref C) "__class__" = some (some (.builtin "object.__class__"))
  hn : PySem.W.specialIn K (.builtin "object.__class__") "__get__" = some (some (.builtin "getset_descriptor.__get__"))
  ht : PySem.W.takesIn K (.builtin "object.__class__") = some true
  hm : PySem.W.mroIn K C (.type "object") = some true
theorem call_isX {a : Addr} {oe : Obj} {pn : List (Addr × Obj)} {cls : Value} {dd : Option Addr} (hz : Zc cls dd oe) (hf : ∃ vs, oe.data = .fields vs) :
    CallR (X.suite a ((a, oe) :: pn)) (.builtin "isinstance") (fun xs H Q => ∃ (C B dx : Addr) (b : Bool) (fs : List (Str × V)), cls = .ref C ∧ dd = some dx ∧ H dx = some (.xd fs) ∧ XsC M X.K C ∧ xs = [.ref a, .ref B] ∧ PySem.W.kitOne X.K (.ref C) (.ref B) = some b ∧ Q (.bl b) H) := by
  intro pins s σ H xs us Q I r ⟨C, B, dx, b, fs, ec, ed, hx, xC, exs, e, q⟩
  subst ec ed exs
  cases r with
  | cons rx rr =>
    cases rr with
    | cons rt rr =>
      cases rr
      cases rx
      cases rt
      obtain ⟨hget, _⟩ := I.pin (a, oe) (List.mem_append.mpr (.inl List.mem_cons_self))
      obtain ⟨vs, hv⟩ := hf
      have hob : ObjOk X.prog X.w H s.heap dx (.xd fs) := I.hok dx _ hx
      obtain ⟨mA, hns, hr⟩ := hob
      obtain ⟨od, ho, hl⟩ := lookIn_ns hns
      have J : PySem.W.InstAt s.heap a oe C (some od) := ⟨hget, hz.1, by unfold PySem.W.notCls; rw [hv] <;> rfl, by rw [hz.2]; exact ho⟩
      exact PySem.W.kia_one (PySem.W.kitx_exc xC.cl xC.hg xC.hk xC.hs xC.ha xC.hn xC.ht xC.hm) I.kIn J e (fun z => nomatch z) fun tk => ⟨.bl b, H, I.kept (t' := tk) fun _ _ z => z, rfl, q⟩
def isXE (isB : Nat → Option Bool) (f : En → So) (g : Nat → D → En → So) : Nat → D → En → So := fun c d e => match isB c with
  | some true => f e
  | some false => g c d e
  | none => .bad
theorem sxi_is {i : Nat} {n x : Str} {B : Addr} {body sts : List Stmt} {ipos p p1 p2 : Pos} {isB : Nat → Option Bool} {f : En → So} {g : Nat → D → En → So} (hxs : ∀ c b, isB c = some b → XsC M X.K (M.xc c) ∧ PySem.W.kitOne X.K (.ref (M.xc c)) (.ref B) = some b)
    (hm0 : X.mg "isinstance" = none) (hm : X.mg x = some (.ref B)) (hb : ∀ (a : Addr) (pn : List (Addr × Obj)), SB M (X.suite a pn) W pr body f) (hr : SXi M X W pr i sts g)
    (hret : ∀ e, match f e with | .nx _ => False | _ => True)
    (hi : X.N[i]? = some n := by rfl) (hv : Vis X.env.scope n := by first | exact Or.inl rfl | exact Or.inr (Or.inl rfl) | exact Or.inr (Or.inr rfl)) (hd : (n == ("__debug__" : Str)) = false := by decide) (hcd : (n == ("__classdict__" : Str)) = false := by decide)
    (hdx : (x == ("__debug__" : Str)) = false := by decide) (hg0 : Gl X "isinstance" := by rfl) (hg : Gl X x := by rfl)
    (h1 : starEach [.Name n p1, .Name x p2] X.env = (false, eval (.Name n p1) X.env) :: starEach [.Name x p2] X.env := by rfl) (h2 : (backTo pos (starEach [.Name x p2] X.env)).any (·.1) = false := by rfl) (h3 : starEach [.Name x p2] X.env = (false, eval (.Name x p2) X.env) :: starEach [] X.env := by rfl) :
    SXi M X W pr i (.If (.Call (.Name "isinstance" p) [.Name n p1, .Name x p2] [] pos) body [] ipos :: sts) (isXE isB f g) := by
  intro a oe cls d pn hz hf
  have A : PA (X.suite a ((a, oe) :: pn)) [.Name n p1, .Name x p2] (tCons (tVar i) (tCons (tC (.ref B)) tNil)) :=
    pa_cons (pe_var hi hv hd hcd) (pa_cons (pe_glob (v := .ref B) hg hm rfl hdx) pa_nil h3) h1
  have C := pe_callB (pos := pos) (p := p) (call_isX (X := X) (M := M) hz hf) hg0 hm0 (by decide +kernel) A (he := h1) (hpl := h2)
  have D := pt_val C
  refine PSs.weak (pss_cons (ps_if D (hb a _) pss_nil) (hr a oe cls d pn hz hf)) fun Dd σ H ⟨F, e, T, σ0, c, dx, dv, vx, e1, e2, e3, e4, h, l, kp, ei, k⟩ => ?_
  unfold isXE at k
  cases hB : isB c with
  | none => rw [hB] at k; exact k.elim
  | some b =>
    rw [hB] at k
    obtain ⟨y1, y2⟩ := hxs c b hB
    refine ⟨.ref a, ei, _, B, dx, b, _, e1, e2, e3, y1, rfl, y2, b, rfl, ?_⟩
    cases b with
    | true =>
      refine ⟨F, e, T, σ0, h, l, kp, ?_⟩
      have hn := hret e
      simp only at k
      revert hn k
      cases f e with
      | nx e1 => exact fun _ z => z.elim
      | rt s e1 => exact fun k _ => k
      | bk e1 => exact fun k _ => k
      | ct e1 => exact fun k _ => k
      | ex c d e1 => exact fun k _ => k
      | bad => exact fun k _ => k
    | false => exact ⟨F, e, T, σ0, c, dx, dv, vx, e1, e2, e3, e4, h, l, kp, ei, k⟩
def retX : Nat → D → En → So := fun _ d e => .rt (.fz d) e
/-- return e.f -/
theorem sxi_ret {i : Nat} {good : Nat → Bool} {ex : Expr} {f : Str} {rpos : Pos} (hp : ∀ (a : Addr) (oe : Obj) (pn : List (Addr × Obj)) (c : Nat) (dx : Addr) (vx : V), Zc (.ref (M.xc c)) (some dx) oe → (∃ vs, oe.data = .fields vs) → good c = true →
      PE (X.suite a ((a, oe) :: pn)) ex (fun σ H Q => tVar i σ H fun x H1 => x = .ref a ∧ H1 dx = some (.xd [(M.xf c, vx)]) ∧ Q vx H1)) :
    SXi M X W pr i [.Return (some ex) rpos] (fun c d e => match good c with
      | true => retX c d e
      | false => .bad) := by
  intro a oe cls d pn hz hf
  refine ⟨fun pins s σ H Dd I ⟨F, e, T, σ0, c, dx, dv, vx, e1, e2, e3, e4, h, l, kp, ei, k⟩ => ?_⟩
  subst e1 e2
  simp only at k
  cases hg : good c with
  | false => rw [hg] at k; exact k.elim
  | true =>
    rw [hg] at k
    refine (pss_one (ps_ret (hp a oe pn c dx vx hz hf hg))).run pins s σ H Dd I ?_
    exact ⟨.ref a, ei, rfl, e3, k F H σ vx (h.addFz e4) l kp⟩
theorem ss_tryAs (i : Nat) {x n : Str} {cc : Value} {body suite : List Stmt} {b0 : Stmt} {np pos' : Pos} {f : En → So} {ct : Nat → Option Bool} {g : Nat → D → En → So} (fit : Fit M X) (hs : X.stack = X.env :: X.outer) (hfr : X.env.frame = some X.env.locals) (hi : X.N[i]? = some n) (hln : X.env.kindOf n = some .local) (hc : Names X x cc) (tk : Takes X W)
    (hct : ∀ c b, ct c = some b → PySem.W.exmOne X.K (.ref (M.xc c)) cc = some b)
    (hb : ∀ (W' : WX) (pn : List (Addr × Obj)) (xe : Value → Shared → Prop), Takes (X.tr pn xe) W' → PassesOwn (model X.prog X.w) X.A X.env xe → SB M (X.tr pn xe) W' pr body f) (hsu : SXi M X W pr i (b0 :: suite) g) (hp : i ∉ pr := by decide) :
    SS M X W pr (.Try body [.ExceptHandler (some (.Name x np)) (some n) (b0 :: suite) pos'] [] [] pos) (tryAsE i f ct g) := by
  refine PS.weak (ps_try_as (ts := fun a cls d => tXi M W pr i g a cls d) hs hfr fit.nd hi hln hc tk (fun W' pn xe t p => hb W' pn xe t p) (fun a oe cls d pn hz hf => hsu a oe cls d pn hz hf)) fun Dd σ H ⟨F, e, T, σ0, h, l, kp, k⟩ => ⟨F, e, T, σ0, h, l, kp, ?_⟩
  unfold tryAsE tryE at k
  cases hf : f e with
  | nx e1 => rw [hf] at k; exact k
  | rt s e1 => rw [hf] at k; exact k
  | bk e1 => rw [hf] at k; exact k
  | ct e1 => rw [hf] at k; exact k
  | bad => rw [hf] at k; exact k
  | ex c d e1 =>
    rw [hf] at k; simp only at k
    intro F1 H1 σ1 dx vx h1 l1 kp1 hx rx
    cases hcc : ct c with
    | none => rw [hcc] at k; exact k.elim
    | some b =>
      rw [hcc] at k
      refine ⟨b, hct c b hcc, fun hbt a _ => ?_, fun hbf => ?_⟩
      · subst hbt
        simp only at k
        cases hlt : Nat.blt i e1.length with
        | false => rw [hlt] at k; exact k.elim
        | true =>
          rw [hlt] at k; simp only at k
          have hlt' : i < e1.length := Nat.le_of_ble_eq_true hlt
          obtain ⟨u, rest, g1, g2, g3⟩ := focus l1 hlt'
          have q2 : Holds M F1 H1 ((some (V.ref a), .un) :: (rest ++ T)) := ((Holds.perm h1 (List.Perm.append_right T g2)).drop).addUn
          have q3 : Holds M F1 H1 ((σ1.set i (some (.ref a))).zip (e1.set i .un) ++ T) := q2.perm (List.Perm.append_right T (g3 _ _).symm)
          have hun : ∀ {F H σ e}, Holds M F H (σ.zip e ++ T) → σ.length = e.length → Keep pr σ0 σ → Holds M F H ((σ.set i none).zip (e.set i .un) ++ T) ∧ (σ.set i none).length = (e.set i .un).length ∧ Keep pr σ0 (σ.set i none) := by
            intro F H σ e h l kp
            refine ⟨?_, by simp [l], kp.set hp⟩
            by_cases hi : i < e.length
            · obtain ⟨u, rest, g1, g2, g3⟩ := focus l hi
              have q2 : Holds M F H ((none, .un) :: (rest ++ T)) := ((Holds.perm h (List.Perm.append_right T g2)).drop).addUn
              exact q2.perm (List.Perm.append_right T (g3 _ _).symm)
            · have e1 : e.set i .un = e := List.set_eq_of_length_le (by omega)
              have e2 : σ.set i none = σ := List.set_eq_of_length_le (by omega)
              rw [e1, e2]; exact h
          refine ⟨F1, e1.set i .un, T, σ0, c, dx, d, vx, rfl, rfl, hx, rx, q3, by simp [l1], kp1.set hp, ?_, ?_⟩
          · rw [List.getElem?_set_self (by omega)]
          · cases hg : g c d (e1.set i .un) with
            | bad => rw [hg] at k; exact k
            | rt s e2 => rw [hg] at k; exact k
            | ex c d e2 => rw [hg] at k; exact k
            | nx e2 =>
              rw [hg] at k
              intro F H σ h l kp
              obtain ⟨a1, a2, a3⟩ := hun h l kp
              exact k F H _ a1 a2 a3
            | bk e2 =>
              rw [hg] at k
              intro F H σ h l kp
              obtain ⟨a1, a2, a3⟩ := hun h l kp
              exact k F H _ a1 a2 a3
            | ct e2 =>
              rw [hg] at k
              intro F H σ h l kp
              obtain ⟨a1, a2, a3⟩ := hun h l kp
              exact k F H _ a1 a2 a3
      · subst hbf
        exact k F1 H1 σ1 dx vx h1 l1 kp1 hx rx
end
end Bv
set_option maxHeartbeats 2000000
namespace Bv
open PySem PySem.Spec L2 PyProof.Rows PySem.W

/-! ### a def, by its body -/
def asOf (pr : List Nat) : Nat → Nat → En → List Sl
  | _, 0, _ => []
  | j, n + 1, x :: e => (match pr.contains j with
    | true => x
    | false => .un) :: asOf pr (j + 1) n e
  | j, n + 1, [] => .un :: asOf pr (j + 1) n []
def outF (pr : List Nat) (n : Nat) : So → Oc
  | .nx e => match Nat.ble n e.length with
    | true => .ret (.fz .none) (asOf pr 0 n e)
    | false => .bad
  | .rt s e => match Nat.ble n e.length with
    | true => .ret s (asOf pr 0 n e)
    | false => .bad
  | .ex c d e => match Nat.ble n e.length with
    | true => .ex c d (asOf pr 0 n e)
    | false => .bad
  | _ => .bad
/-- the def's function: pr its kept parameters, n how many, l how many further names -/
def fnF (pr : List Nat) (n l : Nat) (g : En → So) : Fn := fun ss => outF pr n (g (ss ++ List.replicate l .un))
theorem asOf_length (pr : List Nat) : ∀ (n j : Nat) (e : En), (asOf pr j n e).length = n
  | 0, _, _ => rfl
  | n + 1, j, x :: e => by simp [asOf, asOf_length pr n]
  | n + 1, j, [] => by simp [asOf, asOf_length pr n]
section
variable {M : Mx} {F H : Hp} {T : List Re}
theorem asOf_ok {pr : List Nat} : ∀ {vs : List V} {j : Nat} {σ : L2.St} {e : En} {A : List Re}, Holds M F H (A ++ (σ.zip e ++ T)) → σ.length = e.length → vs.length ≤ σ.length → (∀ i v, vs[i]? = some v → pr.contains (j + i) = true → σ[i]? = some (some v)) →
    Holds M F H (A ++ (zipV vs (asOf pr j vs.length e) ++ T))
  | [], j, σ, e, A, h, l, le, kp => h.sl (List.Sublist.append_left (List.sublist_append_right _ _) _)
  | v :: vs, j, [], e, A, h, l, le, kp => by simp at le
  | v :: vs, j, u :: σ, [], A, h, l, le, kp => by simp at l
  | v :: vs, j, u :: σ, x :: e, A, h, l, le, kp => by
    have ih := fun A h => asOf_ok (vs := vs) (j := j + 1) (σ := σ) (e := e) (A := A) h (by simpa using l) (by simpa using le) fun i v hv hc => by
      have := kp (i + 1) v (by simpa using hv) (by rw [show j + (i + 1) = j + 1 + i by omega]; exact hc)
      simpa using this
    cases hc : pr.contains j with
    | true =>
      have hu := kp 0 v rfl (by simpa using hc)
      have hu' : u = some v := by simpa using hu
      subst hu'
      have := ih (A ++ [(some v, x)]) (by
        rw [List.append_assoc]
        exact h)
      rw [List.append_assoc] at this
      simp only [List.length_cons, asOf, hc, zipV, List.map_cons, List.zip_cons_cons]
      exact this
    | false =>
      have h2 : Holds M F H ((some v, .un) :: (A ++ (σ.zip e ++ T))) := (h.sl (List.Sublist.append_left (List.sublist_cons_self _ _) _)).addUn
      have := ih (A ++ [(some v, .un)]) (by
        refine h2.perm ?_
        rw [List.append_assoc]
        exact List.perm_middle.symm)
      rw [List.append_assoc] at this
      simp only [List.length_cons, asOf, hc, zipV, List.map_cons, List.zip_cons_cons]
      exact this
end
section
variable {P : Program} {w : World} {K : PySem.W.Frag} {mg : Str → Option Value} {base : Heap} {M : Mx}
/-- exceptions as a def's end wishes them -/
abbrev WO (E : XK) : WX := fun cls d _ H => E cls d H
theorem fn_body {x qual : Str} {st : Stmt} {f : Addr} {fd : FuncData} {N ps : List Str} {k : Nat} {pr : List Nat} {n l : Nat} {g : En → So} (Fn : Fun K x qual st f fd) (S : FnScope N ps (defScope st)) (hn : ps.length = n) (hN : N.length = n + l)
    (hb : ∀ (cdv : Value) (A : Around) (outer : List Env) (s : Shared) (H : Hp) (E : XK), Room k (A.deeper (envOfC qual (defScope st) s.heap.objs.size f cdv)) →
      SB M (cxOf (L2.CX P w) P w K mg base N qual (defScope st) f cdv A outer s H E) (WO E) pr (defBody st) g) : FnOk P w K mg base (L2.CX P w) (k + 1) f fd ps (spF M n (fnF pr n l g)) := by
  refine Fn.okX S (fun vs H Q E ⟨F, ss, T, h1, _⟩ => h1.trans hn.symm) fun cdv A outer s H vs Q E hr ⟨F, ss, T, h1, h2, h3, h4⟩ => ⟨_, hb cdv A outer s H E hr, ?_⟩
  have hst : L2.start N vs = vs.map some ++ List.replicate l none := by
    unfold L2.start
    rw [hN, h1]
    congr
    omega
  have hrep : ∀ {l : Nat} {T : List Re}, Holds M F H T → Holds M F H ((List.replicate l (none : Option V)).zip (List.replicate l Sl.un) ++ T) := by
    intro l
    induction l with
    | zero => exact fun h => h
    | succ l ih => exact fun h => (ih h).addUn
  have hz : (L2.start N vs).zip (ss ++ List.replicate l .un) = zipV vs ss ++ (List.replicate l (none : Option V)).zip (List.replicate l Sl.un) := by
    rw [hst]
    exact List.zip_append (by simp [h1, h2])
  have len : (L2.start N vs).length = (ss ++ List.replicate l Sl.un).length := by
    rw [hst]; simp [h1, h2]
  refine ⟨F, ss ++ List.replicate l .un, T, L2.start N vs, ?_, len, fun i _ => rfl, ?_⟩
  · rw [hz, List.append_assoc]
    refine (hrep (l := l) h3).perm ?_
    exact perm_sw _ _ _
  · have kv : ∀ {σ : L2.St}, Keep pr (L2.start N vs) σ → ∀ i v, vs[i]? = some v → pr.contains (0 + i) = true → σ[i]? = some (some v) := by
      intro σ kp i v hv hc
      have hi : i < vs.length := (List.getElem?_eq_some_iff.mp hv).1
      rw [kp i (by simpa using hc), hst, List.getElem?_append_left (by simpa using hi), List.getElem?_map, hv]
      rfl
    unfold fnF at h4
    cases hg : g (ss ++ List.replicate l .un) with
    | bad => rw [hg] at h4; exact h4
    | bk e => rw [hg] at h4; exact h4.elim
    | ct e => rw [hg] at h4; exact h4.elim
    | nx e =>
      rw [hg] at h4
      intro F1 H1 σ q l1 kp
      cases hb : Nat.ble n e.length with
      | false => rw [outF, hb] at h4; exact h4.elim
      | true =>
        rw [outF, hb] at h4
        have le : vs.length ≤ σ.length := by rw [h1, l1]; exact Nat.le_of_ble_eq_true hb
        have := asOf_ok (A := []) (j := 0) q l1 le (kv kp)
        rw [h1] at this
        exact h4 F1 H1 .non (asOf_length _ _ _ _) (this.addFz .non)
    | rt s e =>
      rw [hg] at h4
      intro F1 H1 σ v q l1 kp
      cases hb : Nat.ble n e.length with
      | false => rw [outF, hb] at h4; exact h4.elim
      | true =>
        rw [outF, hb] at h4
        have le : vs.length ≤ σ.length := by rw [h1, l1]; exact Nat.le_of_ble_eq_true hb
        have := asOf_ok (A := [(some v, s)]) (j := 0) q l1 le (kv kp)
        rw [h1] at this
        exact h4 F1 H1 v (asOf_length _ _ _ _) this
    | ex c d e =>
      rw [hg] at h4
      intro F1 H1 σ dx vx q l1 kp hx rx
      cases hb : Nat.ble n e.length with
      | false => rw [outF, hb] at h4; exact h4.elim
      | true =>
        rw [outF, hb] at h4
        have le : vs.length ≤ σ.length := by rw [h1, l1]; exact Nat.le_of_ble_eq_true hb
        have := asOf_ok (A := []) (j := 0) q l1 le (kv kp)
        rw [h1] at this
        exact h4 F1 H1 dx vx (asOf_length _ _ _ _) this hx rx
theorem fit_of {N : List Str} {qual : Str} {scope : Scope} {f : Addr} {cdv : Value} {A : Around} {outer : List Env} {s : Shared} {H : Hp} {E : XK} {k : Nat} (hK : M.K = K) (hw : M.w = w) (nd : N.Nodup) (hr : Room k (A.deeper (envOfC qual scope s.heap.objs.size f cdv))) :
    Fit M (cxOf (L2.CX P w) P w K mg base N qual scope f cdv A outer s H E) := ⟨hK.symm, hw.symm, nd, rfl, by
  show (A.deeper (envOfC qual scope s.heap.objs.size f cdv)).units + 128 < cLine
  have := hr.un
  omega⟩
theorem takes_cx {N : List Str} {qual : Str} {scope : Scope} {f : Addr} {cdv : Value} {A : Around} {outer : List Env} {s : Shared} {H : Hp} {E : XK} :
    Takes (cxOf (L2.CX P w) P w K mg base N qual scope f cdv A outer s H E) (WO E) := takes_of rfl rfl rfl rfl
theorem passes_cx {N : List Str} {qual : Str} {scope : Scope} {f : Addr} {cdv : Value} {A : Around} {outer : List Env} {s : Shared} {H : Hp} {E : XK} :
    PassesOwn (model (cxOf (L2.CX P w) P w K mg base N qual scope f cdv A outer s H E).prog (cxOf (L2.CX P w) P w K mg base N qual scope f cdv A outer s H E).w) (cxOf (L2.CX P w) P w K mg base N qual scope f cdv A outer s H E).A (cxOf (L2.CX P w) P w K mg base N qual scope f cdv A outer s H E).env (cxOf (L2.CX P w) P w K mg base N qual scope f cdv A outer s H E).xe := passes_of rfl
end
end Bv
set_option maxHeartbeats 2000000
namespace Bv
open PySem PySem.Spec L2 PyProof.Rows PySem.W
section
variable {M : Mx} {X : Cx} {W : WX} {pr : List Nat} {F F' H H' : Hp} {σ σ0 : L2.St} {e e' : En} {T rs : List Re} {r : R} {v : V} {pos apos : Pos} {a b o tg : Expr} {rest es : List Expr} {c k n : Nat}
/-- x is True, x is not True: of bools -/
def gIsB (a b : D) : Option R := match a, b with
  | .bool x, .bool y => some (.val (.bool (decide (x = y))))
  | _, _ => none
def gIsNotB (a b : D) : Option R := match a, b with
  | .bool x, .bool y => some (.val (.bool (!decide (x = y))))
  | _, _ => none
theorem o_isB : Op2 M rIsB gIsB := by
  intro F H rs x y a b res Q h ha hb e k
  unfold gIsB at e
  split at e
  · cases e
    exact ⟨_, _, ha.bool, hb.bool, fin_val h (.bl _) k⟩
  · cases e
theorem o_isNotB : Op2 M rNotB gIsNotB := by
  intro F H rs x y a b res Q h ha hb e k
  unfold gIsNotB at e
  split at e
  · cases e
    exact ⟨_, _, ha.bool, hb.bool, fin_val h (.bl _) k⟩
  · cases e
theorem fit_tr {pn : List (Addr × Obj)} {xe : Value → Shared → Prop} (fit : Fit M X) : Fit M (X.tr pn xe) := ⟨fit.K, fit.w, fit.nd, fit.calm, fit.hu⟩
end
section
variable {P : Program} {w : World} {K : PySem.W.Frag} {mg : Str → Option Value} {base : Heap} {M : Mx}
theorem fn_bad {x qual : Str} {st : Stmt} {f : Addr} {fd : FuncData} {N ps : List Str} {k n : Nat} (Fn : Fun K x qual st f fd) (S : FnScope N ps (defScope st)) (hn : ps.length = n) : FnOk P w K mg base (L2.CX P w) (k + 1) f fd ps (spF M n fun _ => .bad) :=
  Fn.okX S (fun vs H Q E ⟨F, ss, T, h1, _⟩ => h1.trans hn.symm) fun cdv A outer s H vs Q E hr ⟨F, ss, T, h1, h2, h3, h4⟩ => h4.elim
theorem fnIn {x : Str} {st : Stmt} {f : Addr} {fd : FuncData} {ps : List Str} {k n : Nat} {m : Fn} (Fn : Fun K x x st f fd) (hm : mg x = some (.ref f)) (hb : Binds K fd ps []) (ok : FnOk P w K mg base (L2.CX P w) k f fd ps (spF M n m)) : FnIn M P w K mg base k n x m :=
  ⟨f, fd, ps, ok, hm, Fn.kp, hb⟩
theorem mtIn {x q : Str} {st : Stmt} {f : Addr} {fd : FuncData} {ps : List Str} {k n c : Nat} {m : Fn} (Fn : Fun K x q st f fd) (hm : Meth K (M.cl c) x f) (hno : x ∉ M.fn c) (hb : Binds K fd ps []) (ok : FnOk P w K mg base (L2.CX P w) k f fd ps (spF M n m)) : MtIn M P w K mg base k n c x m :=
  ⟨⟨f, fd, ps, ok, hm, hb⟩, hno⟩
theorem nwIn {x : Str} {f : Addr} {fd : FuncData} {ps : List Str} {k n c : Nat} {m : Fn} (hk : Mk K (M.cl c) f) (hm : mg x = some (.ref (M.cl c))) (hb : Binds K fd ps []) (ok : FnOk P w K mg base (L2.CX P w) k f fd ps (spF M (n + 1) m)) : NwIn M P w K mg base k n c x m :=
  ⟨f, fd, ps, ok, hk, hm, hb⟩
end
end Bv
set_option maxHeartbeats 2000000
namespace Bv
open PySem PySem.Spec L2 PyProof.Rows PySem.W
def spLaw (K : PySem.W.Frag) : Sp := fun vs H Q _ => ∃ (a : Addr) (ns : List Int), vs = [.ref a] ∧ SqL K H a (ns.map V.int) ∧ ns.length ≤ 63 ∧ (∀ z ∈ ns, Builtin.Int.intBits z ≤ 1048576) ∧ ∀ H', Q (.bl true) H'
section
variable {P : Program} {w : World} {K : PySem.W.Frag} {mg : Str → Option Value} {base : Heap} {M : Mx}
theorem ints_rep {F : Hp} : ∀ ns : List Int, M.RepAll F (ns.map .int) (ns.map V.int)
  | [] => .nil
  | n :: ns => .cons (.int n) (ints_rep ns)
theorem law_ok {f : Addr} {fd : FuncData} {k : Nat} {m : Fn} (hM : M.K = K) (law : ∀ ns : List Int, ns.length ≤ 63 → (∀ z ∈ ns, Builtin.Int.intBits z ≤ 1048576) → ∃ as, m [.fz (.dict [(.none, .tuple (ns.map .int))])] = .ret (.fz (.bool true)) as)
    (ok : FnOk P w K mg base (L2.CX P w) k f fd ["script"] (spF M 1 m)) : FnOk P w K mg base (L2.CX P w) k f fd ["script"] (spLaw K) := by
  refine ok.imp fun vs H Q E ⟨a, ns, e, hS, hl, hb, k⟩ => ?_
  subst e
  obtain ⟨as, ha⟩ := law ns hl hb
  refine ⟨H, [.fz (.dict [(.none, .tuple (ns.map .int))])], [], rfl, rfl, ⟨Same.refl H, [], ?_, List.nodup_nil, fun a h => by cases h⟩, ?_⟩
  · exact .cons (L1 := []) (.fz (.rol (by rw [hM]; exact hS) (ints_rep ns))) .nil
  · rw [ha]
    intro F' H' v _ h
    obtain ⟨v', ev, r⟩ := h.rep
    cases ev
    cases r
    exact k H'
theorem cx_none {H : Hp} {s s' : Shared} {e : Value} (h : L2.CX P w [] H s (fun _ _ _ => False) e s') : False := by
  obtain ⟨_, _, _, _, _, _, _, _, _, _, _, _, z⟩ := h
  exact z
theorem globD_int {x : Str} {i : Int} {t : Tok} (h : mg x = some (.int i t)) : GlobD M mg x (.int i) := ⟨_, .int i, h, ⟨t, rfl⟩, fun _ => .int i⟩
theorem globD_str {x : Str} {i : Str} {t : Tok} (h : mg x = some (.str i t)) : GlobD M mg x (.str i) := ⟨_, .str i, h, ⟨t, rfl⟩, fun _ => .str i⟩
theorem globD_tup {x : Str} {a : Addr} {ds : List D} {vs : List V} {od : Option Addr} {its : Array Value} {n : Nat} {osl : Array (Option Value)} (hM : M.K = K) (h : mg x = some (.ref a)) (l : K.lookup a = some ⟨.type "tuple", od, .seq its n, osl⟩) (hz : its.size ≤ sizeLine)
    (hv : Vals vs its.toList) (hr : ∀ F, M.RepAll F ds vs) : GlobD M mg x (.tuple ds) :=
  ⟨_, .ref a, h, rfl, fun F => .tup (.inr ⟨_, its, n, by rw [hM]; exact l, rfl, rfl, hz, hv⟩) (hr F)⟩
theorem kit_of {C : Addr} {t : Value} {b : Bool} (h1 : isClsIn K C = true) (h2 : typeIn K (.ref C) = some (.type "type")) (h3 : subIn K t (.ref C) = some b) (h4 : subIn K (.ref C) (.ref C) = some true) : kitOne K t (.ref C) = some b := by
  have h1' : (clsIn K C).isSome = true := h1
  unfold kitOne
  by_cases ht : (t == Value.ref C) = true
  · have : t = .ref C := by simpa using ht
    subst this
    rw [h3] at h4; cases h4
    rw [if_pos ht]
  · rw [if_neg ht]
    show (if ((clsIn K C).isSome && typeIn K (.ref C) == some (.type "type")) = true then subIn K t (.ref C) else none) = some b
    rw [if_pos (by rw [h1', h2]; rfl)]
    exact h3
end
theorem walk_bv {l : PySem.W.OpenLaw} {k : Nat} {q : Program} {loose : List Str} {XP : (Str → Option Value) → Heap → Prop} {YP : World → Heap → Prop} {d : DefRec} {K : Params → PySem.W.Frag}
    (hn : l.most = some 63) (hdf : d.params.defaults = []) (hr : Room k callerA) (hY : ∀ (w : World) (h : Heap), YP w h → (K w.params).In h)
    (F : ∀ (w : World) (mg : Str → Option Value) (fa : Addr) (h : Heap), (K w.params).In h → h.Ns mainGlobals mg → XP mg h → mg d.name = some (.ref fa) →
      ∃ fd : FuncData, (∀ (s : Shared) (u : Value), BindsTo s fd ⟨[u], []⟩ [("script", u)]) ∧
        ∀ base : Heap, (K w.params).In base → base.Ns mainGlobals mg → FnOk l.prog w (K w.params) mg base (L2.CX l.prog w) k fa fd ["script"] (spLaw (K w.params))) :
    PySem.W.WalkO q loose XP YP l.row.toRowW d [] (fun f vs => PySem.call f vs) := by
  refine Att.attach_callB hn hdf fun w s₀ s₁ mg mb fa o pm cd doc a vs ns G Y ho hd hcd hmg hobj hints hlen hbits hg => ?_
  have KX := hY w _ Y
  obtain ⟨fd, hb, hF⟩ := F w mg fa _ KX G.T.g G.X hmg
  exact law_call KX G.T.g G.T.b G.T.builtins G.T.nolimit hg hobj hints (Nat.le_trans hlen (by decide)) hr hF hb (fun H hO hS => ⟨a, ns, rfl, hS, hlen, hbits, fun _ => rfl⟩) fun H e s' h => cx_none h
/-- a name whose value the head tells apart -/
theorem loose_int {p : Program} {lv : List (Str × WData)} {mg : Str → Option Value} {h : Heap} {x : Str} {i : Int} (X : PySem.W.XL p lv mg h) (hm : (x, WData.int i) ∈ lv) : ∃ t, mg x = some (.int i t) := by
  obtain ⟨v, e, r⟩ := X.2.val _ hm
  cases r with
  | int => exact ⟨_, e⟩
end Bv
set_option maxHeartbeats 2000000
/-! an own error with one field index: the part LowX follows the kit's worked proof of an own error (its lines, turned) -/
namespace PySem
namespace Exindex
open PySem.W PySem.Calls PyProof.Rows PySem.HandSPX
def iA (p1 p2 : Pos) : Arguments := { posonlyargs := [], args := [{ arg := "self", annotation := none, pos := p1 }, { arg := "index", annotation := none, pos := p2 }], vararg := none, kwonlyargs := [], kw_defaults := [], kwarg := none, defaults := [] }
def iB (q1 q2 q3 q4 : Pos) : List Stmt := [.Assign [.Attribute (.Name "self" q1) "index" q2] (.Name "index" q3) q4]
def iS : Scope := { kind := .function, names := [(PySem.Str.ofString "self", .local), (PySem.Str.ofString "index", .local)], isGenerator := false, isCoroutine := false, more := [] }
structure Txt (K : Frag) (mg : Str → Option Value) (x : Str) (qn : Str) (C fI : Addr) : Prop where
  gC : mg x = some (.ref C)
  cls : ∃ nm q N bs bm sn sub ab col dd k0 k1 k2 k3 k5, K.lookup C = some (excClassObj nm q C N bs bm true sn sub ab col dd k0 k1 k2 k3 k5 "ValueError.__new__") ∧ refsVE bm = true
  sa : findIn K (.ref C) "__setattr__" = some (some (.builtin "object.__setattr__"))
  ga : findIn K (.ref C) "__getattribute__" = some (some (.builtin "BaseException.__getattribute__"))
  gg : findIn K (.ref C) "__getattr__" = some none
  noN : findIn K (.ref C) "index" = some none
  iC : findIn K (.ref C) "__init__" = some (some (.ref fI))
  tC : typeIn K (.ref fI) = some (.type "function")
  kC : keepIn K (.ref C) = true
  exC : subIn K (.ref C) (.type "BaseException") = some true
  tyC : typeIn K (.ref C) = some (.type "type")
  hdC : hasDictIn K C = true
  fn : ∃ (oc : Value) (od : Option Addr) (doc pm : Value) (an : Option Addr) (cdv ct : Value) (osl : Array (Option Value)) (p1 p2 q1 q2 q3 q4 : Pos),
    K.lookup fI = some ⟨oc, od, .func (fnOf "__init__" qn (iA p1 p2) (iB q1 q2 q3 q4) iS .none .none doc pm an cdv ct), osl⟩ ∧ codeIn K cdv qn = true
theorem one_size (v : Value) : [v].length ≤ sizeLine := by
  rw [sizeLine_eq]
  exact (by decide : 1 ≤ 16777216)
theorem ldC {M : Model} {s : Shared} {name : Str} {scope : Scope} {L a : Addr} {cd : Value} {m : Str → Option Value} {x : Str} {pos : Pos} {v : Value} {Q : Value → Shared → Prop} {A : Around} {E : Value → Shared → Prop} (hn : s.heap.Ns L m) (hv : m x = some v) (h : Q v s)
    (hk : scope.kind = .function := by rfl) (hl : (envOfC name scope L a cd).kindOf x = some .local := by rfl) (hd : (x == ("__debug__" : Str)) = false := by decide) :
    wpAny M A (eval (.Name x pos) (envOfC name scope L a cd)) Q E s := wpAny_Name (wpAny_loadName_local hk hl hn hv h) hd
structure InitEnd (h h' : Heap) (x C dx t1 : Addr) (v : Value) : Prop where
  keep : ∀ b o, b ≠ x → h.get? b = some o → h'.get? b = some o
  obj : h'.get? x = some { cls := .ref C, dict := some dx, data := .fields #[.ref t1, .none, .none, .none, .bool false, .none] }
  dbig : h.objs.size ≤ dx
  dne : dx ≠ x
  ns : h'.Ns1 dx (fun y => if y = "index" then some v else none)
structure OwnMade (h h' : Heap) (e C d : Addr) (v : Value) : Prop where
  keep : ∀ b o, h.get? b = some o → h'.get? b = some o
  new : h.objs.size ≤ e
  obj : ∃ oe vs, h'.get? e = some oe ∧ oe.cls = .ref C ∧ oe.dict = some d ∧ oe.data = .fields vs ∧ vs[1]? = some .none
  dbig : h.objs.size ≤ d
  dne : d ≠ e
  ns : h'.Ns1 d (fun y => if y = "index" then some v else none)
section
variable {prog : Program} {w : World} {A : Around} {E : Value → Shared → Prop} {R : Result → Shared → Prop} {s : Shared} {K : Frag} {mg : Str → Option Value} {C fI : Addr} {xn qn : Str}
theorem init (T : Txt K mg xn qn C fI) {x t0 : Addr} {v : Value} (X : K.In s.heap) (hlim : s.heap.NoLimit) (hx : s.heap.get? x = some (excO C t0)) (hnx : K.lookup x = none) (hroom : A.depth < recursionLimit)
    (hq : ∀ h' tk dx, InitEnd s.heap h' x C dx t0 v → R (.ok (.ret .none)) { s with heap := h', toks := tk }) :
    codeAny (model prog w) A (.call (.ref fI) ⟨[.ref x, v], []⟩) R s := by
  obtain ⟨oc, od, doc, pm, an, cdv, ct, osl, p1, p2, q1, q2, q3, q4, ho, hcd⟩ := T.fn
  obtain ⟨nm, q, N, bs, bm, sn, sub, ab, col, dd, k0, k1, k2, k3, k5, hC, hbm⟩ := T.cls
  have hcl : clsIn K C = some { name := nm, bases := bs, mro := .ref C :: bm, ns := N, qualname := q, hasDict := true, slotNames := sn, subclasses := sub, abstract := ab, collection := col, hasDel := false } := by unfold clsIn; rw [hC] <;> rfl
  refine Att.call_fn (binds := [("self", .ref x), ("index", v)]) X hlim ho hcd hroom (BindsTo.of_eq (by first | rfl | with_unfolding_all rfl)) (by first | rfl | decide | with_unfolding_all rfl) (fun s₁ IC => ?_) rfl rfl rfl
  obtain ⟨h₁, tk₁, rfl⟩ := IC.toInCall.same
  have k : ∀ b o, s.heap.get? b = some o → h₁.get? b = some o := IC.toInCall.keep
  have hn := IC.toInCall.ns
  have hxL : s.heap.objs.size ≠ x := Nat.ne_of_gt (Heap.lt_size hx)
  have X₁ : K.In h₁ := X.keeps k
  have hx₁ := k _ _ hx
  show wpAny _ _ (execs _ _) _ _ _
  refine wpAny_execs_cons (plainObj_wpAny_Assign_Attribute ?_)
  refine ldC (v := v) hn (by first | rfl | with_unfolding_all rfl | kernel_rfl) (ldC (v := .ref x) hn (by first | rfl | with_unfolding_all rfl | kernel_rfl) ?_)
  refine set_plain X₁ (ox := excO C t0) (od := none) ⟨hx₁, rfl, rfl, trivial⟩ T.sa ?_
  refine exc_osa X₁ hx₁ hcl (show refsVE (.ref C :: bm) = true from hbm) rfl T.noN (fun h₃ tk₃ dx k₃ dn dne hx₃ hn₃ => ?_)
  show wpAny _ _ (execs _ _) _ _ _
  have z : s.heap.objs.size < h₁.objs.size := hn.lt
  exact wpAny_execs_nil (hq h₃ tk₃ dx ⟨fun b o hb e => k₃ b o hb (k b o e), hx₃, Nat.le_of_lt (Nat.lt_of_lt_of_le z dn), dne, hn₃⟩)
theorem made (T : Txt K mg xn qn C fI) {v : Value} (X : K.In s.heap) (hlim : s.heap.NoLimit) (hroom : A.depth + 1 < recursionLimit)
    (hq : ∀ h' tk e d, OwnMade s.heap h' e C d v → R (.ok (.ret (.ref e))) { s with heap := h', toks := tk }) :
    codeAny (model prog w) A (.call (.ref C) ⟨[v], []⟩) R s := by
  obtain ⟨nm, q, N, bs, bm, sn, sub, ab, col, dd, k0, k1, k2, k3, k5, hC, hbm⟩ := T.cls
  obtain ⟨hp, g, dr, tk, os⟩ := s
  have k : ∀ b o, hp.get? b = some o → ((hp.push (kdv_tup [v])).push (excO C hp.objs.size)).get? b = some o := fun b o e => Heap.get?_push_of_some _ (Heap.get?_push_of_some _ e)
  have hget : ((hp.push (kdv_tup [v])).push (excO C hp.objs.size)).get? (hp.objs.size + 1) = some (excO C hp.objs.size) := by heap_get
  have hnx : K.lookup (hp.objs.size + 1) = none := by
    cases e : K.lookup (hp.objs.size + 1) with
    | none => rfl
    | some o =>
      have z : hp.get? (hp.objs.size + 1) = some o := X _ _ e
      exact absurd (Nat.lt_of_succ_lt (Heap.lt_size z)) (Nat.lt_irrefl _)
  refine call_own F.excBase_ValueError (fun X => refsVE_contains X bm hbm) (X _ _ hC) (looks_findIn X T.iC) (fun self => bind_fn X self T.tC) (one_size v) ?_
  refine init (s := ⟨(hp.push (kdv_tup [v])).push (excO C hp.objs.size), g, dr, tk, os⟩) T (X.keeps k) (hlim.keeps k) hget hnx ?_ fun h' tk' dx ⟨k', hx, dn, dne, hns⟩ => ?_
  · show A.depth + 1 < recursionLimit
    exact hroom
  · have old : ∀ b o, hp.get? b = some o → h'.get? b = some o := fun b o e => k' b o (Nat.ne_of_lt (Nat.lt_succ_of_lt (Heap.lt_size e))) (k b o e)
    have z : hp.objs.size + 1 + 1 ≤ dx := by
      first
        | (simpa only [Heap.size_push] using dn)
        | exact dn
        | (have q := dn; rw [Heap.size_push, Heap.size_push] at q; exact q)
    exact ⟨rfl, hq h' tk' (hp.objs.size + 1) dx ⟨old, Nat.le_succ _, ⟨_, _, hx, rfl, rfl, rfl, rfl⟩, Nat.le_trans (Nat.le_trans (Nat.le_succ _) (Nat.le_succ _)) z, dne, hns⟩⟩
end
end Exindex
end PySem
namespace Bv
open PySem PySem.Spec L2
theorem relO_index {v : V} {v' : Value} (r : RelV v v') (f : Str) : RelO (List.lookup f [(("index" : Str), v)]) (if f = "index" then some v' else none) := by
  by_cases hw : f = "index"
  · subst hw
    rw [if_pos rfl]
    have q : List.lookup ("index" : Str) [(("index" : Str), v)] = some v := by simp [List.lookup]
    rw [q]
    exact r
  · rw [if_neg hw]
    have qw : (f == ("index" : Str)) = false := by simpa using hw
    have q2 : List.lookup f [(("index" : Str), v)] = none := by simp [List.lookup, qw]
    rw [q2]
    trivial
section
variable {X : Cx} {C fI : Addr} {xn qn : Str}
def tMkindex (C : Addr) (ta : TA) : L2.St → Hp → XK → Prop := fun σ H Q => ta σ H fun vs H1 => ∃ v, vs = [v] ∧ ∀ d, H1 d = none → Q (.ref C) (some d) (upd H1 d (.xd [(("index" : Str), v)]))
theorem pmk_index {a : Expr} {ta : TA} {p pos : Pos} {k : Nat} (T : PySem.Exindex.Txt X.K X.mg xn qn C fI) (hr : Room k X.A) (ha : PA X [a] ta) (hg : Gl X xn := by rfl) (hdb : (xn == ("__debug__" : Str)) = false := by decide)
    (he : starEach (a :: []) X.env = (false, eval a X.env) :: starEach [] X.env := by rfl) (hpl : (backTo pos (starEach [] X.env)).any (·.1) = false := by rfl) :
    PMk X (.Call (.Name xn p) [a] [] pos) (tMkindex C ta) := by
  intro pins s σ H Q I h
  refine wpAny_Call_Name_kw (ld_glob I hg T.gC ?_ hdb)
  refine PySem.W.callWith_K (h₀ := X.base) I.ok.mod.kin T.kC (thn (ha.run pos pins s σ H _ I h) fun us s1 hh => ?_) he hpl
  obtain ⟨vs, H1, I1, r1, v, ev, q1⟩ := hh
  subst ev
  refine ⟨I1.kIn, ?_⟩
  cases r1 with
  | cons rv rn =>
    rename_i v' us'
    cases rn
    show wpAny _ _ (call (.ref C) [v']) _ _ _
    have hlim := I1.nolimit
    obtain ⟨hp, g, dr, tk, os⟩ := s1
    refine wpAny_call (PySem.Exindex.made T I1.kIn hlim (by have := hr.dp; omega) fun h' tk' e d M => ?_)
    show MkP X pins σ Q (.ref e) ⟨h', g, dr, tk', os⟩
    obtain ⟨oe, fv, hoe, hc, hd, hdat, h1⟩ := M.obj
    have hns := M.ns
    obtain ⟨G', g1, g2⟩ := restrict h' fun b => decide (b ≠ e)
    have gk : ∀ b, b ≠ e → G'.get? b = h'.get? b := fun b hb => g1 b (decide_eq_true hb)
    have ge : G'.get? e = none := g2 e (by simp)
    have old : ∀ b o, hp.get? b = some o → G'.get? b = some o := fun b o q => (gk b (Nat.ne_of_lt (Nat.lt_of_lt_of_le (Heap.lt_size q) M.new))).trans (M.keep b o q)
    have ob : ObjOk X.prog X.w (upd H1 d (.xd [(("index" : Str), v)])) G' d (.xd [(("index" : Str), v)]) :=
      ⟨_, hns.at (fun o q => (gk d M.dne).trans q), fun f => relO_index rv f⟩
    have J : Inv X pins σ (upd H1 d (.xd [(("index" : Str), v)])) ⟨G', g, dr, tk', os⟩ := I1.laid (t' := tk') old M.dbig ob
    refine ⟨e, oe, fv, ⟨G', g, dr, tk', os⟩, _, .ref C, some d, rfl, J, fun b o q => ?_, ge, hoe, ⟨hc, hd⟩, hdat, h1, ?_, rfl, I1.bare, raises_own T.exC T.tyC, q1 d (I1.hok.fresh M.dbig)⟩
    · by_cases hb : b = e
      · have q' : G'.get? b = some o := q
        rw [hb, ge] at q'; cases q'
      · exact (gk b hb).symm.trans q
    · rw [upd_ne (Ne.symm M.dne)]
      exact I1.hok.fresh M.new
theorem attr_index {a : Addr} {oe : Obj} {pn : List (Addr × Obj)} {e : Expr} {te : TE} {pos : Pos} (T : PySem.Exindex.Txt X.K X.mg xn qn C fI) {d : Addr} {v : V} (hz : Zc (.ref C) (some d) oe) (hf : ∃ vs, oe.data = .fields vs) (he : PE (X.suite a ((a, oe) :: pn)) e te)
    (hb : attributeBase e "index" X.env (eval e X.env) = eval e X.env := by rfl) :
    PE (X.suite a ((a, oe) :: pn)) (.Attribute e "index" pos) (fun σ H Q => te σ H fun x H1 => x = .ref a ∧ H1 d = some (.xd [(("index" : Str), v)]) ∧ Q v H1) := by
  refine ⟨fun pins s σ H Q I h => ?_⟩
  refine attr_of hb (thn (he.run pins s σ H _ I h) fun u s1 hh => ?_)
  obtain ⟨x, H1, I1, rx, ex, ea, q⟩ := hh
  subst ex
  obtain rfl : u = Value.ref a := rx
  obtain ⟨ha, _⟩ := I1.pin (a, oe) (List.mem_append_left _ List.mem_cons_self)
  obtain ⟨vs, hd⟩ := hf
  have hx : ObjOk X.prog X.w H1 s1.heap d (.xd [(("index" : Str), v)]) := I1.hok d _ ea
  obtain ⟨mA, hns, hr⟩ := hx
  obtain ⟨od, ho, hl⟩ := lookIn_ns hns
  have l : List.lookup ("index" : Str) [(("index" : Str), v)] = some v := by simp [List.lookup]
  obtain ⟨u, hu, ru⟩ := RelO.some_of (v := v) (o := mA "index") (by rw [← l]; exact hr "index")
  have J : PySem.W.InstAt s1.heap a oe C (some od) := ⟨ha, hz.1, by unfold PySem.W.notCls; rw [hd] <;> rfl, by rw [hz.2]; exact ho⟩
  exact HandSPX.exc_get I1.kIn J T.ga T.gg T.exC (PySem.W.findObj_own T.hdC T.noN rfl (by rw [hl, hu])) (handed_of ru) ⟨v, H1, I1.tok _, ru, q⟩
end
end Bv
set_option maxHeartbeats 0
namespace Bv
namespace k50
open PySem PySem.Spec L2 PyProof.Rows PySem.W
def top (i : Nat) : Stmt := PySem.Challenge.pw_rootsreckon_k50_code_checked.main.body.getD i (.Pass ⟨0, 0, 0, 0⟩)
def c_MOST_DEGREE : D := (.int (24))
def c_MOST_COEFFICIENT : D := (.int (10000000000000000000000000000000000000000))
def c_MOST_CODE : D := (.int (200))
def c_WRONG : D := (.int (-1))
def c_TWO : D := (.tuple [(.str "plus"), (.str "less"), (.str "by"), (.str "over")])
def ct_BadCode : Nat → Option Bool
  | 0 => some false
  | 1 => some true
  | _ => none
def is_BadText : Nat → Option Bool
  | 0 => some true
  | 1 => some false
  | _ => none
def good_index : Nat → Bool
  | 0 => true
  | 1 => true
  | _ => false
abbrev s_is_whole : Stmt := top 7
abbrev s_is_polynomial_form : Stmt := top 8
abbrev s_is_polynomial : Stmt := top 9
abbrev s_is_lower : Stmt := top 14
abbrev s_is_instruction : Stmt := top 15
abbrev s_check_code : Stmt := top 16
abbrev s_is_code : Stmt := top 17
abbrev s_Writer_init : Stmt := inClass (top 18) 0
abbrev s_Writer_told : Stmt := inClass (top 18) 1
abbrev s_Writer_write : Stmt := inClass (top 18) 2
abbrev s_Writer_write_power : Stmt := inClass (top 18) 3
abbrev s_compile_tree : Stmt := top 19
abbrev s_law_numbers : Stmt := top 21
abbrev s_law_leaf : Stmt := top 22
abbrev s_law_drawn : Stmt := top 23
abbrev s_law_refusal : Stmt := top 24
abbrev s_law : Stmt := top 25
abbrev N_is_whole : List Str := ["value"]
def g_is_whole : En → So :=
  (retE 1 (quiet (vAndQ (quiet1 (rvar 0) (gIsI .int)) (quiet1 (quiet1 (rvar 0) (gIsI .bool)) gNot))))
def m_is_whole : Fn := fnF [0] 1 0 g_is_whole
abbrev N_is_polynomial_form : List Str := ["value", "number"]
def g_is_polynomial_form : En → So :=
  (bCons (ifE (orE (quietT (notQ (tru (quiet1 (rvar 0) (gIsI .tuple))))) (notE (truE (loudN (lCons (lcE [1] (seqI (quiet (rvar 0))) (asgN 1) yesE (callE 1 m_is_whole (quietA (qCons (rvar 1) qNil)))) (quietA qNil)) gAll))))
  (retE 1 (quiet (fun _ => some (.val (.bool false)))))
  bNil)
  (retE 1 (quiet (vOrQ (quiet1 (rvar 0) gNot) (quiet2 (quiet2 (rvar 0) (quiet1 (fun _ => some (.val (.int (1)))) gNeg) gIx) (fun _ => some (.val (.int (0)))) gNe)))))
def m_is_polynomial_form : Fn := fnF [0] 1 1 g_is_polynomial_form
abbrev N_is_polynomial : List Str := ["value", "number"]
def g_is_polynomial : En → So :=
  (bCons (ifE (orE (notE (truE (callE 1 m_is_polynomial_form (quietA (qCons (rvar 0) qNil))))) (quietT (asB (quiet2 (quietN (qCons (rvar 0) qNil) gLen) (quiet2 (fun _ => some (.val c_MOST_DEGREE)) (fun _ => some (.val (.int (1)))) gAdd) gGt))))
  (retE 1 (quiet (fun _ => some (.val (.bool false)))))
  bNil)
  (retE 1 (loudN (lCons (lcE [1] (seqI (quiet (rvar 0))) (asgN 1) yesE (quiet (chainQ (quiet1 (fun _ => some (.val c_MOST_COEFFICIENT)) gNeg) (rvar 1) (fun _ => some (.val c_MOST_COEFFICIENT)) gLe gLe))) (quietA qNil)) gAll)))
def m_is_polynomial : Fn := fnF [0] 1 1 g_is_polynomial
abbrev N_is_lower : List Str := ["value", "index"]
def g_is_lower : En → So :=
  (retE 2 (vAndE (callE 1 m_is_whole (quietA (qCons (rvar 0) qNil))) (quiet (chainQ (fun _ => some (.val (.int (0)))) (rvar 0) (rvar 1) gLe gLt))))
def m_is_lower : Fn := fnF [0, 1] 2 0 g_is_lower
abbrev N_is_instruction : List Str := ["value", "index", "number", "k", "one", "p", "at", "word", "other"]
def g_is_instruction : En → So :=
  (bCons (ifE (quietT (orQ (notQ (tru (quiet1 (rvar 0) (gIsI .tuple)))) (orQ (notQ (tru (rvar 0))) (notQ (tru (quiet1 (quiet2 (rvar 0) (fun _ => some (.val (.int (0)))) gIx) (gIsI .str)))))))
  (retE 2 (quiet (fun _ => some (.val (.bool false)))))
  bNil)
  (matchE (rvar 0) (cCons (mSeq 2 (mCons (mLit (.str "whole")) (mCons (mCap 2) mNil)))
  (retE 2 (callE 1 m_is_whole (quietA (qCons (rvar 2) qNil))))
  (cCons (mSeq 3 (mCons (mLit (.str "root")) (mCons (mCap 3) (mCons (mCap 4) mNil))))
  (retE 2 (vAndE (callE 1 m_is_whole (quietA (qCons (rvar 3) qNil))) (vAndE (quiet (quiet2 (rvar 3) (dispTQ (qCons (fun _ => some (.val (.int (2)))) (qCons (fun _ => some (.val (.int (3)))) qNil))) gIn)) (callE 2 m_is_lower (quietA (qCons (rvar 4) (qCons (rvar 1) qNil)))))))
  (cCons (mSeq 3 (mCons (mLit (.str "of")) (mCons (mCap 5) (mCons (mCap 6) mNil))))
  (retE 2 (vAndE (callE 1 m_is_polynomial (quietA (qCons (rvar 5) qNil))) (vAndE (quiet (quiet2 (quietN (qCons (rvar 5) qNil) gLen) (fun _ => some (.val (.int (1)))) gGt)) (vAndE (callE 1 m_is_whole (quietA (qCons (rvar 6) qNil))) (quiet (quiet2 (rvar 6) (fun _ => some (.val (.int (0)))) gGe))))))
  (cCons (mSeq 3 (mCons (mCap 7) (mCons (mCap 4) (mCons (mCap 8) mNil))))
  (retE 2 (vAndE (quiet (quiet2 (rvar 7) (fun _ => some (.val c_TWO)) gIn)) (vAndE (callE 2 m_is_lower (quietA (qCons (rvar 4) (qCons (rvar 1) qNil)))) (callE 2 m_is_lower (quietA (qCons (rvar 8) (qCons (rvar 1) qNil)))))))
  (cCons mAny
  (retE 2 (quiet (fun _ => some (.val (.bool false)))))
  cNil)))))))
def m_is_instruction : Fn := fnF [0, 1] 2 7 g_is_instruction
abbrev N_check_code : List Str := ["value", "index", "own"]
def g_check_code : En → So :=
  (bCons (ifE (quietT (orQ (notQ (tru (quiet1 (rvar 0) (gIsI .list)))) (notQ (asB (chainQ (fun _ => some (.val (.int (1)))) (quietN (qCons (rvar 0) qNil) gLen) (fun _ => some (.val c_MOST_CODE)) gLe gLe)))))
  (raiseE 1 (quietA (qCons (fun _ => some (.val c_WRONG)) qNil)))
  bNil)
  (forE (enumI (quietA (qCons (rvar 0) qNil))) (asgT 2 (asgCons (asgN 1) (asgCons (asgN 2) asgNil)))
  (ifE (notE (truE (callE 2 m_is_instruction (quietA (qCons (rvar 2) (qCons (rvar 1) qNil))))))
  (raiseE 1 (quietA (qCons (rvar 1) qNil)))
  bNil)))
def m_check_code : Fn := fnF [0] 1 2 g_check_code
abbrev N_is_code : List Str := ["value"]
def g_is_code : En → So :=
  (bCons (tryE (dropE (callE 1 m_check_code (quietA (qCons (rvar 0) qNil)))) ct_BadCode (fun _ _ => (retE 1 (quiet (fun _ => some (.val (.bool false)))))))
  (retE 1 (quiet (fun _ => some (.val (.bool true))))))
def m_is_code : Fn := fnF [0] 1 0 g_is_code
abbrev N_Writer_init : List Str := ["self"]
def g_Writer_init : En → So :=
  (bCons (fldE 0 0 (quiet (dispLQ qNil)) (rvar 0))
  (fldE 0 1 (fun e => .ok (.fr (.dict [mark])) e) (rvar 0)))
def m_Writer_init : Fn := fnF [0] 1 0 g_Writer_init
abbrev N_Writer_told : List Str := ["self", "instruction"]
def g_Writer_told : En → So :=
  (bCons (ifE (quietT (asB (quiet2 (rvar 1) (rfld 0 1 (rvar 0)) (gInN true))))
  (bCons (subE gSetN (quiet (quietN (qCons (rfld 0 0 (rvar 0)) qNil) gLen)) (rfld 0 1 (rvar 0)) (rvar 1))
  (dropE (mtQE gAppend (rfld 0 0 (rvar 0)) (qCons (rvar 1) qNil))))
  bNil)
  (retE 2 (quiet (quiet2 (rfld 0 1 (rvar 0)) (rvar 1) gIxN))))
def m_Writer_told : Fn := fnF [0, 1] 2 0 g_Writer_told
abbrev N_Writer_write : List Str := ["self", "tree", "number", "p", "at", "inner", "times", "k", "word", "one", "other", "left"]
def g_Writer_write (r : Nat → Fn) : En → So :=
  (matchE (rvar 1) (cCons (mSeq 2 (mCons (mLit (.str "whole")) (mCons (mCap 2) mNil)))
  (retE 2 (methE 0 2 m_Writer_told (quiet (rvar 0)) (quietA (qCons (dispTQ (qCons (fun _ => some (.val (.str "whole"))) (qCons (rvar 2) qNil))) qNil))))
  (cCons (mSeq 3 (mCons (mLit (.str "of")) (mCons (mCap 3) (mCons (mCap 4) mNil))))
  (retE 2 (methE 0 2 m_Writer_told (quiet (rvar 0)) (quietA (qCons (dispTQ (qCons (fun _ => some (.val (.str "of"))) (qCons (rvar 3) (qCons (rvar 4) qNil)))) qNil))))
  (cCons (mSeq 2 (mCons (mLit (.str "minus")) (mCons (mCap 5) mNil)))
  (retE 2 (methE 0 2 (r 0) (quiet (rvar 0)) (quietA (qCons (dispTQ (qCons (fun _ => some (.val (.str "less"))) (qCons (dispTQ (qCons (fun _ => some (.val (.str "whole"))) (qCons (fun _ => some (.val (.int (0)))) qNil))) (qCons (rvar 5) qNil)))) qNil))))
  (cCons (mSeq 3 (mCons (mLit (.str "power")) (mCons (mCap 5) (mCons (mCap 6) mNil))))
  (retE 2 (methE 0 3 (r 1) (quiet (rvar 0)) (quietA (qCons (rvar 5) (qCons (rvar 6) qNil)))))
  (cCons (mSeq 3 (mCons (mLit (.str "root")) (mCons (mCap 7) (mCons (mCap 5) mNil))))
  (retE 2 (methE 0 2 m_Writer_told (quiet (rvar 0)) (lCons (dispTE (lCons (quiet (fun _ => some (.val (.str "root")))) (lCons (quiet (rvar 7)) (lCons (methE 0 2 (r 0) (quiet (rvar 0)) (quietA (qCons (rvar 5) qNil))) (quietA qNil))))) (quietA qNil))))
  (cCons (mSeq 3 (mCons (mCap 8) (mCons (mCap 9) (mCons (mCap 10) mNil))))
  (bCons (setE 11 (methE 0 2 (r 0) (quiet (rvar 0)) (quietA (qCons (rvar 9) qNil))))
  (retE 2 (methE 0 2 m_Writer_told (quiet (rvar 0)) (lCons (dispTE (lCons (quiet (rvar 8)) (lCons (quiet (rvar 11)) (lCons (methE 0 2 (r 0) (quiet (rvar 0)) (quietA (qCons (rvar 10) qNil))) (quietA qNil))))) (quietA qNil)))))
  (cCons mAny
  (retE 2 (quiet (fun _ => some (.val c_WRONG))))
  cNil))))))))
abbrev N_Writer_write_power : List Str := ["self", "inner", "times", "own", "found", "_"]
def g_Writer_write_power (r : Nat → Fn) : En → So :=
  (bCons (setE 3 (methE 0 2 (r 0) (quiet (rvar 0)) (quietA (qCons (rvar 1) qNil))))
  (bCons (ifE (quietT (asB (quiet2 (rvar 2) (fun _ => some (.val (.int (0)))) gEq)))
  (retE 3 (methE 0 2 m_Writer_told (quiet (rvar 0)) (quietA (qCons (dispTQ (qCons (fun _ => some (.val (.str "whole"))) (qCons (fun _ => some (.val (.int (1)))) qNil))) qNil))))
  bNil)
  (bCons (setE 4 (quiet (rvar 3)))
  (bCons (forE (rng1I (quietA (qCons (quiet2 (rvar 2) (fun _ => some (.val (.int (1)))) gSub) qNil))) (asgN 5)
  (setE 4 (methE 0 2 m_Writer_told (quiet (rvar 0)) (quietA (qCons (dispTQ (qCons (fun _ => some (.val (.str "by"))) (qCons (rvar 4) (qCons (rvar 3) qNil)))) qNil)))))
  (retE 3 (quiet (rvar 4)))))))
def rec_9 : Nat → Nat → Fn
  | 0, _ => fun _ => .bad
  | j + 1, 0 => fnF [0, 1] 2 10 (g_Writer_write (rec_9 j))
  | j + 1, _ => fnF [0, 1, 2] 3 3 (g_Writer_write_power (rec_9 j))
abbrev m_Writer_write (j : Nat) : Fn := rec_9 j 0
abbrev m_Writer_write_power (j : Nat) : Fn := rec_9 j 1
abbrev N_compile_tree : List Str := ["tree", "writer", "last", "zero"]
def g_compile_tree : En → So :=
  (bCons (setE 1 (newE 0 0 m_Writer_init lNil))
  (bCons (setE 2 (methE 0 2 (m_Writer_write 12) (quiet (rvar 1)) (quietA (qCons (rvar 0) qNil))))
  (bCons (ifE (quietT (asB (quiet2 (quiet2 (rvar 2) (fun _ => some (.val (.int (1)))) gAdd) (quietN (qCons (rfld 0 0 (rvar 1)) qNil) gLen) gLt)))
  (bCons (setE 3 (methE 0 2 m_Writer_told (quiet (rvar 1)) (quietA (qCons (dispTQ (qCons (fun _ => some (.val (.str "whole"))) (qCons (fun _ => some (.val (.int (0)))) qNil))) qNil))))
  (dropE (mtQE gAppend (rfld 0 0 (rvar 1)) (qCons (dispTQ (qCons (fun _ => some (.val (.str "plus"))) (qCons (rvar 2) (qCons (rvar 3) qNil)))) qNil))))
  bNil)
  (retE 1 (quiet (quietN (qCons (rfld 0 0 (rvar 1)) qNil) gList))))))
def m_compile_tree : Fn := fnF [0] 1 3 g_compile_tree
abbrev N_law_numbers : List Str := ["script", "at", "many", "cell", "numbers", "k", "mixed"]
def g_law_numbers : En → So :=
  (bCons (setE 3 (quiet (quiet2 (fun _ => some (.val (.int (1000003)))) (quiet2 (rvar 1) (fun _ => some (.val (.int (1)))) gAdd) gMul)))
  (bCons (ifE (quietT (asB (quiet2 (rvar 1) (quietN (qCons (rvar 0) qNil) gLen) gLt)))
  (setE 3 (quiet (quietN (qCons (quiet2 (rvar 0) (rvar 1) gIx) qNil) gInt)))
  bNil)
  (bCons (ifE (quietT (asB (quiet2 (rvar 3) (fun _ => some (.val (.int (0)))) gLt)))
  (setE 3 (quiet (quiet2 (fun _ => some (.val (.int (1)))) (quiet2 (fun _ => some (.val (.int (2)))) (rvar 3) gMul) gSub)))
  bNil)
  (bCons (setE 4 (quiet (dispLQ qNil)))
  (bCons (forE (rng1I (quietA (qCons (rvar 2) qNil))) (asgN 5)
  (ifE (quietT (asB (quiet2 (rvar 3) (quiet2 (fun _ => some (.val (.int (10)))) (fun _ => some (.val (.int (18)))) gPow) gGe)))
  (bCons (dropE (mtQE gAppend (rvar 4) (qCons (quiet2 (rvar 3) (fun _ => some (.val (.int (1009)))) gMod) qNil)))
  (setE 3 (quiet (quiet2 (rvar 3) (fun _ => some (.val (.int (1009)))) gDiv))))
  (bCons (setE 6 (quiet (quiet2 (quiet2 (quiet2 (quiet2 (rvar 3) (fun _ => some (.val (.int (48271)))) gMul) (quiet2 (quiet2 (rvar 5) (fun _ => some (.val (.int (1)))) gAdd) (fun _ => some (.val (.int (69621)))) gMul) gAdd) (quiet2 (rvar 1) (fun _ => some (.val (.int (4001)))) gMul) gAdd) (fun _ => some (.val (.int (2147483647)))) gMod)))
  (bCons (setE 6 (quiet (quiet2 (quiet2 (quiet2 (rvar 6) (rvar 6) gMul) (quiet2 (fun _ => some (.val (.int (16807)))) (quiet2 (rvar 5) (fun _ => some (.val (.int (3)))) gAdd) gMul) gAdd) (fun _ => some (.val (.int (2147483629)))) gMod)))
  (dropE (mtQE gAppend (rvar 4) (qCons (quiet2 (quiet2 (rvar 6) (fun _ => some (.val (.int (7)))) gDiv) (fun _ => some (.val (.int (1009)))) gMod) qNil)))))))
  (retE 3 (quiet (rvar 4))))))))
def m_law_numbers : Fn := fnF [0, 1, 2] 3 4 g_law_numbers
abbrev N_law_leaf : List Str := ["n", "first", "number", "kind"]
def g_law_leaf : En → So :=
  (bCons (setE 2 (quiet (quiet2 (rvar 0) (fun _ => some (.val (.int (1)))) gIx)))
  (bCons (setE 3 (quiet (quiet2 (quiet2 (rvar 0) (fun _ => some (.val (.int (0)))) gIx) (fun _ => some (.val (.int (6)))) gMod)))
  (bCons (ifE (quietT (asB (quiet2 (rvar 3) (fun _ => some (.val (.int (0)))) gEq)))
  (retE 2 (quiet (dispTQ (qCons (fun _ => some (.val (.str "whole"))) (qCons (quiet2 (quiet2 (rvar 2) (fun _ => some (.val (.int (19)))) gMod) (fun _ => some (.val (.int (9)))) gSub) qNil)))))
  bNil)
  (bCons (ifE (quietT (asB (quiet2 (rvar 3) (fun _ => some (.val (.int (1)))) gEq)))
  (retE 2 (quiet (dispTQ (qCons (fun _ => some (.val (.str "root"))) (qCons (fun _ => some (.val (.int (2)))) (qCons (dispTQ (qCons (fun _ => some (.val (.str "whole"))) (qCons (quiet2 (rvar 2) (fun _ => some (.val (.int (30)))) gMod) qNil))) qNil))))))
  bNil)
  (bCons (ifE (quietT (asB (quiet2 (rvar 3) (fun _ => some (.val (.int (2)))) gEq)))
  (retE 2 (quiet (dispTQ (qCons (fun _ => some (.val (.str "of"))) (qCons (dispTQ (qCons (quiet2 (quiet1 (fun _ => some (.val (.int (1)))) gNeg) (quiet2 (rvar 2) (fun _ => some (.val (.int (12)))) gMod) gSub) (qCons (fun _ => some (.val (.int (0)))) (qCons (fun _ => some (.val (.int (1)))) qNil)))) (qCons (quiet2 (quiet2 (rvar 0) (fun _ => some (.val (.int (2)))) gIx) (fun _ => some (.val (.int (2)))) gMod) qNil))))))
  bNil)
  (bCons (ifE (quietT (andQ (asB (quiet2 (rvar 3) (fun _ => some (.val (.int (3)))) gEq)) (tru (rvar 1))))
  (retE 2 (quiet (dispTQ (qCons (fun _ => some (.val (.str "root"))) (qCons (fun _ => some (.val (.int (3)))) (qCons (dispTQ (qCons (fun _ => some (.val (.str "whole"))) (qCons (quiet2 (quiet2 (rvar 2) (fun _ => some (.val (.int (21)))) gMod) (fun _ => some (.val (.int (10)))) gSub) qNil))) qNil))))))
  bNil)
  (bCons (ifE (quietT (asB (quiet2 (rvar 3) (fun _ => some (.val (.int (4)))) gEq)))
  (retE 2 (quiet (dispTQ (qCons (fun _ => some (.val (.str "minus"))) (qCons (dispTQ (qCons (fun _ => some (.val (.str "root"))) (qCons (fun _ => some (.val (.int (2)))) (qCons (dispTQ (qCons (fun _ => some (.val (.str "whole"))) (qCons (quiet2 (fun _ => some (.val (.int (2)))) (quiet2 (rvar 2) (fun _ => some (.val (.int (7)))) gMod) gAdd) qNil))) qNil)))) qNil)))))
  bNil)
  (retE 2 (quiet (dispTQ (qCons (fun _ => some (.val (.str "of"))) (qCons (dispTQ (qCons (quiet2 (quiet1 (fun _ => some (.val (.int (1)))) gNeg) (quiet2 (rvar 2) (fun _ => some (.val (.int (3)))) gMod) gSub) (qCons (quiet1 (fun _ => some (.val (.int (1)))) gNeg) (qCons (fun _ => some (.val (.int (1)))) qNil)))) (qCons (quiet2 (quiet2 (rvar 0) (fun _ => some (.val (.int (2)))) gIx) (fun _ => some (.val (.int (2)))) gMod) qNil)))))))))))))
def m_law_leaf : Fn := fnF [0, 1] 2 2 g_law_leaf
abbrev N_law_drawn : List Str := ["script", "at", "n", "tree", "j", "own", "other", "word"]
def g_law_drawn : En → So :=
  (bCons (setE 2 (callE 3 m_law_numbers (quietA (qCons (rvar 0) (qCons (rvar 1) (qCons (fun _ => some (.val (.int (24)))) qNil))))))
  (bCons (setE 3 (callE 2 m_law_leaf (quietA (qCons (sliceQ (rvar 2) (someO (fun _ => some (.val (.int (1))))) noO) (qCons (fun _ => some (.val (.bool true))) qNil)))))
  (bCons (forE (rng1I (quietA (qCons (quiet2 (fun _ => some (.val (.int (1)))) (quiet2 (quiet2 (rvar 2) (fun _ => some (.val (.int (0)))) gIx) (fun _ => some (.val (.int (2)))) gMod) gAdd) qNil))) (asgN 4)
  (bCons (setE 5 (quiet (sliceQ (rvar 2) (someO (quiet2 (fun _ => some (.val (.int (5)))) (quiet2 (fun _ => some (.val (.int (6)))) (rvar 4) gMul) gAdd)) (someO (quiet2 (fun _ => some (.val (.int (11)))) (quiet2 (fun _ => some (.val (.int (6)))) (rvar 4) gMul) gAdd)))))
  (bCons (setE 6 (callE 2 m_law_leaf (quietA (qCons (sliceQ (rvar 5) (someO (fun _ => some (.val (.int (1))))) noO) (qCons (fun _ => some (.val (.bool false))) qNil)))))
  (bCons (setE 7 (quiet (quiet2 (dispLQ (qCons (fun _ => some (.val (.str "plus"))) (qCons (fun _ => some (.val (.str "less"))) (qCons (fun _ => some (.val (.str "by"))) (qCons (fun _ => some (.val (.str "over"))) qNil))))) (quiet2 (quiet2 (rvar 5) (fun _ => some (.val (.int (0)))) gIx) (fun _ => some (.val (.int (4)))) gMod) gIx)))
  (bCons (ifE (quietT (asB (quiet2 (quiet2 (quiet2 (rvar 5) (fun _ => some (.val (.int (4)))) gIx) (fun _ => some (.val (.int (3)))) gMod) (fun _ => some (.val (.int (0)))) gEq)))
  (parE 3 6 (quietA (qCons (rvar 6) (qCons (rvar 3) qNil))))
  bNil)
  (setE 3 (quiet (dispTQ (qCons (rvar 7) (qCons (rvar 3) (qCons (rvar 6) qNil)))))))))))
  (bCons (ifE (quietT (asB (quiet2 (quiet2 (quiet2 (rvar 2) (fun _ => some (.val (.int (18)))) gIx) (fun _ => some (.val (.int (5)))) gMod) (fun _ => some (.val (.int (0)))) gEq)))
  (setE 3 (quiet (dispTQ (qCons (fun _ => some (.val (.str "root"))) (qCons (fun _ => some (.val (.int (2)))) (qCons (dispTQ (qCons (fun _ => some (.val (.str "by"))) (qCons (rvar 3) (qCons (rvar 3) qNil)))) qNil))))))
  bNil)
  (bCons (ifE (quietT (asB (quiet2 (quiet2 (quiet2 (rvar 2) (fun _ => some (.val (.int (18)))) gIx) (fun _ => some (.val (.int (5)))) gMod) (fun _ => some (.val (.int (1)))) gEq)))
  (setE 3 (quiet (dispTQ (qCons (fun _ => some (.val (.str "power"))) (qCons (rvar 3) (qCons (quiet2 (quiet2 (rvar 2) (fun _ => some (.val (.int (19)))) gIx) (fun _ => some (.val (.int (4)))) gMod) qNil))))))
  bNil)
  (retE 2 (quiet (rvar 3))))))))
def m_law_drawn : Fn := fnF [0, 1] 2 6 g_law_drawn
abbrev N_law_refusal : List Str := ["value", "e"]
def g_law_refusal : En → So :=
  (bCons (tryAsE 1 (dropE (callE 1 m_check_code (quietA (qCons (rvar 0) qNil)))) ct_BadCode (isXE is_BadText (retE 1 (quiet (fun _ => some (.val (.str "mixed"))))) (fun c d e => match good_index c with | true => retX c d e | false => .bad)))
  (retE 1 (quiet (fun _ => some (.val .none)))))
def m_law_refusal : Fn := fnF [0] 1 1 g_law_refusal
abbrev N_law : List Str := ["script", "numbers", "at", "code", "k", "halves", "odd", "value"]
def g_law : En → So :=
  (bCons (setE 1 (callE 3 m_law_numbers (quietA (qCons (rvar 0) (qCons (fun _ => some (.val (.int (3)))) (qCons (fun _ => some (.val (.int (4)))) qNil))))))
  (bCons (forE (seqI (quiet (dispLQ (qCons (fun _ => some (.val (.int (0)))) (qCons (fun _ => some (.val (.int (1)))) (qCons (fun _ => some (.val (.int (2)))) qNil)))))) (asgN 2)
  (bCons (setE 3 (callE 1 m_compile_tree (lCons (callE 2 m_law_drawn (quietA (qCons (rvar 0) (qCons (rvar 2) qNil)))) (quietA qNil))))
  (bCons (ifE (orE (asBE (loud2 (callE 1 m_law_refusal (quietA (qCons (rvar 3) qNil))) (quiet (fun _ => some (.val .none))) gIsNot)) (asBE (loud2 (callE 1 m_is_code (quietA (qCons (rvar 3) qNil))) (quiet (fun _ => some (.val (.bool true)))) gIsNotB)))
  (retE 1 (quiet (fun _ => some (.val (.bool false)))))
  bNil)
  (bCons (setE 4 (quiet (quiet2 (quiet2 (rvar 1) (rvar 2) gIx) (quietN (qCons (rvar 3) qNil) gLen) gMod)))
  (bCons (setE 5 (quiet (dispLQ (qCons (fun _ => some (.val .none)) (qCons (dispTQ qNil) (qCons (fun _ => some (.val (.str "whole"))) (qCons (dispTQ (qCons (fun _ => some (.val (.str "whole"))) qNil)) (qCons (dispTQ (qCons (fun _ => some (.val (.str "whole"))) (qCons (fun _ => some (.val .none)) qNil))) (qCons (dispTQ (qCons (fun _ => some (.val (.str "whole"))) (qCons (fun _ => some (.val (.bool true))) qNil))) (qCons (dispLQ (qCons (fun _ => some (.val (.str "whole"))) (qCons (fun _ => some (.val (.int (1)))) qNil))) (qCons (dispTQ (qCons (fun _ => some (.val (.str "plus"))) (qCons (fun _ => some (.val (.int (0)))) (qCons (rvar 4) qNil)))) (qCons (dispTQ (qCons (fun _ => some (.val (.str "by"))) (qCons (rvar 4) (qCons (fun _ => some (.val (.int (0)))) qNil)))) qNil))))))))))))
  (bCons (forE (seqI (quiet (quiet2 (rvar 5) (dispLQ (qCons (dispTQ (qCons (fun _ => some (.val (.str "less"))) (qCons (quiet1 (fun _ => some (.val (.int (1)))) gNeg) (qCons (fun _ => some (.val (.int (0)))) qNil)))) (qCons (dispTQ (qCons (fun _ => some (.val (.str "over"))) (qCons (fun _ => some (.val (.int (0)))) (qCons (fun _ => some (.val .none)) qNil)))) (qCons (dispTQ (qCons (fun _ => some (.val (.str "plus"))) (qCons (fun _ => some (.val (.int (0)))) qNil))) (qCons (dispTQ (qCons (fun _ => some (.val (.str "times"))) (qCons (fun _ => some (.val (.int (0)))) (qCons (fun _ => some (.val (.int (0)))) qNil)))) (qCons (dispTQ (qCons (fun _ => some (.val (.str "root"))) (qCons (fun _ => some (.val (.int (4)))) (qCons (fun _ => some (.val (.int (0)))) qNil)))) (qCons (dispTQ (qCons (fun _ => some (.val (.str "root"))) (qCons (fun _ => some (.val (.int (2)))) (qCons (rvar 4) qNil)))) (qCons (dispTQ (qCons (fun _ => some (.val (.str "root"))) (qCons (fun _ => some (.val (.bool true))) (qCons (fun _ => some (.val (.int (0)))) qNil)))) (qCons (dispTQ (qCons (fun _ => some (.val (.str "root"))) (qCons (fun _ => some (.val (.int (2)))) qNil))) qNil))))))))) gAdd))) (asgN 6)
  (bCons (setE 7 (quiet (quiet2 (quiet2 (sliceQ (rvar 3) noO (someO (rvar 4))) (dispLQ (qCons (rvar 6) qNil)) gAdd) (sliceQ (rvar 3) (someO (quiet2 (rvar 4) (fun _ => some (.val (.int (1)))) gAdd)) noO) gAdd)))
  (ifE (orE (asBE (loud2 (callE 1 m_law_refusal (quietA (qCons (rvar 7) qNil))) (quiet (rvar 4)) gNe)) (asBE (loud2 (callE 1 m_is_code (quietA (qCons (rvar 7) qNil))) (quiet (fun _ => some (.val (.bool false)))) gIsNotB)))
  (retE 1 (quiet (fun _ => some (.val (.bool false)))))
  bNil)))
  (forE (seqI (quiet (dispLQ (qCons (dispTQ (qCons (fun _ => some (.val (.str "of"))) (qCons (dispTQ qNil) (qCons (fun _ => some (.val (.int (0)))) qNil)))) (qCons (dispTQ (qCons (fun _ => some (.val (.str "of"))) (qCons (dispTQ (qCons (fun _ => some (.val (.int (5)))) qNil)) (qCons (fun _ => some (.val (.int (0)))) qNil)))) (qCons (dispTQ (qCons (fun _ => some (.val (.str "of"))) (qCons (dispTQ (qCons (fun _ => some (.val (.int (1)))) (qCons (fun _ => some (.val (.int (0)))) qNil))) (qCons (fun _ => some (.val (.int (0)))) qNil)))) (qCons (dispTQ (qCons (fun _ => some (.val (.str "of"))) (qCons (dispLQ (qCons (fun _ => some (.val (.int (1)))) (qCons (fun _ => some (.val (.int (1)))) qNil))) (qCons (fun _ => some (.val (.int (0)))) qNil)))) (qCons (dispTQ (qCons (fun _ => some (.val (.str "of"))) (qCons (dispTQ (qCons (fun _ => some (.val (.int (0)))) (qCons (fun _ => some (.val (.int (1)))) qNil))) (qCons (quiet1 (fun _ => some (.val (.int (1)))) gNeg) qNil)))) (qCons (dispTQ (qCons (fun _ => some (.val (.str "of"))) (qCons (dispTQ (qCons (fun _ => some (.val (.int (0)))) (qCons (fun _ => some (.val (.int (1)))) qNil))) (qCons (fun _ => some (.val .none)) qNil)))) (qCons (dispTQ (qCons (fun _ => some (.val (.str "of"))) (qCons (dispTQ (qCons (fun _ => some (.val (.int (0)))) (qCons (fun _ => some (.val (.int (1)))) qNil))) qNil))) (qCons (dispTQ (qCons (fun _ => some (.val (.str "of"))) (qCons (dispTQ (qCons (fun _ => some (.val (.bool true))) (qCons (fun _ => some (.val (.int (1)))) qNil))) (qCons (fun _ => some (.val (.int (0)))) qNil)))) (qCons (dispTQ (qCons (fun _ => some (.val .none)) (qCons (fun _ => some (.val (.int (0)))) (qCons (fun _ => some (.val (.int (0)))) qNil)))) qNil)))))))))))) (asgN 6)
  (ifE (asBE (loud2 (callE 1 m_law_refusal (quietA (qCons (quiet2 (quiet2 (sliceQ (rvar 3) noO (someO (rvar 4))) (dispLQ (qCons (rvar 6) qNil)) gAdd) (dispLQ (qCons (fun _ => some (.val .none)) qNil)) gAdd) qNil))) (quiet (rvar 4)) gNe))
  (retE 1 (quiet (fun _ => some (.val (.bool false)))))
  bNil))))))))
  (bCons (forE (seqI (quiet (dispLQ (qCons (fun _ => some (.val .none)) (qCons (dispLQ qNil) (qCons (dispTQ qNil) (qCons (quietN (qCons (rvar 3) qNil) gTuple) (qCons (quiet2 (dispLQ (qCons (dispTQ (qCons (fun _ => some (.val (.str "whole"))) (qCons (fun _ => some (.val (.int (1)))) qNil))) qNil)) (fun _ => some (.val (.int (201)))) gMul) (qCons (fun _ => some (.val (.str "a"))) qNil))))))))) (asgN 6)
  (ifE (orE (asBE (loud2 (callE 1 m_law_refusal (quietA (qCons (rvar 6) qNil))) (quiet (quiet1 (fun _ => some (.val (.int (1)))) gNeg)) gNe)) (asBE (loud2 (callE 1 m_is_code (quietA (qCons (rvar 6) qNil))) (quiet (fun _ => some (.val (.bool false)))) gIsNotB)))
  (retE 1 (quiet (fun _ => some (.val (.bool false)))))
  bNil))
  (retE 1 (vAndE (loud2 (callE 1 m_law_refusal (quietA (qCons (quiet2 (dispLQ (qCons (dispTQ (qCons (fun _ => some (.val (.str "whole"))) (qCons (fun _ => some (.val (.int (1)))) qNil))) qNil)) (fun _ => some (.val (.int (200)))) gMul) qNil))) (quiet (fun _ => some (.val .none))) gIs) (loud2 (callE 1 m_law_refusal (quietA (qCons (dispLQ (qCons (dispTQ (qCons (fun _ => some (.val (.str "whole"))) (qCons (quiet2 (fun _ => some (.val (.int (10)))) (fun _ => some (.val (.int (50)))) gPow) qNil))) (qCons (dispTQ (qCons (fun _ => some (.val (.str "plus"))) (qCons (fun _ => some (.val (.int (0)))) (qCons (fun _ => some (.val (.int (0)))) qNil)))) qNil))) qNil))) (quiet (fun _ => some (.val .none))) gIs))))))
def m_law : Fn := fnF [0] 1 7 g_law
abbrev MM (w : World) (K : PySem.W.Frag) (C0 X0 X1 : Addr) : Mx := ⟨w, K, fun c => match c with | 0 => C0 | _ => 0, fun c => match c with | 0 => ["code", "known"] | _ => [], fun c => match c with | 0 => X0 | 1 => X1 | _ => 0, fun c => match c with | 0 => "index" | 1 => "index" | _ => ""⟩
structure Tx (w : World) (K : PySem.W.Frag) (mg : Str → Option Value) (C0 X0 X1 I0 I1 : Addr) : Prop where
  b_all : mg "all" = none
  b_bool : mg "bool" = none
  b_enumerate : mg "enumerate" = none
  b_int : mg "int" = none
  b_isinstance : mg "isinstance" = none
  b_len : mg "len" = none
  b_list : mg "list" = none
  b_range : mg "range" = none
  b_str : mg "str" = none
  b_tuple : mg "tuple" = none
  c_MOST_DEGREE : GlobD (MM w K C0 X0 X1) mg "MOST_DEGREE" c_MOST_DEGREE
  c_MOST_COEFFICIENT : GlobD (MM w K C0 X0 X1) mg "MOST_COEFFICIENT" c_MOST_COEFFICIENT
  c_MOST_CODE : GlobD (MM w K C0 X0 X1) mg "MOST_CODE" c_MOST_CODE
  c_WRONG : GlobD (MM w K C0 X0 X1) mg "WRONG" c_WRONG
  c_TWO : GlobD (MM w K C0 X0 X1) mg "TWO" c_TWO
  k_Writer : ClIn (MM w K C0 X0 X1) K 0
  x_BadText : PySem.Exindex.Txt K mg "BadText" "BadText.__init__" X0 I0
  x_BadCode : PySem.Exindex.Txt K mg "BadCode" "BadCode.__init__" X1 I1
  g_BadCode : mg "BadCode" = some (.ref X1)
  g_BadText : mg "BadText" = some (.ref X0)
  ct_BadCode : ∀ c b, ct_BadCode c = some b → PySem.W.exmOne K (.ref ((MM w K C0 X0 X1).xc c)) (.ref X1) = some b
  is_BadText : ∀ c b, is_BadText c = some b → XsC (MM w K C0 X0 X1) K ((MM w K C0 X0 X1).xc c) ∧ PySem.W.kitOne K (.ref ((MM w K C0 X0 X1).xc c)) (.ref X0) = some b
section
variable {P : Program} {w : World} {K : PySem.W.Frag} {mg : Str → Option Value} {base : Heap} {C0 X0 X1 I0 I1 : Addr}
theorem sc_is_whole : FnScope N_is_whole ["value"] (defScope s_is_whole) := ⟨rfl, rfl, rfl, by decide +kernel, rfl, by decide +kernel, by decide +kernel⟩
theorem ok_is_whole {f : Addr} {fd : FuncData} (Fn : Fun K "is_whole" "is_whole" s_is_whole f fd) (T : Tx w K mg C0 X0 X1 I0 I1)  : FnOk P w K mg base (L2.CX P w) (0 + 1) f fd ["value"] (spF (MM w K C0 X0 X1) 1 m_is_whole) :=
  fn_body Fn sc_is_whole rfl rfl fun cdv A outer s H E hr => by
  have fit := fit_of (M := MM w K C0 X0 X1) (P := P) (mg := mg) (base := base) (outer := outer) (H := H) (E := E) rfl rfl sc_is_whole.nd hr
  have tk := takes_cx (P := P) (w := w) (K := K) (mg := mg) (base := base) (N := N_is_whole) (qual := "is_whole") (scope := defScope s_is_whole) (f := f) (cdv := cdv) (A := A) (outer := outer) (s := s) (H := H) (E := E)
  have pw := passes_cx (P := P) (w := w) (K := K) (mg := mg) (base := base) (N := N_is_whole) (qual := "is_whole") (scope := defScope s_is_whole) (f := f) (cdv := cdv) (A := A) (outer := outer) (s := s) (H := H) (E := E)
  exact (sb_one (ss_ret 1 (SQ.se (sq_and fit (sq_isi .int fit (sq_var 0) (by decide +kernel) T.b_isinstance T.b_int) (sq_one (sq_not fit (sq_isi .bool fit (sq_var 0) (by decide +kernel) T.b_isinstance T.b_bool)))))))
theorem sc_is_polynomial_form : FnScope N_is_polynomial_form ["value"] (defScope s_is_polynomial_form) := ⟨rfl, rfl, rfl, by decide +kernel, rfl, by decide +kernel, by decide +kernel⟩
theorem ok_is_polynomial_form {f : Addr} {fd : FuncData} (Fn : Fun K "is_polynomial_form" "is_polynomial_form" s_is_polynomial_form f fd) (T : Tx w K mg C0 X0 X1 I0 I1) (h_is_whole : FnIn (MM w K C0 X0 X1) P w K mg base 1 1 "is_whole" m_is_whole) : FnOk P w K mg base (L2.CX P w) (1 + 1) f fd ["value"] (spF (MM w K C0 X0 X1) 1 m_is_polynomial_form) :=
  fn_body Fn sc_is_polynomial_form rfl rfl fun cdv A outer s H E hr => by
  have fit := fit_of (M := MM w K C0 X0 X1) (P := P) (mg := mg) (base := base) (outer := outer) (H := H) (E := E) rfl rfl sc_is_polynomial_form.nd hr
  have tk := takes_cx (P := P) (w := w) (K := K) (mg := mg) (base := base) (N := N_is_polynomial_form) (qual := "is_polynomial_form") (scope := defScope s_is_polynomial_form) (f := f) (cdv := cdv) (A := A) (outer := outer) (s := s) (H := H) (E := E)
  have pw := passes_cx (P := P) (w := w) (K := K) (mg := mg) (base := base) (N := N_is_polynomial_form) (qual := "is_polynomial_form") (scope := defScope s_is_polynomial_form) (f := f) (cdv := cdv) (A := A) (outer := outer) (s := s) (H := H) (E := E)
  exact (sb_cons (ss_if (WT.st (wt_or (TQ.st (tq_not (tq_val fit (sq_isi .tuple fit (sq_var 0) (by decide +kernel) T.b_isinstance T.b_tuple)))) (wt_or1 (st_not (st_val fit (se_callB (cr_allA fit) o_all T.b_all (ae_cons (se_lc fit (si_seq fit (SQ.se (sq_var 0))) (blkOk_by (own := [("number", 1)]) (N := N_is_polynomial_form) (sc := defScope s_is_polynomial_form) (by decide +kernel)) rfl (fun _ _ _ _ _ => (gt_name 1 (fit_blk fit))) (fun _ _ _ _ _ => sif_nil) (fun _ _ _ _ _ => (se_call takes0 h_is_whole (hr.mono (by decide)) (AQ.ae (aq_cons (sq_var 1) aq_nil))))) (AQ.ae aq_nil))))))))
  (sb_one (ss_ret 1 (SQ.se sq_bl)))
  sb_nil)
  (sb_one (ss_ret 1 (SQ.se (sq_or fit (sq_not fit (sq_var 0)) (sq_one (sq_cmp (op_neA fit) o_ne (sq_ix (ix_A fit) o_ix (sq_var 0) (sq_un un_neg o_neg sq_int)) sq_int)))))))
theorem sc_is_polynomial : FnScope N_is_polynomial ["value"] (defScope s_is_polynomial) := ⟨rfl, rfl, rfl, by decide +kernel, rfl, by decide +kernel, by decide +kernel⟩
theorem ok_is_polynomial {f : Addr} {fd : FuncData} (Fn : Fun K "is_polynomial" "is_polynomial" s_is_polynomial f fd) (T : Tx w K mg C0 X0 X1 I0 I1) (h_is_polynomial_form : FnIn (MM w K C0 X0 X1) P w K mg base 2 1 "is_polynomial_form" m_is_polynomial_form) : FnOk P w K mg base (L2.CX P w) (2 + 1) f fd ["value"] (spF (MM w K C0 X0 X1) 1 m_is_polynomial) :=
  fn_body Fn sc_is_polynomial rfl rfl fun cdv A outer s H E hr => by
  have fit := fit_of (M := MM w K C0 X0 X1) (P := P) (mg := mg) (base := base) (outer := outer) (H := H) (E := E) rfl rfl sc_is_polynomial.nd hr
  have tk := takes_cx (P := P) (w := w) (K := K) (mg := mg) (base := base) (N := N_is_polynomial) (qual := "is_polynomial") (scope := defScope s_is_polynomial) (f := f) (cdv := cdv) (A := A) (outer := outer) (s := s) (H := H) (E := E)
  have pw := passes_cx (P := P) (w := w) (K := K) (mg := mg) (base := base) (N := N_is_polynomial) (qual := "is_polynomial") (scope := defScope s_is_polynomial) (f := f) (cdv := cdv) (A := A) (outer := outer) (s := s) (H := H) (E := E)
  exact (sb_cons (ss_if (WT.st (wt_or (st_not (st_val fit (se_call tk h_is_polynomial_form (hr.mono (by decide)) (AQ.ae (aq_cons (sq_var 0) aq_nil))))) (wt_or1 (TQ.st (tq_cmp op_gt o_gt (sq_callB (call_lenA fit) o_len T.b_len (aq_cons (sq_var 0) aq_nil)) (sq_bin (op_addA fit) o_add (sq_glob T.c_MOST_DEGREE) sq_int))))))
  (sb_one (ss_ret 1 (SQ.se sq_bl)))
  sb_nil)
  (sb_one (ss_ret 1 (se_callB (cr_allA fit) o_all T.b_all (ae_cons (se_lc fit (si_seq fit (SQ.se (sq_var 0))) (blkOk_by (own := [("number", 1)]) (N := N_is_polynomial) (sc := defScope s_is_polynomial) (by decide +kernel)) rfl (fun _ _ _ _ _ => (gt_name 1 (fit_blk fit))) (fun _ _ _ _ _ => sif_nil) (fun _ _ _ _ _ => (SQ.se (sq_chain op_le o_le op_le o_le (sq_un un_neg o_neg (sq_glob T.c_MOST_COEFFICIENT)) (sq_var 1) (sq_glob T.c_MOST_COEFFICIENT))))) (AQ.ae aq_nil))))))
theorem sc_is_lower : FnScope N_is_lower ["value", "index"] (defScope s_is_lower) := ⟨rfl, rfl, rfl, by decide +kernel, rfl, by decide +kernel, by decide +kernel⟩
theorem ok_is_lower {f : Addr} {fd : FuncData} (Fn : Fun K "is_lower" "is_lower" s_is_lower f fd) (T : Tx w K mg C0 X0 X1 I0 I1) (h_is_whole : FnIn (MM w K C0 X0 X1) P w K mg base 1 1 "is_whole" m_is_whole) : FnOk P w K mg base (L2.CX P w) (1 + 1) f fd ["value", "index"] (spF (MM w K C0 X0 X1) 2 m_is_lower) :=
  fn_body Fn sc_is_lower rfl rfl fun cdv A outer s H E hr => by
  have fit := fit_of (M := MM w K C0 X0 X1) (P := P) (mg := mg) (base := base) (outer := outer) (H := H) (E := E) rfl rfl sc_is_lower.nd hr
  have tk := takes_cx (P := P) (w := w) (K := K) (mg := mg) (base := base) (N := N_is_lower) (qual := "is_lower") (scope := defScope s_is_lower) (f := f) (cdv := cdv) (A := A) (outer := outer) (s := s) (H := H) (E := E)
  have pw := passes_cx (P := P) (w := w) (K := K) (mg := mg) (base := base) (N := N_is_lower) (qual := "is_lower") (scope := defScope s_is_lower) (f := f) (cdv := cdv) (A := A) (outer := outer) (s := s) (H := H) (E := E)
  exact (sb_one (ss_ret 2 (se_and fit (se_call tk h_is_whole (hr.mono (by decide)) (AQ.ae (aq_cons (sq_var 0) aq_nil))) (se_one (SQ.se (sq_chain op_le o_le op_lt o_lt sq_int (sq_var 0) (sq_var 1)))))))
theorem sc_is_instruction : FnScope N_is_instruction ["value", "index"] (defScope s_is_instruction) := ⟨rfl, rfl, rfl, by decide +kernel, rfl, by decide +kernel, by decide +kernel⟩
theorem ok_is_instruction {f : Addr} {fd : FuncData} (Fn : Fun K "is_instruction" "is_instruction" s_is_instruction f fd) (T : Tx w K mg C0 X0 X1 I0 I1) (h_is_whole : FnIn (MM w K C0 X0 X1) P w K mg base 1 1 "is_whole" m_is_whole) (h_is_lower : FnIn (MM w K C0 X0 X1) P w K mg base 2 2 "is_lower" m_is_lower) (h_is_polynomial : FnIn (MM w K C0 X0 X1) P w K mg base 3 1 "is_polynomial" m_is_polynomial) : FnOk P w K mg base (L2.CX P w) (3 + 1) f fd ["value", "index"] (spF (MM w K C0 X0 X1) 2 m_is_instruction) :=
  fn_body Fn sc_is_instruction rfl rfl fun cdv A outer s H E hr => by
  have fit := fit_of (M := MM w K C0 X0 X1) (P := P) (mg := mg) (base := base) (outer := outer) (H := H) (E := E) rfl rfl sc_is_instruction.nd hr
  have tk := takes_cx (P := P) (w := w) (K := K) (mg := mg) (base := base) (N := N_is_instruction) (qual := "is_instruction") (scope := defScope s_is_instruction) (f := f) (cdv := cdv) (A := A) (outer := outer) (s := s) (H := H) (E := E)
  have pw := passes_cx (P := P) (w := w) (K := K) (mg := mg) (base := base) (N := N_is_instruction) (qual := "is_instruction") (scope := defScope s_is_instruction) (f := f) (cdv := cdv) (A := A) (outer := outer) (s := s) (H := H) (E := E)
  exact (sb_cons (ss_if (TQ.st (WQ.tq (wq_or (tq_not (tq_val fit (sq_isi .tuple fit (sq_var 0) (by decide +kernel) T.b_isinstance T.b_tuple))) (wq_or (tq_not (tq_val fit (sq_var 0))) (wq_or1 (tq_not (tq_val fit (sq_isi .str fit (sq_ix (ix_A fit) o_ix (sq_var 0) sq_int) (by decide +kernel) T.b_isinstance T.b_str))))))))
  (sb_one (ss_ret 2 (SQ.se sq_bl)))
  sb_nil)
  (sb_one (ss_match (sq_var 0) (cc_cons fit (pp_seq fit (pps_cons (pp_lit fit sq_str) (pps_cons (pp_cap 2) pps_nil)))
  (sb_one (ss_ret 2 (se_call tk h_is_whole (hr.mono (by decide)) (AQ.ae (aq_cons (sq_var 2) aq_nil)))))
  (cc_cons fit (pp_seq fit (pps_cons (pp_lit fit sq_str) (pps_cons (pp_cap 3) (pps_cons (pp_cap 4) pps_nil))))
  (sb_one (ss_ret 2 (se_and fit (se_call tk h_is_whole (hr.mono (by decide)) (AQ.ae (aq_cons (sq_var 3) aq_nil))) (se_and fit (SQ.se (sq_cmp (op_inA fit) o_in (sq_var 3) (sq_tup (aq_cons sq_int (aq_cons sq_int aq_nil))))) (se_one (se_call tk h_is_lower (hr.mono (by decide)) (AQ.ae (aq_cons (sq_var 4) (aq_cons (sq_var 1) aq_nil)))))))))
  (cc_cons fit (pp_seq fit (pps_cons (pp_lit fit sq_str) (pps_cons (pp_cap 5) (pps_cons (pp_cap 6) pps_nil))))
  (sb_one (ss_ret 2 (se_and fit (se_call tk h_is_polynomial (hr.mono (by decide)) (AQ.ae (aq_cons (sq_var 5) aq_nil))) (se_and fit (SQ.se (sq_cmp op_gt o_gt (sq_callB (call_lenA fit) o_len T.b_len (aq_cons (sq_var 5) aq_nil)) sq_int)) (se_and fit (se_call tk h_is_whole (hr.mono (by decide)) (AQ.ae (aq_cons (sq_var 6) aq_nil))) (se_one (SQ.se (sq_cmp op_ge o_ge (sq_var 6) sq_int))))))))
  (cc_cons fit (pp_seq fit (pps_cons (pp_cap 7) (pps_cons (pp_cap 4) (pps_cons (pp_cap 8) pps_nil))))
  (sb_one (ss_ret 2 (se_and fit (SQ.se (sq_cmp (op_inA fit) o_in (sq_var 7) (sq_glob T.c_TWO))) (se_and fit (se_call tk h_is_lower (hr.mono (by decide)) (AQ.ae (aq_cons (sq_var 4) (aq_cons (sq_var 1) aq_nil)))) (se_one (se_call tk h_is_lower (hr.mono (by decide)) (AQ.ae (aq_cons (sq_var 8) (aq_cons (sq_var 1) aq_nil)))))))))
  (cc_cons fit pp_any
  (sb_one (ss_ret 2 (SQ.se sq_bl)))
  cc_nil))))))))
theorem sc_check_code : FnScope N_check_code ["value"] (defScope s_check_code) := ⟨rfl, rfl, rfl, by decide +kernel, rfl, by decide +kernel, by decide +kernel⟩
theorem ok_check_code {f : Addr} {fd : FuncData} (Fn : Fun K "check_code" "check_code" s_check_code f fd) (T : Tx w K mg C0 X0 X1 I0 I1) (h_is_instruction : FnIn (MM w K C0 X0 X1) P w K mg base 4 2 "is_instruction" m_is_instruction) : FnOk P w K mg base (L2.CX P w) (4 + 1) f fd ["value"] (spF (MM w K C0 X0 X1) 1 m_check_code) :=
  fn_body Fn sc_check_code rfl rfl fun cdv A outer s H E hr => by
  have fit := fit_of (M := MM w K C0 X0 X1) (P := P) (mg := mg) (base := base) (outer := outer) (H := H) (E := E) rfl rfl sc_check_code.nd hr
  have tk := takes_cx (P := P) (w := w) (K := K) (mg := mg) (base := base) (N := N_check_code) (qual := "check_code") (scope := defScope s_check_code) (f := f) (cdv := cdv) (A := A) (outer := outer) (s := s) (H := H) (E := E)
  have pw := passes_cx (P := P) (w := w) (K := K) (mg := mg) (base := base) (N := N_check_code) (qual := "check_code") (scope := defScope s_check_code) (f := f) (cdv := cdv) (A := A) (outer := outer) (s := s) (H := H) (E := E)
  exact (sb_cons (ss_if (TQ.st (WQ.tq (wq_or (tq_not (tq_val fit (sq_isi .list fit (sq_var 0) (by decide +kernel) T.b_isinstance T.b_list))) (wq_or1 (tq_not (tq_chainT op_le o_le op_le o_le sq_int (sq_callB (call_lenA fit) o_len T.b_len (aq_cons (sq_var 0) aq_nil)) (sq_glob T.c_MOST_CODE)))))))
  (sb_one (ss_raise 1 fit tk (pmk_index T.x_BadCode hr (AQ.ae (aq_cons (sq_glob T.c_WRONG) aq_nil)))))
  sb_nil)
  (sb_one (ss_for fit pw (si_enum fit T.b_enumerate (AQ.ae (aq_cons (sq_var 0) aq_nil))) (gt_tup fit (gts_cons (gt_name 1 fit) (gts_cons (gt_name 2 fit) gts_nil)))
  (sb_one (ss_if (st_not (st_val fit (se_call tk h_is_instruction (hr.mono (by decide)) (AQ.ae (aq_cons (sq_var 2) (aq_cons (sq_var 1) aq_nil))))))
  (sb_one (ss_raise 1 fit tk (pmk_index T.x_BadCode hr (AQ.ae (aq_cons (sq_var 1) aq_nil)))))
  sb_nil)))))
theorem sc_is_code : FnScope N_is_code ["value"] (defScope s_is_code) := ⟨rfl, rfl, rfl, by decide +kernel, rfl, by decide +kernel, by decide +kernel⟩
theorem ok_is_code {f : Addr} {fd : FuncData} (Fn : Fun K "is_code" "is_code" s_is_code f fd) (T : Tx w K mg C0 X0 X1 I0 I1) (h_check_code : FnIn (MM w K C0 X0 X1) P w K mg base 5 1 "check_code" m_check_code) : FnOk P w K mg base (L2.CX P w) (5 + 1) f fd ["value"] (spF (MM w K C0 X0 X1) 1 m_is_code) :=
  fn_body Fn sc_is_code rfl rfl fun cdv A outer s H E hr => by
  have fit := fit_of (M := MM w K C0 X0 X1) (P := P) (mg := mg) (base := base) (outer := outer) (H := H) (E := E) rfl rfl sc_is_code.nd hr
  have tk := takes_cx (P := P) (w := w) (K := K) (mg := mg) (base := base) (N := N_is_code) (qual := "is_code") (scope := defScope s_is_code) (f := f) (cdv := cdv) (A := A) (outer := outer) (s := s) (H := H) (E := E)
  have pw := passes_cx (P := P) (w := w) (K := K) (mg := mg) (base := base) (N := N_is_code) (qual := "is_code") (scope := defScope s_is_code) (f := f) (cdv := cdv) (A := A) (outer := outer) (s := s) (H := H) (E := E)
  exact (sb_cons (ss_try rfl rfl ⟨rfl, by decide, Or.inl T.g_BadCode⟩ tk T.ct_BadCode (fun _ _ _ tk2 pw2 => (sb_one (ss_expr (se_call tk2 h_check_code (hr.mono (by decide)) (AQ.ae (aq_cons (sq_var 0) aq_nil)))))) (sx_plain fun _ _ => (sb_one (ss_ret 1 (SQ.se sq_bl)))))
  (sb_one (ss_ret 1 (SQ.se sq_bl))))
theorem sc_Writer_init : FnScope N_Writer_init ["self"] (defScope s_Writer_init) := ⟨rfl, rfl, rfl, by decide +kernel, rfl, by decide +kernel, by decide +kernel⟩
theorem ok_Writer_init {f : Addr} {fd : FuncData} (Fn : Fun K "__init__" "Writer.__init__" s_Writer_init f fd) (T : Tx w K mg C0 X0 X1 I0 I1)  : FnOk P w K mg base (L2.CX P w) (0 + 1) f fd ["self"] (spF (MM w K C0 X0 X1) 1 m_Writer_init) :=
  fn_body Fn sc_Writer_init rfl rfl fun cdv A outer s H E hr => by
  have fit := fit_of (M := MM w K C0 X0 X1) (P := P) (mg := mg) (base := base) (outer := outer) (H := H) (E := E) rfl rfl sc_Writer_init.nd hr
  have tk := takes_cx (P := P) (w := w) (K := K) (mg := mg) (base := base) (N := N_Writer_init) (qual := "Writer.__init__") (scope := defScope s_Writer_init) (f := f) (cdv := cdv) (A := A) (outer := outer) (s := s) (H := H) (E := E)
  have pw := passes_cx (P := P) (w := w) (K := K) (mg := mg) (base := base) (N := N_Writer_init) (qual := "Writer.__init__") (scope := defScope s_Writer_init) (f := f) (cdv := cdv) (A := A) (outer := outer) (s := s) (H := H) (E := E)
  exact (sb_cons (ss_fld 0 0 fit T.k_Writer rfl (SQ.se (sq_lst aq_nil)) (sq_var 0))
  (sb_one (ss_fld 0 1 fit T.k_Writer rfl se_dnewN (sq_var 0))))
theorem sc_Writer_told : FnScope N_Writer_told ["self", "instruction"] (defScope s_Writer_told) := ⟨rfl, rfl, rfl, by decide +kernel, rfl, by decide +kernel, by decide +kernel⟩
theorem ok_Writer_told {f : Addr} {fd : FuncData} (Fn : Fun K "told" "Writer.told" s_Writer_told f fd) (T : Tx w K mg C0 X0 X1 I0 I1)  : FnOk P w K mg base (L2.CX P w) (0 + 1) f fd ["self", "instruction"] (spF (MM w K C0 X0 X1) 2 m_Writer_told) :=
  fn_body Fn sc_Writer_told rfl rfl fun cdv A outer s H E hr => by
  have fit := fit_of (M := MM w K C0 X0 X1) (P := P) (mg := mg) (base := base) (outer := outer) (H := H) (E := E) rfl rfl sc_Writer_told.nd hr
  have tk := takes_cx (P := P) (w := w) (K := K) (mg := mg) (base := base) (N := N_Writer_told) (qual := "Writer.told") (scope := defScope s_Writer_told) (f := f) (cdv := cdv) (A := A) (outer := outer) (s := s) (H := H) (E := E)
  have pw := passes_cx (P := P) (w := w) (K := K) (mg := mg) (base := base) (N := N_Writer_told) (qual := "Writer.told") (scope := defScope s_Writer_told) (f := f) (cdv := cdv) (A := A) (outer := outer) (s := s) (H := H) (E := E)
  exact (sb_cons (ss_if (TQ.st (tq_cmp (op_notInN fit) (o_inN true) (sq_var 1) (sq_fld 0 1 fit T.k_Writer rfl (sq_var 0))))
  (sb_cons (ss_sub (set_N fit) os_N (SQ.se (sq_callB (call_lenA fit) o_len T.b_len (aq_cons (sq_fld 0 0 fit T.k_Writer rfl (sq_var 0)) aq_nil))) (sq_fld 0 1 fit T.k_Writer rfl (sq_var 0)) (sq_var 1))
  (sb_one (ss_expr (se_mtQ fit mt_append o_append (sq_fld 0 0 fit T.k_Writer rfl (sq_var 0)) (aq_cons (sq_var 1) aq_nil) PySem.F.slot_list_append PySem.F.type_list_append))))
  sb_nil)
  (sb_one (ss_ret 2 (SQ.se (sq_ix (ix_N fit) o_ixN (sq_fld 0 1 fit T.k_Writer rfl (sq_var 0)) (sq_var 1))))))
theorem sc_Writer_write : FnScope N_Writer_write ["self", "tree"] (defScope s_Writer_write) := ⟨rfl, rfl, rfl, by decide +kernel, rfl, by decide +kernel, by decide +kernel⟩
theorem ok_Writer_write {f : Addr} {fd : FuncData} {r : Nat → Fn} {kk : Nat} (hkk : 1 ≤ kk) (Fn : Fun K "write" "Writer.write" s_Writer_write f fd) (T : Tx w K mg C0 X0 X1 I0 I1) (h_Writer_told : MtIn (MM w K C0 X0 X1) P w K mg base 1 2 0 "told" m_Writer_told) (h_Writer_write : MtIn (MM w K C0 X0 X1) P w K mg base kk 2 0 "write" (r 0)) (h_Writer_write_power : MtIn (MM w K C0 X0 X1) P w K mg base kk 3 0 "write_power" (r 1)) : FnOk P w K mg base (L2.CX P w) (kk + 1) f fd ["self", "tree"] (spF (MM w K C0 X0 X1) 2 (fnF [0, 1] 2 10 (g_Writer_write r))) :=
  fn_body Fn sc_Writer_write rfl rfl fun cdv A outer s H E hr => by
  have fit := fit_of (M := MM w K C0 X0 X1) (P := P) (mg := mg) (base := base) (outer := outer) (H := H) (E := E) rfl rfl sc_Writer_write.nd hr
  have tk := takes_cx (P := P) (w := w) (K := K) (mg := mg) (base := base) (N := N_Writer_write) (qual := "Writer.write") (scope := defScope s_Writer_write) (f := f) (cdv := cdv) (A := A) (outer := outer) (s := s) (H := H) (E := E)
  have pw := passes_cx (P := P) (w := w) (K := K) (mg := mg) (base := base) (N := N_Writer_write) (qual := "Writer.write") (scope := defScope s_Writer_write) (f := f) (cdv := cdv) (A := A) (outer := outer) (s := s) (H := H) (E := E)
  exact (sb_one (ss_match (sq_var 1) (cc_cons fit (pp_seq fit (pps_cons (pp_lit fit sq_str) (pps_cons (pp_cap 2) pps_nil)))
  (sb_one (ss_ret 2 (se_meth fit tk T.k_Writer h_Writer_told (hr.mono (by omega)) (SQ.se (sq_var 0)) (AQ.ae (aq_cons (sq_tup (aq_cons sq_str (aq_cons (sq_var 2) aq_nil))) aq_nil)))))
  (cc_cons fit (pp_seq fit (pps_cons (pp_lit fit sq_str) (pps_cons (pp_cap 3) (pps_cons (pp_cap 4) pps_nil))))
  (sb_one (ss_ret 2 (se_meth fit tk T.k_Writer h_Writer_told (hr.mono (by omega)) (SQ.se (sq_var 0)) (AQ.ae (aq_cons (sq_tup (aq_cons sq_str (aq_cons (sq_var 3) (aq_cons (sq_var 4) aq_nil)))) aq_nil)))))
  (cc_cons fit (pp_seq fit (pps_cons (pp_lit fit sq_str) (pps_cons (pp_cap 5) pps_nil)))
  (sb_one (ss_ret 2 (se_meth fit tk T.k_Writer h_Writer_write (hr.mono (by omega)) (SQ.se (sq_var 0)) (AQ.ae (aq_cons (sq_tup (aq_cons sq_str (aq_cons (sq_tup (aq_cons sq_str (aq_cons sq_int aq_nil))) (aq_cons (sq_var 5) aq_nil)))) aq_nil)))))
  (cc_cons fit (pp_seq fit (pps_cons (pp_lit fit sq_str) (pps_cons (pp_cap 5) (pps_cons (pp_cap 6) pps_nil))))
  (sb_one (ss_ret 2 (se_meth fit tk T.k_Writer h_Writer_write_power (hr.mono (by omega)) (SQ.se (sq_var 0)) (AQ.ae (aq_cons (sq_var 5) (aq_cons (sq_var 6) aq_nil))))))
  (cc_cons fit (pp_seq fit (pps_cons (pp_lit fit sq_str) (pps_cons (pp_cap 7) (pps_cons (pp_cap 5) pps_nil))))
  (sb_one (ss_ret 2 (se_meth fit tk T.k_Writer h_Writer_told (hr.mono (by omega)) (SQ.se (sq_var 0)) (ae_cons (se_tup (ae_cons (SQ.se sq_str) (ae_cons (SQ.se (sq_var 7)) (ae_cons (se_meth fit tk T.k_Writer h_Writer_write (hr.mono (by omega)) (SQ.se (sq_var 0)) (AQ.ae (aq_cons (sq_var 5) aq_nil))) (AQ.ae aq_nil))))) (AQ.ae aq_nil)))))
  (cc_cons fit (pp_seq fit (pps_cons (pp_cap 8) (pps_cons (pp_cap 9) (pps_cons (pp_cap 10) pps_nil))))
  (sb_cons (ss_set 11 fit (se_meth fit tk T.k_Writer h_Writer_write (hr.mono (by omega)) (SQ.se (sq_var 0)) (AQ.ae (aq_cons (sq_var 9) aq_nil))))
  (sb_one (ss_ret 2 (se_meth fit tk T.k_Writer h_Writer_told (hr.mono (by omega)) (SQ.se (sq_var 0)) (ae_cons (se_tup (ae_cons (SQ.se (sq_var 8)) (ae_cons (SQ.se (sq_var 11)) (ae_cons (se_meth fit tk T.k_Writer h_Writer_write (hr.mono (by omega)) (SQ.se (sq_var 0)) (AQ.ae (aq_cons (sq_var 10) aq_nil))) (AQ.ae aq_nil))))) (AQ.ae aq_nil))))))
  (cc_cons fit pp_any
  (sb_one (ss_ret 2 (SQ.se (sq_glob T.c_WRONG))))
  cc_nil)))))))))
theorem sc_Writer_write_power : FnScope N_Writer_write_power ["self", "inner", "times"] (defScope s_Writer_write_power) := ⟨rfl, rfl, rfl, by decide +kernel, rfl, by decide +kernel, by decide +kernel⟩
theorem ok_Writer_write_power {f : Addr} {fd : FuncData} {r : Nat → Fn} {kk : Nat} (hkk : 1 ≤ kk) (Fn : Fun K "write_power" "Writer.write_power" s_Writer_write_power f fd) (T : Tx w K mg C0 X0 X1 I0 I1) (h_Writer_write : MtIn (MM w K C0 X0 X1) P w K mg base kk 2 0 "write" (r 0)) (h_Writer_told : MtIn (MM w K C0 X0 X1) P w K mg base 1 2 0 "told" m_Writer_told) : FnOk P w K mg base (L2.CX P w) (kk + 1) f fd ["self", "inner", "times"] (spF (MM w K C0 X0 X1) 3 (fnF [0, 1, 2] 3 3 (g_Writer_write_power r))) :=
  fn_body Fn sc_Writer_write_power rfl rfl fun cdv A outer s H E hr => by
  have fit := fit_of (M := MM w K C0 X0 X1) (P := P) (mg := mg) (base := base) (outer := outer) (H := H) (E := E) rfl rfl sc_Writer_write_power.nd hr
  have tk := takes_cx (P := P) (w := w) (K := K) (mg := mg) (base := base) (N := N_Writer_write_power) (qual := "Writer.write_power") (scope := defScope s_Writer_write_power) (f := f) (cdv := cdv) (A := A) (outer := outer) (s := s) (H := H) (E := E)
  have pw := passes_cx (P := P) (w := w) (K := K) (mg := mg) (base := base) (N := N_Writer_write_power) (qual := "Writer.write_power") (scope := defScope s_Writer_write_power) (f := f) (cdv := cdv) (A := A) (outer := outer) (s := s) (H := H) (E := E)
  exact (sb_cons (ss_set 3 fit (se_meth fit tk T.k_Writer h_Writer_write (hr.mono (by omega)) (SQ.se (sq_var 0)) (AQ.ae (aq_cons (sq_var 1) aq_nil))))
  (sb_cons (ss_if (TQ.st (tq_cmp (op_eqA fit) o_eq (sq_var 2) sq_int))
  (sb_one (ss_ret 3 (se_meth fit tk T.k_Writer h_Writer_told (hr.mono (by omega)) (SQ.se (sq_var 0)) (AQ.ae (aq_cons (sq_tup (aq_cons sq_str (aq_cons sq_int aq_nil))) aq_nil)))))
  sb_nil)
  (sb_cons (ss_set 4 fit (SQ.se (sq_var 3)))
  (sb_cons (ss_for fit pw (si_range1 T.b_range (AQ.ae (aq_cons (sq_bin op_sub o_sub (sq_var 2) sq_int) aq_nil))) (gt_name 5 fit)
  (sb_one (ss_set 4 fit (se_meth fit tk T.k_Writer h_Writer_told (hr.mono (by omega)) (SQ.se (sq_var 0)) (AQ.ae (aq_cons (sq_tup (aq_cons sq_str (aq_cons (sq_var 4) (aq_cons (sq_var 3) aq_nil)))) aq_nil))))))
  (sb_one (ss_ret 3 (SQ.se (sq_var 4))))))))
theorem sc_compile_tree : FnScope N_compile_tree ["tree"] (defScope s_compile_tree) := ⟨rfl, rfl, rfl, by decide +kernel, rfl, by decide +kernel, by decide +kernel⟩
theorem ok_compile_tree {f : Addr} {fd : FuncData} (Fn : Fun K "compile_tree" "compile_tree" s_compile_tree f fd) (T : Tx w K mg C0 X0 X1 I0 I1) (h_Writer_init : NwIn (MM w K C0 X0 X1) P w K mg base 1 0 0 "Writer" m_Writer_init) (h_Writer_write : MtIn (MM w K C0 X0 X1) P w K mg base 14 2 0 "write" (m_Writer_write 12)) (h_Writer_told : MtIn (MM w K C0 X0 X1) P w K mg base 1 2 0 "told" m_Writer_told) : FnOk P w K mg base (L2.CX P w) (14 + 1) f fd ["tree"] (spF (MM w K C0 X0 X1) 1 m_compile_tree) :=
  fn_body Fn sc_compile_tree rfl rfl fun cdv A outer s H E hr => by
  have fit := fit_of (M := MM w K C0 X0 X1) (P := P) (mg := mg) (base := base) (outer := outer) (H := H) (E := E) rfl rfl sc_compile_tree.nd hr
  have tk := takes_cx (P := P) (w := w) (K := K) (mg := mg) (base := base) (N := N_compile_tree) (qual := "compile_tree") (scope := defScope s_compile_tree) (f := f) (cdv := cdv) (A := A) (outer := outer) (s := s) (H := H) (E := E)
  have pw := passes_cx (P := P) (w := w) (K := K) (mg := mg) (base := base) (N := N_compile_tree) (qual := "compile_tree") (scope := defScope s_compile_tree) (f := f) (cdv := cdv) (A := A) (outer := outer) (s := s) (H := H) (E := E)
  exact (sb_cons (ss_set 1 fit (se_new0 tk h_Writer_init (hr.mono (by decide))))
  (sb_cons (ss_set 2 fit (se_meth fit tk T.k_Writer h_Writer_write (hr.mono (by decide)) (SQ.se (sq_var 1)) (AQ.ae (aq_cons (sq_var 0) aq_nil))))
  (sb_cons (ss_if (TQ.st (tq_cmp op_lt o_lt (sq_bin (op_addA fit) o_add (sq_var 2) sq_int) (sq_callB (call_lenA fit) o_len T.b_len (aq_cons (sq_fld 0 0 fit T.k_Writer rfl (sq_var 1)) aq_nil))))
  (sb_cons (ss_set 3 fit (se_meth fit tk T.k_Writer h_Writer_told (hr.mono (by decide)) (SQ.se (sq_var 1)) (AQ.ae (aq_cons (sq_tup (aq_cons sq_str (aq_cons sq_int aq_nil))) aq_nil))))
  (sb_one (ss_expr (se_mtQ fit mt_append o_append (sq_fld 0 0 fit T.k_Writer rfl (sq_var 1)) (aq_cons (sq_tup (aq_cons sq_str (aq_cons (sq_var 2) (aq_cons (sq_var 3) aq_nil)))) aq_nil) PySem.F.slot_list_append PySem.F.type_list_append))))
  sb_nil)
  (sb_one (ss_ret 1 (SQ.se (sq_callTy (call_listA fit) o_list T.b_list (aq_cons (sq_fld 0 0 fit T.k_Writer rfl (sq_var 1)) aq_nil))))))))
theorem sc_law_numbers : FnScope N_law_numbers ["script", "at", "many"] (defScope s_law_numbers) := ⟨rfl, rfl, rfl, by decide +kernel, rfl, by decide +kernel, by decide +kernel⟩
theorem ok_law_numbers {f : Addr} {fd : FuncData} (Fn : Fun K "_law_numbers" "_law_numbers" s_law_numbers f fd) (T : Tx w K mg C0 X0 X1 I0 I1)  : FnOk P w K mg base (L2.CX P w) (0 + 1) f fd ["script", "at", "many"] (spF (MM w K C0 X0 X1) 3 m_law_numbers) :=
  fn_body Fn sc_law_numbers rfl rfl fun cdv A outer s H E hr => by
  have fit := fit_of (M := MM w K C0 X0 X1) (P := P) (mg := mg) (base := base) (outer := outer) (H := H) (E := E) rfl rfl sc_law_numbers.nd hr
  have tk := takes_cx (P := P) (w := w) (K := K) (mg := mg) (base := base) (N := N_law_numbers) (qual := "_law_numbers") (scope := defScope s_law_numbers) (f := f) (cdv := cdv) (A := A) (outer := outer) (s := s) (H := H) (E := E)
  have pw := passes_cx (P := P) (w := w) (K := K) (mg := mg) (base := base) (N := N_law_numbers) (qual := "_law_numbers") (scope := defScope s_law_numbers) (f := f) (cdv := cdv) (A := A) (outer := outer) (s := s) (H := H) (E := E)
  exact (sb_cons (ss_set 3 fit (SQ.se (sq_bin op_mulA o_mul sq_int (sq_bin (op_addA fit) o_add (sq_var 1) sq_int))))
  (sb_cons (ss_if (TQ.st (tq_cmp op_lt o_lt (sq_var 1) (sq_callB (call_lenA fit) o_len T.b_len (aq_cons (sq_var 0) aq_nil))))
  (sb_one (ss_set 3 fit (SQ.se (sq_callTy (call_int1) o_int T.b_int (aq_cons (sq_ix (ix_A fit) o_ix (sq_var 0) (sq_var 1)) aq_nil)))))
  sb_nil)
  (sb_cons (ss_if (TQ.st (tq_cmp op_lt o_lt (sq_var 3) sq_int))
  (sb_one (ss_set 3 fit (SQ.se (sq_bin op_sub o_sub sq_int (sq_bin op_mulA o_mul sq_int (sq_var 3))))))
  sb_nil)
  (sb_cons (ss_set 4 fit (SQ.se (sq_lst aq_nil)))
  (sb_cons (ss_for fit pw (si_range1 T.b_range (AQ.ae (aq_cons (sq_var 2) aq_nil))) (gt_name 5 fit)
  (sb_one (ss_if (TQ.st (tq_cmp op_ge o_ge (sq_var 3) (sq_bin op_pow o_pow sq_int sq_int)))
  (sb_cons (ss_expr (se_mtQ fit mt_append o_append (sq_var 4) (aq_cons (sq_bin op_mod o_mod (sq_var 3) sq_int) aq_nil) PySem.F.slot_list_append PySem.F.type_list_append))
  (sb_one (ss_set 3 fit (SQ.se (sq_bin op_div o_div (sq_var 3) sq_int)))))
  (sb_cons (ss_set 6 fit (SQ.se (sq_bin op_mod o_mod (sq_bin (op_addA fit) o_add (sq_bin (op_addA fit) o_add (sq_bin op_mulA o_mul (sq_var 3) sq_int) (sq_bin op_mulA o_mul (sq_bin (op_addA fit) o_add (sq_var 5) sq_int) sq_int)) (sq_bin op_mulA o_mul (sq_var 1) sq_int)) sq_int)))
  (sb_cons (ss_set 6 fit (SQ.se (sq_bin op_mod o_mod (sq_bin (op_addA fit) o_add (sq_bin op_mulA o_mul (sq_var 6) (sq_var 6)) (sq_bin op_mulA o_mul sq_int (sq_bin (op_addA fit) o_add (sq_var 5) sq_int))) sq_int)))
  (sb_one (ss_expr (se_mtQ fit mt_append o_append (sq_var 4) (aq_cons (sq_bin op_mod o_mod (sq_bin op_div o_div (sq_var 6) sq_int) sq_int) aq_nil) PySem.F.slot_list_append PySem.F.type_list_append))))))))
  (sb_one (ss_ret 3 (SQ.se (sq_var 4)))))))))
theorem sc_law_leaf : FnScope N_law_leaf ["n", "first"] (defScope s_law_leaf) := ⟨rfl, rfl, rfl, by decide +kernel, rfl, by decide +kernel, by decide +kernel⟩
theorem ok_law_leaf {f : Addr} {fd : FuncData} (Fn : Fun K "_law_leaf" "_law_leaf" s_law_leaf f fd) (T : Tx w K mg C0 X0 X1 I0 I1)  : FnOk P w K mg base (L2.CX P w) (0 + 1) f fd ["n", "first"] (spF (MM w K C0 X0 X1) 2 m_law_leaf) :=
  fn_body Fn sc_law_leaf rfl rfl fun cdv A outer s H E hr => by
  have fit := fit_of (M := MM w K C0 X0 X1) (P := P) (mg := mg) (base := base) (outer := outer) (H := H) (E := E) rfl rfl sc_law_leaf.nd hr
  have tk := takes_cx (P := P) (w := w) (K := K) (mg := mg) (base := base) (N := N_law_leaf) (qual := "_law_leaf") (scope := defScope s_law_leaf) (f := f) (cdv := cdv) (A := A) (outer := outer) (s := s) (H := H) (E := E)
  have pw := passes_cx (P := P) (w := w) (K := K) (mg := mg) (base := base) (N := N_law_leaf) (qual := "_law_leaf") (scope := defScope s_law_leaf) (f := f) (cdv := cdv) (A := A) (outer := outer) (s := s) (H := H) (E := E)
  exact (sb_cons (ss_set 2 fit (SQ.se (sq_ix (ix_A fit) o_ix (sq_var 0) sq_int)))
  (sb_cons (ss_set 3 fit (SQ.se (sq_bin op_mod o_mod (sq_ix (ix_A fit) o_ix (sq_var 0) sq_int) sq_int)))
  (sb_cons (ss_if (TQ.st (tq_cmp (op_eqA fit) o_eq (sq_var 3) sq_int))
  (sb_one (ss_ret 2 (SQ.se (sq_tup (aq_cons sq_str (aq_cons (sq_bin op_sub o_sub (sq_bin op_mod o_mod (sq_var 2) sq_int) sq_int) aq_nil))))))
  sb_nil)
  (sb_cons (ss_if (TQ.st (tq_cmp (op_eqA fit) o_eq (sq_var 3) sq_int))
  (sb_one (ss_ret 2 (SQ.se (sq_tup (aq_cons sq_str (aq_cons sq_int (aq_cons (sq_tup (aq_cons sq_str (aq_cons (sq_bin op_mod o_mod (sq_var 2) sq_int) aq_nil))) aq_nil)))))))
  sb_nil)
  (sb_cons (ss_if (TQ.st (tq_cmp (op_eqA fit) o_eq (sq_var 3) sq_int))
  (sb_one (ss_ret 2 (SQ.se (sq_tup (aq_cons sq_str (aq_cons (sq_tup (aq_cons (sq_bin op_sub o_sub (sq_un un_neg o_neg sq_int) (sq_bin op_mod o_mod (sq_var 2) sq_int)) (aq_cons sq_int (aq_cons sq_int aq_nil)))) (aq_cons (sq_bin op_mod o_mod (sq_ix (ix_A fit) o_ix (sq_var 0) sq_int) sq_int) aq_nil)))))))
  sb_nil)
  (sb_cons (ss_if (TQ.st (WQ.tq (wq_and (tq_cmp (op_eqA fit) o_eq (sq_var 3) sq_int) (wq_and1 (tq_val fit (sq_var 1))))))
  (sb_one (ss_ret 2 (SQ.se (sq_tup (aq_cons sq_str (aq_cons sq_int (aq_cons (sq_tup (aq_cons sq_str (aq_cons (sq_bin op_sub o_sub (sq_bin op_mod o_mod (sq_var 2) sq_int) sq_int) aq_nil))) aq_nil)))))))
  sb_nil)
  (sb_cons (ss_if (TQ.st (tq_cmp (op_eqA fit) o_eq (sq_var 3) sq_int))
  (sb_one (ss_ret 2 (SQ.se (sq_tup (aq_cons sq_str (aq_cons (sq_tup (aq_cons sq_str (aq_cons sq_int (aq_cons (sq_tup (aq_cons sq_str (aq_cons (sq_bin (op_addA fit) o_add sq_int (sq_bin op_mod o_mod (sq_var 2) sq_int)) aq_nil))) aq_nil)))) aq_nil))))))
  sb_nil)
  (sb_one (ss_ret 2 (SQ.se (sq_tup (aq_cons sq_str (aq_cons (sq_tup (aq_cons (sq_bin op_sub o_sub (sq_un un_neg o_neg sq_int) (sq_bin op_mod o_mod (sq_var 2) sq_int)) (aq_cons (sq_un un_neg o_neg sq_int) (aq_cons sq_int aq_nil)))) (aq_cons (sq_bin op_mod o_mod (sq_ix (ix_A fit) o_ix (sq_var 0) sq_int) sq_int) aq_nil))))))))))))))
theorem sc_law_drawn : FnScope N_law_drawn ["script", "at"] (defScope s_law_drawn) := ⟨rfl, rfl, rfl, by decide +kernel, rfl, by decide +kernel, by decide +kernel⟩
theorem ok_law_drawn {f : Addr} {fd : FuncData} (Fn : Fun K "_law_drawn" "_law_drawn" s_law_drawn f fd) (T : Tx w K mg C0 X0 X1 I0 I1) (h_law_numbers : FnIn (MM w K C0 X0 X1) P w K mg base 1 3 "_law_numbers" m_law_numbers) (h_law_leaf : FnIn (MM w K C0 X0 X1) P w K mg base 1 2 "_law_leaf" m_law_leaf) : FnOk P w K mg base (L2.CX P w) (1 + 1) f fd ["script", "at"] (spF (MM w K C0 X0 X1) 2 m_law_drawn) :=
  fn_body Fn sc_law_drawn rfl rfl fun cdv A outer s H E hr => by
  have fit := fit_of (M := MM w K C0 X0 X1) (P := P) (mg := mg) (base := base) (outer := outer) (H := H) (E := E) rfl rfl sc_law_drawn.nd hr
  have tk := takes_cx (P := P) (w := w) (K := K) (mg := mg) (base := base) (N := N_law_drawn) (qual := "_law_drawn") (scope := defScope s_law_drawn) (f := f) (cdv := cdv) (A := A) (outer := outer) (s := s) (H := H) (E := E)
  have pw := passes_cx (P := P) (w := w) (K := K) (mg := mg) (base := base) (N := N_law_drawn) (qual := "_law_drawn") (scope := defScope s_law_drawn) (f := f) (cdv := cdv) (A := A) (outer := outer) (s := s) (H := H) (E := E)
  exact (sb_cons (ss_set 2 fit (se_call tk h_law_numbers (hr.mono (by decide)) (AQ.ae (aq_cons (sq_var 0) (aq_cons (sq_var 1) (aq_cons sq_int aq_nil))))))
  (sb_cons (ss_set 3 fit (se_call tk h_law_leaf (hr.mono (by decide)) (AQ.ae (aq_cons (sq_slice fit (sq_var 2) (oq_some sq_int) oq_none) (aq_cons sq_bl aq_nil)))))
  (sb_cons (ss_for fit pw (si_range1 T.b_range (AQ.ae (aq_cons (sq_bin (op_addA fit) o_add sq_int (sq_bin op_mod o_mod (sq_ix (ix_A fit) o_ix (sq_var 2) sq_int) sq_int)) aq_nil))) (gt_name 4 fit)
  (sb_cons (ss_set 5 fit (SQ.se (sq_slice fit (sq_var 2) (oq_some (sq_bin (op_addA fit) o_add sq_int (sq_bin op_mulA o_mul sq_int (sq_var 4)))) (oq_some (sq_bin (op_addA fit) o_add sq_int (sq_bin op_mulA o_mul sq_int (sq_var 4)))))))
  (sb_cons (ss_set 6 fit (se_call tk h_law_leaf (hr.mono (by decide)) (AQ.ae (aq_cons (sq_slice fit (sq_var 5) (oq_some sq_int) oq_none) (aq_cons sq_bl aq_nil)))))
  (sb_cons (ss_set 7 fit (SQ.se (sq_ix (ix_A fit) o_ix (sq_lst (aq_cons sq_str (aq_cons sq_str (aq_cons sq_str (aq_cons sq_str aq_nil))))) (sq_bin op_mod o_mod (sq_ix (ix_A fit) o_ix (sq_var 5) sq_int) sq_int))))
  (sb_cons (ss_if (TQ.st (tq_cmp (op_eqA fit) o_eq (sq_bin op_mod o_mod (sq_ix (ix_A fit) o_ix (sq_var 5) sq_int) sq_int) sq_int))
  (sb_one (ss_par 3 6 fit (AQ.ae (aq_cons (sq_var 6) (aq_cons (sq_var 3) aq_nil)))))
  sb_nil)
  (sb_one (ss_set 3 fit (SQ.se (sq_tup (aq_cons (sq_var 7) (aq_cons (sq_var 3) (aq_cons (sq_var 6) aq_nil))))))))))))
  (sb_cons (ss_if (TQ.st (tq_cmp (op_eqA fit) o_eq (sq_bin op_mod o_mod (sq_ix (ix_A fit) o_ix (sq_var 2) sq_int) sq_int) sq_int))
  (sb_one (ss_set 3 fit (SQ.se (sq_tup (aq_cons sq_str (aq_cons sq_int (aq_cons (sq_tup (aq_cons sq_str (aq_cons (sq_var 3) (aq_cons (sq_var 3) aq_nil)))) aq_nil)))))))
  sb_nil)
  (sb_cons (ss_if (TQ.st (tq_cmp (op_eqA fit) o_eq (sq_bin op_mod o_mod (sq_ix (ix_A fit) o_ix (sq_var 2) sq_int) sq_int) sq_int))
  (sb_one (ss_set 3 fit (SQ.se (sq_tup (aq_cons sq_str (aq_cons (sq_var 3) (aq_cons (sq_bin op_mod o_mod (sq_ix (ix_A fit) o_ix (sq_var 2) sq_int) sq_int) aq_nil)))))))
  sb_nil)
  (sb_one (ss_ret 2 (SQ.se (sq_var 3)))))))))
theorem sc_law_refusal : FnScope N_law_refusal ["value"] (defScope s_law_refusal) := ⟨rfl, rfl, rfl, by decide +kernel, rfl, by decide +kernel, by decide +kernel⟩
theorem ok_law_refusal {f : Addr} {fd : FuncData} (Fn : Fun K "_law_refusal" "_law_refusal" s_law_refusal f fd) (T : Tx w K mg C0 X0 X1 I0 I1) (h_check_code : FnIn (MM w K C0 X0 X1) P w K mg base 5 1 "check_code" m_check_code) : FnOk P w K mg base (L2.CX P w) (5 + 1) f fd ["value"] (spF (MM w K C0 X0 X1) 1 m_law_refusal) :=
  fn_body Fn sc_law_refusal rfl rfl fun cdv A outer s H E hr => by
  have fit := fit_of (M := MM w K C0 X0 X1) (P := P) (mg := mg) (base := base) (outer := outer) (H := H) (E := E) rfl rfl sc_law_refusal.nd hr
  have tk := takes_cx (P := P) (w := w) (K := K) (mg := mg) (base := base) (N := N_law_refusal) (qual := "_law_refusal") (scope := defScope s_law_refusal) (f := f) (cdv := cdv) (A := A) (outer := outer) (s := s) (H := H) (E := E)
  have pw := passes_cx (P := P) (w := w) (K := K) (mg := mg) (base := base) (N := N_law_refusal) (qual := "_law_refusal") (scope := defScope s_law_refusal) (f := f) (cdv := cdv) (A := A) (outer := outer) (s := s) (H := H) (E := E)
  exact (sb_cons (ss_tryAs 1 fit rfl rfl rfl rfl ⟨rfl, by decide, Or.inl T.g_BadCode⟩ tk T.ct_BadCode (fun _ _ _ tk2 pw2 => (sb_one (ss_expr (se_call tk2 h_check_code (hr.mono (by decide)) (AQ.ae (aq_cons (sq_var 0) aq_nil)))))) (sxi_is (f := (retE 1 (quiet (fun _ => some (.val (.str "mixed")))))) T.is_BadText T.b_isinstance T.g_BadText (fun _ _ => (sb_one (ss_ret 1 (SQ.se sq_str)))) (sxi_ret (f := "index") (good := good_index) fun a oe pn c dx vx hz hf hg => match c, hg, hz with | 0, _, hz => attr_index T.x_BadText hz hf (pe_var (i := 1) rfl (.inl rfl)) | 1, _, hz => attr_index T.x_BadCode hz hf (pe_var (i := 1) rfl (.inl rfl)) | (_ + 2), hg, _ => nomatch hg) (fun _ => trivial)))
  (sb_one (ss_ret 1 (SQ.se sq_non))))
theorem sc_law : FnScope N_law ["script"] (defScope s_law) := ⟨rfl, rfl, rfl, by decide +kernel, rfl, by decide +kernel, by decide +kernel⟩
theorem ok_law {f : Addr} {fd : FuncData} (Fn : Fun K "law" "law" s_law f fd) (T : Tx w K mg C0 X0 X1 I0 I1) (h_law_numbers : FnIn (MM w K C0 X0 X1) P w K mg base 1 3 "_law_numbers" m_law_numbers) (h_compile_tree : FnIn (MM w K C0 X0 X1) P w K mg base 15 1 "compile_tree" m_compile_tree) (h_law_drawn : FnIn (MM w K C0 X0 X1) P w K mg base 2 2 "_law_drawn" m_law_drawn) (h_law_refusal : FnIn (MM w K C0 X0 X1) P w K mg base 6 1 "_law_refusal" m_law_refusal) (h_is_code : FnIn (MM w K C0 X0 X1) P w K mg base 6 1 "is_code" m_is_code) : FnOk P w K mg base (L2.CX P w) (15 + 1) f fd ["script"] (spF (MM w K C0 X0 X1) 1 m_law) :=
  fn_body Fn sc_law rfl rfl fun cdv A outer s H E hr => by
  have fit := fit_of (M := MM w K C0 X0 X1) (P := P) (mg := mg) (base := base) (outer := outer) (H := H) (E := E) rfl rfl sc_law.nd hr
  have tk := takes_cx (P := P) (w := w) (K := K) (mg := mg) (base := base) (N := N_law) (qual := "law") (scope := defScope s_law) (f := f) (cdv := cdv) (A := A) (outer := outer) (s := s) (H := H) (E := E)
  have pw := passes_cx (P := P) (w := w) (K := K) (mg := mg) (base := base) (N := N_law) (qual := "law") (scope := defScope s_law) (f := f) (cdv := cdv) (A := A) (outer := outer) (s := s) (H := H) (E := E)
  exact (sb_cons (ss_set 1 fit (se_call tk h_law_numbers (hr.mono (by decide)) (AQ.ae (aq_cons (sq_var 0) (aq_cons sq_int (aq_cons sq_int aq_nil))))))
  (sb_cons (ss_for fit pw (si_seq fit (SQ.se (sq_lst (aq_cons sq_int (aq_cons sq_int (aq_cons sq_int aq_nil)))))) (gt_name 2 fit)
  (sb_cons (ss_set 3 fit (se_call tk h_compile_tree (hr.mono (by decide)) (ae_cons (se_call tk h_law_drawn (hr.mono (by decide)) (AQ.ae (aq_cons (sq_var 0) (aq_cons (sq_var 2) aq_nil)))) (AQ.ae aq_nil))))
  (sb_cons (ss_if (WT.st (wt_or (st_cmp op_notN o_isNot (se_call tk h_law_refusal (hr.mono (by decide)) (AQ.ae (aq_cons (sq_var 3) aq_nil))) (SQ.se sq_non)) (wt_or1 (st_cmp op_notBl o_isNotB (se_call tk h_is_code (hr.mono (by decide)) (AQ.ae (aq_cons (sq_var 3) aq_nil))) (SQ.se sq_bl)))))
  (sb_one (ss_ret 1 (SQ.se sq_bl)))
  sb_nil)
  (sb_cons (ss_set 4 fit (SQ.se (sq_bin op_mod o_mod (sq_ix (ix_A fit) o_ix (sq_var 1) (sq_var 2)) (sq_callB (call_lenA fit) o_len T.b_len (aq_cons (sq_var 3) aq_nil)))))
  (sb_cons (ss_set 5 fit (SQ.se (sq_lst (aq_cons sq_non (aq_cons (sq_tup aq_nil) (aq_cons sq_str (aq_cons (sq_tup (aq_cons sq_str aq_nil)) (aq_cons (sq_tup (aq_cons sq_str (aq_cons sq_non aq_nil))) (aq_cons (sq_tup (aq_cons sq_str (aq_cons sq_bl aq_nil))) (aq_cons (sq_lst (aq_cons sq_str (aq_cons sq_int aq_nil))) (aq_cons (sq_tup (aq_cons sq_str (aq_cons sq_int (aq_cons (sq_var 4) aq_nil)))) (aq_cons (sq_tup (aq_cons sq_str (aq_cons (sq_var 4) (aq_cons sq_int aq_nil)))) aq_nil))))))))))))
  (sb_cons (ss_for fit pw (si_seq fit (SQ.se (sq_bin (op_addA fit) o_add (sq_var 5) (sq_lst (aq_cons (sq_tup (aq_cons sq_str (aq_cons (sq_un un_neg o_neg sq_int) (aq_cons sq_int aq_nil)))) (aq_cons (sq_tup (aq_cons sq_str (aq_cons sq_int (aq_cons sq_non aq_nil)))) (aq_cons (sq_tup (aq_cons sq_str (aq_cons sq_int aq_nil))) (aq_cons (sq_tup (aq_cons sq_str (aq_cons sq_int (aq_cons sq_int aq_nil)))) (aq_cons (sq_tup (aq_cons sq_str (aq_cons sq_int (aq_cons sq_int aq_nil)))) (aq_cons (sq_tup (aq_cons sq_str (aq_cons sq_int (aq_cons (sq_var 4) aq_nil)))) (aq_cons (sq_tup (aq_cons sq_str (aq_cons sq_bl (aq_cons sq_int aq_nil)))) (aq_cons (sq_tup (aq_cons sq_str (aq_cons sq_int aq_nil))) aq_nil)))))))))))) (gt_name 6 fit)
  (sb_cons (ss_set 7 fit (SQ.se (sq_bin (op_addA fit) o_add (sq_bin (op_addA fit) o_add (sq_slice fit (sq_var 3) oq_none (oq_some (sq_var 4))) (sq_lst (aq_cons (sq_var 6) aq_nil))) (sq_slice fit (sq_var 3) (oq_some (sq_bin (op_addA fit) o_add (sq_var 4) sq_int)) oq_none))))
  (sb_one (ss_if (WT.st (wt_or (st_cmp (op_neA fit) o_ne (se_call tk h_law_refusal (hr.mono (by decide)) (AQ.ae (aq_cons (sq_var 7) aq_nil))) (SQ.se (sq_var 4))) (wt_or1 (st_cmp op_notBl o_isNotB (se_call tk h_is_code (hr.mono (by decide)) (AQ.ae (aq_cons (sq_var 7) aq_nil))) (SQ.se sq_bl)))))
  (sb_one (ss_ret 1 (SQ.se sq_bl)))
  sb_nil))))
  (sb_one (ss_for fit pw (si_seq fit (SQ.se (sq_lst (aq_cons (sq_tup (aq_cons sq_str (aq_cons (sq_tup aq_nil) (aq_cons sq_int aq_nil)))) (aq_cons (sq_tup (aq_cons sq_str (aq_cons (sq_tup (aq_cons sq_int aq_nil)) (aq_cons sq_int aq_nil)))) (aq_cons (sq_tup (aq_cons sq_str (aq_cons (sq_tup (aq_cons sq_int (aq_cons sq_int aq_nil))) (aq_cons sq_int aq_nil)))) (aq_cons (sq_tup (aq_cons sq_str (aq_cons (sq_lst (aq_cons sq_int (aq_cons sq_int aq_nil))) (aq_cons sq_int aq_nil)))) (aq_cons (sq_tup (aq_cons sq_str (aq_cons (sq_tup (aq_cons sq_int (aq_cons sq_int aq_nil))) (aq_cons (sq_un un_neg o_neg sq_int) aq_nil)))) (aq_cons (sq_tup (aq_cons sq_str (aq_cons (sq_tup (aq_cons sq_int (aq_cons sq_int aq_nil))) (aq_cons sq_non aq_nil)))) (aq_cons (sq_tup (aq_cons sq_str (aq_cons (sq_tup (aq_cons sq_int (aq_cons sq_int aq_nil))) aq_nil))) (aq_cons (sq_tup (aq_cons sq_str (aq_cons (sq_tup (aq_cons sq_bl (aq_cons sq_int aq_nil))) (aq_cons sq_int aq_nil)))) (aq_cons (sq_tup (aq_cons sq_non (aq_cons sq_int (aq_cons sq_int aq_nil)))) aq_nil)))))))))))) (gt_name 6 fit)
  (sb_one (ss_if (st_cmp (op_neA fit) o_ne (se_call tk h_law_refusal (hr.mono (by decide)) (AQ.ae (aq_cons (sq_bin (op_addA fit) o_add (sq_bin (op_addA fit) o_add (sq_slice fit (sq_var 3) oq_none (oq_some (sq_var 4))) (sq_lst (aq_cons (sq_var 6) aq_nil))) (sq_lst (aq_cons sq_non aq_nil))) aq_nil))) (SQ.se (sq_var 4)))
  (sb_one (ss_ret 1 (SQ.se sq_bl)))
  sb_nil))))))))))
  (sb_cons (ss_for fit pw (si_seq fit (SQ.se (sq_lst (aq_cons sq_non (aq_cons (sq_lst aq_nil) (aq_cons (sq_tup aq_nil) (aq_cons (sq_callTy (call_tupleA fit) o_tuple T.b_tuple (aq_cons (sq_var 3) aq_nil)) (aq_cons (sq_bin op_mulA o_mul (sq_lst (aq_cons (sq_tup (aq_cons sq_str (aq_cons sq_int aq_nil))) aq_nil)) sq_int) (aq_cons sq_str aq_nil))))))))) (gt_name 6 fit)
  (sb_one (ss_if (WT.st (wt_or (st_cmp (op_neA fit) o_ne (se_call tk h_law_refusal (hr.mono (by decide)) (AQ.ae (aq_cons (sq_var 6) aq_nil))) (SQ.se (sq_un un_neg o_neg sq_int))) (wt_or1 (st_cmp op_notBl o_isNotB (se_call tk h_is_code (hr.mono (by decide)) (AQ.ae (aq_cons (sq_var 6) aq_nil))) (SQ.se sq_bl)))))
  (sb_one (ss_ret 1 (SQ.se sq_bl)))
  sb_nil)))
  (sb_one (ss_ret 1 (se_and fit (se_cmp op_isN o_is (se_call tk h_law_refusal (hr.mono (by decide)) (AQ.ae (aq_cons (sq_bin op_mulA o_mul (sq_lst (aq_cons (sq_tup (aq_cons sq_str (aq_cons sq_int aq_nil))) aq_nil)) sq_int) aq_nil))) (SQ.se sq_non)) (se_one (se_cmp op_isN o_is (se_call tk h_law_refusal (hr.mono (by decide)) (AQ.ae (aq_cons (sq_lst (aq_cons (sq_tup (aq_cons sq_str (aq_cons (sq_bin op_pow o_pow sq_int sq_int) aq_nil))) (aq_cons (sq_tup (aq_cons sq_str (aq_cons sq_int (aq_cons sq_int aq_nil)))) aq_nil))) aq_nil))) (SQ.se sq_non)))))))))
end
end k50
end Bv
set_option maxHeartbeats 0
namespace Bv
namespace k50
open PySem L2
theorem ok_whole : PyData.strOk ("whole" : Str) = true := by decide +kernel
theorem ok_root : PyData.strOk ("root" : Str) = true := by decide +kernel
theorem ok_of : PyData.strOk ("of" : Str) = true := by decide +kernel
theorem ok_plus : PyData.strOk ("plus" : Str) = true := by decide +kernel
theorem ok_less : PyData.strOk ("less" : Str) = true := by decide +kernel
theorem ok_by : PyData.strOk ("by" : Str) = true := by decide +kernel
theorem ok_over : PyData.strOk ("over" : Str) = true := by decide +kernel
theorem ok_minus : PyData.strOk ("minus" : Str) = true := by decide +kernel
theorem ok_power : PyData.strOk ("power" : Str) = true := by decide +kernel
theorem ok_times : PyData.strOk ("times" : Str) = true := by decide +kernel
theorem eq_whole_whole : (("whole" : Str) == "whole") = true := by decide +kernel
theorem eq_whole_root : (("whole" : Str) == "root") = false := by decide +kernel
theorem eq_whole_of : (("whole" : Str) == "of") = false := by decide +kernel
theorem eq_whole_plus : (("whole" : Str) == "plus") = false := by decide +kernel
theorem eq_whole_less : (("whole" : Str) == "less") = false := by decide +kernel
theorem eq_whole_by : (("whole" : Str) == "by") = false := by decide +kernel
theorem eq_whole_over : (("whole" : Str) == "over") = false := by decide +kernel
theorem eq_whole_minus : (("whole" : Str) == "minus") = false := by decide +kernel
theorem eq_whole_power : (("whole" : Str) == "power") = false := by decide +kernel
theorem eq_whole_times : (("whole" : Str) == "times") = false := by decide +kernel
theorem eq_root_whole : (("root" : Str) == "whole") = false := by decide +kernel
theorem eq_root_root : (("root" : Str) == "root") = true := by decide +kernel
theorem eq_root_of : (("root" : Str) == "of") = false := by decide +kernel
theorem eq_root_plus : (("root" : Str) == "plus") = false := by decide +kernel
theorem eq_root_less : (("root" : Str) == "less") = false := by decide +kernel
theorem eq_root_by : (("root" : Str) == "by") = false := by decide +kernel
theorem eq_root_over : (("root" : Str) == "over") = false := by decide +kernel
theorem eq_root_minus : (("root" : Str) == "minus") = false := by decide +kernel
theorem eq_root_power : (("root" : Str) == "power") = false := by decide +kernel
theorem eq_root_times : (("root" : Str) == "times") = false := by decide +kernel
theorem eq_of_whole : (("of" : Str) == "whole") = false := by decide +kernel
theorem eq_of_root : (("of" : Str) == "root") = false := by decide +kernel
theorem eq_of_of : (("of" : Str) == "of") = true := by decide +kernel
theorem eq_of_plus : (("of" : Str) == "plus") = false := by decide +kernel
theorem eq_of_less : (("of" : Str) == "less") = false := by decide +kernel
theorem eq_of_by : (("of" : Str) == "by") = false := by decide +kernel
theorem eq_of_over : (("of" : Str) == "over") = false := by decide +kernel
theorem eq_of_minus : (("of" : Str) == "minus") = false := by decide +kernel
theorem eq_of_power : (("of" : Str) == "power") = false := by decide +kernel
theorem eq_of_times : (("of" : Str) == "times") = false := by decide +kernel
theorem eq_plus_whole : (("plus" : Str) == "whole") = false := by decide +kernel
theorem eq_plus_root : (("plus" : Str) == "root") = false := by decide +kernel
theorem eq_plus_of : (("plus" : Str) == "of") = false := by decide +kernel
theorem eq_plus_plus : (("plus" : Str) == "plus") = true := by decide +kernel
theorem eq_plus_less : (("plus" : Str) == "less") = false := by decide +kernel
theorem eq_plus_by : (("plus" : Str) == "by") = false := by decide +kernel
theorem eq_plus_over : (("plus" : Str) == "over") = false := by decide +kernel
theorem eq_plus_minus : (("plus" : Str) == "minus") = false := by decide +kernel
theorem eq_plus_power : (("plus" : Str) == "power") = false := by decide +kernel
theorem eq_plus_times : (("plus" : Str) == "times") = false := by decide +kernel
theorem eq_less_whole : (("less" : Str) == "whole") = false := by decide +kernel
theorem eq_less_root : (("less" : Str) == "root") = false := by decide +kernel
theorem eq_less_of : (("less" : Str) == "of") = false := by decide +kernel
theorem eq_less_plus : (("less" : Str) == "plus") = false := by decide +kernel
theorem eq_less_less : (("less" : Str) == "less") = true := by decide +kernel
theorem eq_less_by : (("less" : Str) == "by") = false := by decide +kernel
theorem eq_less_over : (("less" : Str) == "over") = false := by decide +kernel
theorem eq_less_minus : (("less" : Str) == "minus") = false := by decide +kernel
theorem eq_less_power : (("less" : Str) == "power") = false := by decide +kernel
theorem eq_less_times : (("less" : Str) == "times") = false := by decide +kernel
theorem eq_by_whole : (("by" : Str) == "whole") = false := by decide +kernel
theorem eq_by_root : (("by" : Str) == "root") = false := by decide +kernel
theorem eq_by_of : (("by" : Str) == "of") = false := by decide +kernel
theorem eq_by_plus : (("by" : Str) == "plus") = false := by decide +kernel
theorem eq_by_less : (("by" : Str) == "less") = false := by decide +kernel
theorem eq_by_by : (("by" : Str) == "by") = true := by decide +kernel
theorem eq_by_over : (("by" : Str) == "over") = false := by decide +kernel
theorem eq_by_minus : (("by" : Str) == "minus") = false := by decide +kernel
theorem eq_by_power : (("by" : Str) == "power") = false := by decide +kernel
theorem eq_by_times : (("by" : Str) == "times") = false := by decide +kernel
theorem eq_over_whole : (("over" : Str) == "whole") = false := by decide +kernel
theorem eq_over_root : (("over" : Str) == "root") = false := by decide +kernel
theorem eq_over_of : (("over" : Str) == "of") = false := by decide +kernel
theorem eq_over_plus : (("over" : Str) == "plus") = false := by decide +kernel
theorem eq_over_less : (("over" : Str) == "less") = false := by decide +kernel
theorem eq_over_by : (("over" : Str) == "by") = false := by decide +kernel
theorem eq_over_over : (("over" : Str) == "over") = true := by decide +kernel
theorem eq_over_minus : (("over" : Str) == "minus") = false := by decide +kernel
theorem eq_over_power : (("over" : Str) == "power") = false := by decide +kernel
theorem eq_over_times : (("over" : Str) == "times") = false := by decide +kernel
theorem eq_minus_whole : (("minus" : Str) == "whole") = false := by decide +kernel
theorem eq_minus_root : (("minus" : Str) == "root") = false := by decide +kernel
theorem eq_minus_of : (("minus" : Str) == "of") = false := by decide +kernel
theorem eq_minus_plus : (("minus" : Str) == "plus") = false := by decide +kernel
theorem eq_minus_less : (("minus" : Str) == "less") = false := by decide +kernel
theorem eq_minus_by : (("minus" : Str) == "by") = false := by decide +kernel
theorem eq_minus_over : (("minus" : Str) == "over") = false := by decide +kernel
theorem eq_minus_minus : (("minus" : Str) == "minus") = true := by decide +kernel
theorem eq_minus_power : (("minus" : Str) == "power") = false := by decide +kernel
theorem eq_minus_times : (("minus" : Str) == "times") = false := by decide +kernel
theorem eq_power_whole : (("power" : Str) == "whole") = false := by decide +kernel
theorem eq_power_root : (("power" : Str) == "root") = false := by decide +kernel
theorem eq_power_of : (("power" : Str) == "of") = false := by decide +kernel
theorem eq_power_plus : (("power" : Str) == "plus") = false := by decide +kernel
theorem eq_power_less : (("power" : Str) == "less") = false := by decide +kernel
theorem eq_power_by : (("power" : Str) == "by") = false := by decide +kernel
theorem eq_power_over : (("power" : Str) == "over") = false := by decide +kernel
theorem eq_power_minus : (("power" : Str) == "minus") = false := by decide +kernel
theorem eq_power_power : (("power" : Str) == "power") = true := by decide +kernel
theorem eq_power_times : (("power" : Str) == "times") = false := by decide +kernel
theorem eq_times_whole : (("times" : Str) == "whole") = false := by decide +kernel
theorem eq_times_root : (("times" : Str) == "root") = false := by decide +kernel
theorem eq_times_of : (("times" : Str) == "of") = false := by decide +kernel
theorem eq_times_plus : (("times" : Str) == "plus") = false := by decide +kernel
theorem eq_times_less : (("times" : Str) == "less") = false := by decide +kernel
theorem eq_times_by : (("times" : Str) == "by") = false := by decide +kernel
theorem eq_times_over : (("times" : Str) == "over") = false := by decide +kernel
theorem eq_times_minus : (("times" : Str) == "minus") = false := by decide +kernel
theorem eq_times_power : (("times" : Str) == "power") = false := by decide +kernel
theorem eq_times_times : (("times" : Str) == "times") = true := by decide +kernel
end k50
end Bv
set_option maxHeartbeats 0
namespace Bv
theorem atI_nn {α : Type} {xs : List α} {k : Int} (h : 0 ≤ k) : L2.atI xs k = xs[k.toNat]? := by
  unfold L2.atI L2.ixN
  rw [if_pos h]
  by_cases hk : k < (xs.length : Int)
  · rw [if_pos hk]; rfl
  · rw [if_neg hk]
    rw [List.getElem?_eq_none (by omega)]
    rfl
theorem atI_m1 {α : Type} {xs : List α} : L2.atI xs (-1) = xs[xs.length - 1]? := by
  unfold L2.atI L2.ixN
  rw [if_neg (by decide)]
  by_cases hk : -(xs.length : Int) ≤ -1
  · rw [if_pos hk]
    have : (-1 + (xs.length : Int)).toNat = xs.length - 1 := by omega
    rw [this]; rfl
  · rw [if_neg hk]
    rw [List.getElem?_eq_none (by omega)]
    rfl
theorem blt_eq (a b : Nat) : Nat.blt a b = decide (a < b) := by
  rw [Bool.eq_iff_iff]; simp [Nat.blt]; omega
theorem ble_eq (a b : Nat) : Nat.ble a b = decide (a ≤ b) := by
  rw [Bool.eq_iff_iff]; simp
namespace k50
open PySem L2
theorem whole_int (i : Int) : m_is_whole [.fz (.int i)] = .ret (.fz (.bool true)) [.fz (.int i)] := by
  simp [m_is_whole, g_is_whole, fnF, bCons, bNil, setE, quiet, quiet2, rvar, gt, Oe.bindS, mv, So.bind, rd, rdI, gIx, gMod, gDiv, gSub, gAdd, gMul, gPow, gNeg, quiet1, List.set, ifE, quietT, asB, asBE, tru, truE, truth, gEq, gNe, plain0, SeqAt.shaped, PyData.eqv, PyData.eqvAll, PyData.canLay0, PyData.canLayAll0, PyData.depth, PyData.depthAll, Ot.bindS, retE, dispTQ, dispLQ, dispTE, dispLE, qCons, qNil, frzQ, frzE, frz1, mvOut, outF, asOf, line, bitsOk, notQ, notE, andQ, orQ, andE, orE, vAndQ, vOrQ, vAndE, vOrE, Oe.bind, Ot.bind, Oe.bindT, Ot.bindT, Oa.bind, Oa.bindA, Oe.bindA, Oa.bindS, lCons, lNil, quietA, gather, gather1, back, back1, slR, callE, quietN, loudN, rds, gLen, gLt, gLe, gGt, gGe, chainQ, gIsI, isB, gNot, gIs, gIsNot, gIsB, gIsNotB, dropE, retX, matchE, cCons, cNil, mSeq, mCons, mNil, mLit, mCap, mAny, bindE, raiseE, tryE, tryAsE, unSo, isXE, sliceQ, noO, someO, gSl, iteQ, iteE, parE, loud2, loud1, gIn, gNotIn, gAll, shapedL, inL, allB, Oe.bindI, Oa.bindI, seqI, lcE, lcL, wipeE, backE, asgN, yesE, atI_m1, atI_nn, blt_eq, ble_eq, noPf, rfld, subE, plR, plW, gow, gof, mtQE, mtE, isL, gAppend, methE, newE, isOb, fldE, flOf, setFl]
theorem lower_int (a i : Int) : m_is_lower [.fz (.int a), .fz (.int i)] = .ret (.fz (.bool (decide (0 ≤ a) && decide (a < i)))) [.fz (.int a), .fz (.int i)] := by
  by_cases h : 0 ≤ a <;> by_cases h2 : a < i <;> simp [m_is_lower, g_is_lower, whole_int, h, h2, fnF, bCons, bNil, setE, quiet, quiet2, rvar, gt, Oe.bindS, mv, So.bind, rd, rdI, gIx, gMod, gDiv, gSub, gAdd, gMul, gPow, gNeg, quiet1, List.set, ifE, quietT, asB, asBE, tru, truE, truth, gEq, gNe, plain0, SeqAt.shaped, PyData.eqv, PyData.eqvAll, PyData.canLay0, PyData.canLayAll0, PyData.depth, PyData.depthAll, Ot.bindS, retE, dispTQ, dispLQ, dispTE, dispLE, qCons, qNil, frzQ, frzE, frz1, mvOut, outF, asOf, line, bitsOk, notQ, notE, andQ, orQ, andE, orE, vAndQ, vOrQ, vAndE, vOrE, Oe.bind, Ot.bind, Oe.bindT, Ot.bindT, Oa.bind, Oa.bindA, Oe.bindA, Oa.bindS, lCons, lNil, quietA, gather, gather1, back, back1, slR, callE, quietN, loudN, rds, gLen, gLt, gLe, gGt, gGe, chainQ, gIsI, isB, gNot, gIs, gIsNot, gIsB, gIsNotB, dropE, retX, matchE, cCons, cNil, mSeq, mCons, mNil, mLit, mCap, mAny, bindE, raiseE, tryE, tryAsE, unSo, isXE, sliceQ, noO, someO, gSl, iteQ, iteE, parE, loud2, loud1, gIn, gNotIn, gAll, shapedL, inL, allB, Oe.bindI, Oa.bindI, seqI, lcE, lcL, wipeE, backE, asgN, yesE, atI_m1, atI_nn, blt_eq, ble_eq, noPf, rfld, subE, plR, plW, gow, gof, mtQE, mtE, isL, gAppend, methE, newE, isOb, fldE, flOf, setFl]
theorem ins_whole (n i : Int) : m_is_instruction [.fz (.tuple [.str "whole", .int n]), .fz (.int i)] = .ret (.fz (.bool true)) [.fz (.tuple [.str "whole", .int n]), .fz (.int i)] := by
  simp [m_is_instruction, g_is_instruction, whole_int, fnF, bCons, bNil, setE, quiet, quiet2, rvar, gt, Oe.bindS, mv, So.bind, rd, rdI, gIx, gMod, gDiv, gSub, gAdd, gMul, gPow, gNeg, quiet1, List.set, ifE, quietT, asB, asBE, tru, truE, truth, gEq, gNe, plain0, SeqAt.shaped, PyData.eqv, PyData.eqvAll, PyData.canLay0, PyData.canLayAll0, PyData.depth, PyData.depthAll, Ot.bindS, retE, dispTQ, dispLQ, dispTE, dispLE, qCons, qNil, frzQ, frzE, frz1, mvOut, outF, asOf, line, bitsOk, notQ, notE, andQ, orQ, andE, orE, vAndQ, vOrQ, vAndE, vOrE, Oe.bind, Ot.bind, Oe.bindT, Ot.bindT, Oa.bind, Oa.bindA, Oe.bindA, Oa.bindS, lCons, lNil, quietA, gather, gather1, back, back1, slR, callE, quietN, loudN, rds, gLen, gLt, gLe, gGt, gGe, chainQ, gIsI, isB, gNot, gIs, gIsNot, gIsB, gIsNotB, dropE, retX, matchE, cCons, cNil, mSeq, mCons, mNil, mLit, mCap, mAny, bindE, raiseE, tryE, tryAsE, unSo, isXE, sliceQ, noO, someO, gSl, iteQ, iteE, parE, loud2, loud1, gIn, gNotIn, gAll, shapedL, inL, allB, Oe.bindI, Oa.bindI, seqI, lcE, lcL, wipeE, backE, asgN, yesE, atI_m1, atI_nn, blt_eq, ble_eq, noPf, rfld, subE, plR, plW, gow, gof, mtQE, mtE, isL, gAppend, methE, newE, isOb, fldE, flOf, setFl, ok_whole, ok_root, ok_of, ok_plus, ok_less, ok_by, ok_over, ok_minus, ok_power, ok_times, eq_whole_whole, eq_whole_root, eq_whole_of, eq_whole_plus, eq_whole_less, eq_whole_by, eq_whole_over, eq_whole_minus, eq_whole_power, eq_whole_times, eq_root_whole, eq_root_root, eq_root_of, eq_root_plus, eq_root_less, eq_root_by, eq_root_over, eq_root_minus, eq_root_power, eq_root_times, eq_of_whole, eq_of_root, eq_of_of, eq_of_plus, eq_of_less, eq_of_by, eq_of_over, eq_of_minus, eq_of_power, eq_of_times, eq_plus_whole, eq_plus_root, eq_plus_of, eq_plus_plus, eq_plus_less, eq_plus_by, eq_plus_over, eq_plus_minus, eq_plus_power, eq_plus_times, eq_less_whole, eq_less_root, eq_less_of, eq_less_plus, eq_less_less, eq_less_by, eq_less_over, eq_less_minus, eq_less_power, eq_less_times, eq_by_whole, eq_by_root, eq_by_of, eq_by_plus, eq_by_less, eq_by_by, eq_by_over, eq_by_minus, eq_by_power, eq_by_times, eq_over_whole, eq_over_root, eq_over_of, eq_over_plus, eq_over_less, eq_over_by, eq_over_over, eq_over_minus, eq_over_power, eq_over_times, eq_minus_whole, eq_minus_root, eq_minus_of, eq_minus_plus, eq_minus_less, eq_minus_by, eq_minus_over, eq_minus_minus, eq_minus_power, eq_minus_times, eq_power_whole, eq_power_root, eq_power_of, eq_power_plus, eq_power_less, eq_power_by, eq_power_over, eq_power_minus, eq_power_power, eq_power_times, eq_times_whole, eq_times_root, eq_times_of, eq_times_plus, eq_times_less, eq_times_by, eq_times_over, eq_times_minus, eq_times_power, eq_times_times]
theorem isw_none : m_is_whole [.fz .none] = .ret (.fz (.bool false)) [.fz .none] := by
  simp [m_is_whole, g_is_whole, fnF, bCons, bNil, setE, quiet, quiet2, rvar, gt, Oe.bindS, mv, So.bind, rd, rdI, gIx, gMod, gDiv, gSub, gAdd, gMul, gPow, gNeg, quiet1, List.set, ifE, quietT, asB, asBE, tru, truE, truth, gEq, gNe, plain0, SeqAt.shaped, PyData.eqv, PyData.eqvAll, PyData.canLay0, PyData.canLayAll0, PyData.depth, PyData.depthAll, Ot.bindS, retE, dispTQ, dispLQ, dispTE, dispLE, qCons, qNil, frzQ, frzE, frz1, mvOut, outF, asOf, line, bitsOk, notQ, notE, andQ, orQ, andE, orE, vAndQ, vOrQ, vAndE, vOrE, Oe.bind, Ot.bind, Oe.bindT, Ot.bindT, Oa.bind, Oa.bindA, Oe.bindA, Oa.bindS, lCons, lNil, quietA, gather, gather1, back, back1, slR, callE, quietN, loudN, rds, gLen, gLt, gLe, gGt, gGe, chainQ, gIsI, isB, gNot, gIs, gIsNot, gIsB, gIsNotB, dropE, retX, matchE, cCons, cNil, mSeq, mCons, mNil, mLit, mCap, mAny, bindE, raiseE, tryE, tryAsE, unSo, isXE, sliceQ, noO, someO, gSl, iteQ, iteE, parE, loud2, loud1, gIn, gNotIn, gAll, shapedL, inL, allB, Oe.bindI, Oa.bindI, seqI, lcE, lcL, wipeE, backE, asgN, yesE, atI_m1, atI_nn, blt_eq, ble_eq, noPf, rfld, subE, plR, plW, gow, gof, mtQE, mtE, isL, gAppend, methE, newE, isOb, fldE, flOf, setFl]
theorem isw_bool (b : Bool) : m_is_whole [.fz (.bool b)] = .ret (.fz (.bool false)) [.fz (.bool b)] := by
  simp [m_is_whole, g_is_whole, fnF, bCons, bNil, setE, quiet, quiet2, rvar, gt, Oe.bindS, mv, So.bind, rd, rdI, gIx, gMod, gDiv, gSub, gAdd, gMul, gPow, gNeg, quiet1, List.set, ifE, quietT, asB, asBE, tru, truE, truth, gEq, gNe, plain0, SeqAt.shaped, PyData.eqv, PyData.eqvAll, PyData.canLay0, PyData.canLayAll0, PyData.depth, PyData.depthAll, Ot.bindS, retE, dispTQ, dispLQ, dispTE, dispLE, qCons, qNil, frzQ, frzE, frz1, mvOut, outF, asOf, line, bitsOk, notQ, notE, andQ, orQ, andE, orE, vAndQ, vOrQ, vAndE, vOrE, Oe.bind, Ot.bind, Oe.bindT, Ot.bindT, Oa.bind, Oa.bindA, Oe.bindA, Oa.bindS, lCons, lNil, quietA, gather, gather1, back, back1, slR, callE, quietN, loudN, rds, gLen, gLt, gLe, gGt, gGe, chainQ, gIsI, isB, gNot, gIs, gIsNot, gIsB, gIsNotB, dropE, retX, matchE, cCons, cNil, mSeq, mCons, mNil, mLit, mCap, mAny, bindE, raiseE, tryE, tryAsE, unSo, isXE, sliceQ, noO, someO, gSl, iteQ, iteE, parE, loud2, loud1, gIn, gNotIn, gAll, shapedL, inL, allB, Oe.bindI, Oa.bindI, seqI, lcE, lcL, wipeE, backE, asgN, yesE, atI_m1, atI_nn, blt_eq, ble_eq, noPf, rfld, subE, plR, plW, gow, gof, mtQE, mtE, isL, gAppend, methE, newE, isOb, fldE, flOf, setFl]
theorem low_none (i : Int) : m_is_lower [.fz .none, .fz (.int i)] = .ret (.fz (.bool false)) [.fz .none, .fz (.int i)] := by
  simp [m_is_lower, g_is_lower, isw_none, fnF, bCons, bNil, setE, quiet, quiet2, rvar, gt, Oe.bindS, mv, So.bind, rd, rdI, gIx, gMod, gDiv, gSub, gAdd, gMul, gPow, gNeg, quiet1, List.set, ifE, quietT, asB, asBE, tru, truE, truth, gEq, gNe, plain0, SeqAt.shaped, PyData.eqv, PyData.eqvAll, PyData.canLay0, PyData.canLayAll0, PyData.depth, PyData.depthAll, Ot.bindS, retE, dispTQ, dispLQ, dispTE, dispLE, qCons, qNil, frzQ, frzE, frz1, mvOut, outF, asOf, line, bitsOk, notQ, notE, andQ, orQ, andE, orE, vAndQ, vOrQ, vAndE, vOrE, Oe.bind, Ot.bind, Oe.bindT, Ot.bindT, Oa.bind, Oa.bindA, Oe.bindA, Oa.bindS, lCons, lNil, quietA, gather, gather1, back, back1, slR, callE, quietN, loudN, rds, gLen, gLt, gLe, gGt, gGe, chainQ, gIsI, isB, gNot, gIs, gIsNot, gIsB, gIsNotB, dropE, retX, matchE, cCons, cNil, mSeq, mCons, mNil, mLit, mCap, mAny, bindE, raiseE, tryE, tryAsE, unSo, isXE, sliceQ, noO, someO, gSl, iteQ, iteE, parE, loud2, loud1, gIn, gNotIn, gAll, shapedL, inL, allB, Oe.bindI, Oa.bindI, seqI, lcE, lcL, wipeE, backE, asgN, yesE, atI_m1, atI_nn, blt_eq, ble_eq, noPf, rfld, subE, plR, plW, gow, gof, mtQE, mtE, isL, gAppend, methE, newE, isOb, fldE, flOf, setFl]
theorem ins_root2 (a i : Int) : m_is_instruction [.fz (.tuple [.str "root", .int 2, .int a]), .fz (.int i)] = .ret (.fz (.bool (decide (0 ≤ a) && decide (a < i)))) [.fz (.tuple [.str "root", .int 2, .int a]), .fz (.int i)] := by
  simp [m_is_instruction, g_is_instruction, whole_int, lower_int, fnF, bCons, bNil, setE, quiet, quiet2, rvar, gt, Oe.bindS, mv, So.bind, rd, rdI, gIx, gMod, gDiv, gSub, gAdd, gMul, gPow, gNeg, quiet1, List.set, ifE, quietT, asB, asBE, tru, truE, truth, gEq, gNe, plain0, SeqAt.shaped, PyData.eqv, PyData.eqvAll, PyData.canLay0, PyData.canLayAll0, PyData.depth, PyData.depthAll, Ot.bindS, retE, dispTQ, dispLQ, dispTE, dispLE, qCons, qNil, frzQ, frzE, frz1, mvOut, outF, asOf, line, bitsOk, notQ, notE, andQ, orQ, andE, orE, vAndQ, vOrQ, vAndE, vOrE, Oe.bind, Ot.bind, Oe.bindT, Ot.bindT, Oa.bind, Oa.bindA, Oe.bindA, Oa.bindS, lCons, lNil, quietA, gather, gather1, back, back1, slR, callE, quietN, loudN, rds, gLen, gLt, gLe, gGt, gGe, chainQ, gIsI, isB, gNot, gIs, gIsNot, gIsB, gIsNotB, dropE, retX, matchE, cCons, cNil, mSeq, mCons, mNil, mLit, mCap, mAny, bindE, raiseE, tryE, tryAsE, unSo, isXE, sliceQ, noO, someO, gSl, iteQ, iteE, parE, loud2, loud1, gIn, gNotIn, gAll, shapedL, inL, allB, Oe.bindI, Oa.bindI, seqI, lcE, lcL, wipeE, backE, asgN, yesE, atI_m1, atI_nn, blt_eq, ble_eq, noPf, rfld, subE, plR, plW, gow, gof, mtQE, mtE, isL, gAppend, methE, newE, isOb, fldE, flOf, setFl, ok_whole, ok_root, ok_of, ok_plus, ok_less, ok_by, ok_over, ok_minus, ok_power, ok_times, eq_whole_whole, eq_whole_root, eq_whole_of, eq_whole_plus, eq_whole_less, eq_whole_by, eq_whole_over, eq_whole_minus, eq_whole_power, eq_whole_times, eq_root_whole, eq_root_root, eq_root_of, eq_root_plus, eq_root_less, eq_root_by, eq_root_over, eq_root_minus, eq_root_power, eq_root_times, eq_of_whole, eq_of_root, eq_of_of, eq_of_plus, eq_of_less, eq_of_by, eq_of_over, eq_of_minus, eq_of_power, eq_of_times, eq_plus_whole, eq_plus_root, eq_plus_of, eq_plus_plus, eq_plus_less, eq_plus_by, eq_plus_over, eq_plus_minus, eq_plus_power, eq_plus_times, eq_less_whole, eq_less_root, eq_less_of, eq_less_plus, eq_less_less, eq_less_by, eq_less_over, eq_less_minus, eq_less_power, eq_less_times, eq_by_whole, eq_by_root, eq_by_of, eq_by_plus, eq_by_less, eq_by_by, eq_by_over, eq_by_minus, eq_by_power, eq_by_times, eq_over_whole, eq_over_root, eq_over_of, eq_over_plus, eq_over_less, eq_over_by, eq_over_over, eq_over_minus, eq_over_power, eq_over_times, eq_minus_whole, eq_minus_root, eq_minus_of, eq_minus_plus, eq_minus_less, eq_minus_by, eq_minus_over, eq_minus_minus, eq_minus_power, eq_minus_times, eq_power_whole, eq_power_root, eq_power_of, eq_power_plus, eq_power_less, eq_power_by, eq_power_over, eq_power_minus, eq_power_power, eq_power_times, eq_times_whole, eq_times_root, eq_times_of, eq_times_plus, eq_times_less, eq_times_by, eq_times_over, eq_times_minus, eq_times_power, eq_times_times]
theorem ins_root3 (a i : Int) : m_is_instruction [.fz (.tuple [.str "root", .int 3, .int a]), .fz (.int i)] = .ret (.fz (.bool (decide (0 ≤ a) && decide (a < i)))) [.fz (.tuple [.str "root", .int 3, .int a]), .fz (.int i)] := by
  simp [m_is_instruction, g_is_instruction, whole_int, lower_int, fnF, bCons, bNil, setE, quiet, quiet2, rvar, gt, Oe.bindS, mv, So.bind, rd, rdI, gIx, gMod, gDiv, gSub, gAdd, gMul, gPow, gNeg, quiet1, List.set, ifE, quietT, asB, asBE, tru, truE, truth, gEq, gNe, plain0, SeqAt.shaped, PyData.eqv, PyData.eqvAll, PyData.canLay0, PyData.canLayAll0, PyData.depth, PyData.depthAll, Ot.bindS, retE, dispTQ, dispLQ, dispTE, dispLE, qCons, qNil, frzQ, frzE, frz1, mvOut, outF, asOf, line, bitsOk, notQ, notE, andQ, orQ, andE, orE, vAndQ, vOrQ, vAndE, vOrE, Oe.bind, Ot.bind, Oe.bindT, Ot.bindT, Oa.bind, Oa.bindA, Oe.bindA, Oa.bindS, lCons, lNil, quietA, gather, gather1, back, back1, slR, callE, quietN, loudN, rds, gLen, gLt, gLe, gGt, gGe, chainQ, gIsI, isB, gNot, gIs, gIsNot, gIsB, gIsNotB, dropE, retX, matchE, cCons, cNil, mSeq, mCons, mNil, mLit, mCap, mAny, bindE, raiseE, tryE, tryAsE, unSo, isXE, sliceQ, noO, someO, gSl, iteQ, iteE, parE, loud2, loud1, gIn, gNotIn, gAll, shapedL, inL, allB, Oe.bindI, Oa.bindI, seqI, lcE, lcL, wipeE, backE, asgN, yesE, atI_m1, atI_nn, blt_eq, ble_eq, noPf, rfld, subE, plR, plW, gow, gof, mtQE, mtE, isL, gAppend, methE, newE, isOb, fldE, flOf, setFl, ok_whole, ok_root, ok_of, ok_plus, ok_less, ok_by, ok_over, ok_minus, ok_power, ok_times, eq_whole_whole, eq_whole_root, eq_whole_of, eq_whole_plus, eq_whole_less, eq_whole_by, eq_whole_over, eq_whole_minus, eq_whole_power, eq_whole_times, eq_root_whole, eq_root_root, eq_root_of, eq_root_plus, eq_root_less, eq_root_by, eq_root_over, eq_root_minus, eq_root_power, eq_root_times, eq_of_whole, eq_of_root, eq_of_of, eq_of_plus, eq_of_less, eq_of_by, eq_of_over, eq_of_minus, eq_of_power, eq_of_times, eq_plus_whole, eq_plus_root, eq_plus_of, eq_plus_plus, eq_plus_less, eq_plus_by, eq_plus_over, eq_plus_minus, eq_plus_power, eq_plus_times, eq_less_whole, eq_less_root, eq_less_of, eq_less_plus, eq_less_less, eq_less_by, eq_less_over, eq_less_minus, eq_less_power, eq_less_times, eq_by_whole, eq_by_root, eq_by_of, eq_by_plus, eq_by_less, eq_by_by, eq_by_over, eq_by_minus, eq_by_power, eq_by_times, eq_over_whole, eq_over_root, eq_over_of, eq_over_plus, eq_over_less, eq_over_by, eq_over_over, eq_over_minus, eq_over_power, eq_over_times, eq_minus_whole, eq_minus_root, eq_minus_of, eq_minus_plus, eq_minus_less, eq_minus_by, eq_minus_over, eq_minus_minus, eq_minus_power, eq_minus_times, eq_power_whole, eq_power_root, eq_power_of, eq_power_plus, eq_power_less, eq_power_by, eq_power_over, eq_power_minus, eq_power_power, eq_power_times, eq_times_whole, eq_times_root, eq_times_of, eq_times_plus, eq_times_less, eq_times_by, eq_times_over, eq_times_minus, eq_times_power, eq_times_times]
def isWord (w : Str) : Prop := w = "plus" ∨ w = "less" ∨ w = "by" ∨ w = "over"
theorem ins_bin {w : Str} (hw : isWord w) (a b i : Int) (ha : 0 ≤ a ∧ a < i) (hb : 0 ≤ b ∧ b < i) : m_is_instruction [.fz (.tuple [.str w, .int a, .int b]), .fz (.int i)] = .ret (.fz (.bool true)) [.fz (.tuple [.str w, .int a, .int b]), .fz (.int i)] := by
  rcases hw with rfl | rfl | rfl | rfl <;> simp [m_is_instruction, g_is_instruction, whole_int, lower_int, c_TWO, ha, hb, fnF, bCons, bNil, setE, quiet, quiet2, rvar, gt, Oe.bindS, mv, So.bind, rd, rdI, gIx, gMod, gDiv, gSub, gAdd, gMul, gPow, gNeg, quiet1, List.set, ifE, quietT, asB, asBE, tru, truE, truth, gEq, gNe, plain0, SeqAt.shaped, PyData.eqv, PyData.eqvAll, PyData.canLay0, PyData.canLayAll0, PyData.depth, PyData.depthAll, Ot.bindS, retE, dispTQ, dispLQ, dispTE, dispLE, qCons, qNil, frzQ, frzE, frz1, mvOut, outF, asOf, line, bitsOk, notQ, notE, andQ, orQ, andE, orE, vAndQ, vOrQ, vAndE, vOrE, Oe.bind, Ot.bind, Oe.bindT, Ot.bindT, Oa.bind, Oa.bindA, Oe.bindA, Oa.bindS, lCons, lNil, quietA, gather, gather1, back, back1, slR, callE, quietN, loudN, rds, gLen, gLt, gLe, gGt, gGe, chainQ, gIsI, isB, gNot, gIs, gIsNot, gIsB, gIsNotB, dropE, retX, matchE, cCons, cNil, mSeq, mCons, mNil, mLit, mCap, mAny, bindE, raiseE, tryE, tryAsE, unSo, isXE, sliceQ, noO, someO, gSl, iteQ, iteE, parE, loud2, loud1, gIn, gNotIn, gAll, shapedL, inL, allB, Oe.bindI, Oa.bindI, seqI, lcE, lcL, wipeE, backE, asgN, yesE, atI_m1, atI_nn, blt_eq, ble_eq, noPf, rfld, subE, plR, plW, gow, gof, mtQE, mtE, isL, gAppend, methE, newE, isOb, fldE, flOf, setFl, ok_whole, ok_root, ok_of, ok_plus, ok_less, ok_by, ok_over, ok_minus, ok_power, ok_times, eq_whole_whole, eq_whole_root, eq_whole_of, eq_whole_plus, eq_whole_less, eq_whole_by, eq_whole_over, eq_whole_minus, eq_whole_power, eq_whole_times, eq_root_whole, eq_root_root, eq_root_of, eq_root_plus, eq_root_less, eq_root_by, eq_root_over, eq_root_minus, eq_root_power, eq_root_times, eq_of_whole, eq_of_root, eq_of_of, eq_of_plus, eq_of_less, eq_of_by, eq_of_over, eq_of_minus, eq_of_power, eq_of_times, eq_plus_whole, eq_plus_root, eq_plus_of, eq_plus_plus, eq_plus_less, eq_plus_by, eq_plus_over, eq_plus_minus, eq_plus_power, eq_plus_times, eq_less_whole, eq_less_root, eq_less_of, eq_less_plus, eq_less_less, eq_less_by, eq_less_over, eq_less_minus, eq_less_power, eq_less_times, eq_by_whole, eq_by_root, eq_by_of, eq_by_plus, eq_by_less, eq_by_by, eq_by_over, eq_by_minus, eq_by_power, eq_by_times, eq_over_whole, eq_over_root, eq_over_of, eq_over_plus, eq_over_less, eq_over_by, eq_over_over, eq_over_minus, eq_over_power, eq_over_times, eq_minus_whole, eq_minus_root, eq_minus_of, eq_minus_plus, eq_minus_less, eq_minus_by, eq_minus_over, eq_minus_minus, eq_minus_power, eq_minus_times, eq_power_whole, eq_power_root, eq_power_of, eq_power_plus, eq_power_less, eq_power_by, eq_power_over, eq_power_minus, eq_power_power, eq_power_times, eq_times_whole, eq_times_root, eq_times_of, eq_times_plus, eq_times_less, eq_times_by, eq_times_over, eq_times_minus, eq_times_power, eq_times_times]
theorem form3 (a b : Int) : m_is_polynomial_form [.fz (.tuple [.int a, .int b, .int 1])] = .ret (.fz (.bool true)) [.fz (.tuple [.int a, .int b, .int 1])] := by
  simp [m_is_polynomial_form, g_is_polynomial_form, whole_int, fnF, bCons, bNil, setE, quiet, quiet2, rvar, gt, Oe.bindS, mv, So.bind, rd, rdI, gIx, gMod, gDiv, gSub, gAdd, gMul, gPow, gNeg, quiet1, List.set, ifE, quietT, asB, asBE, tru, truE, truth, gEq, gNe, plain0, SeqAt.shaped, PyData.eqv, PyData.eqvAll, PyData.canLay0, PyData.canLayAll0, PyData.depth, PyData.depthAll, Ot.bindS, retE, dispTQ, dispLQ, dispTE, dispLE, qCons, qNil, frzQ, frzE, frz1, mvOut, outF, asOf, line, bitsOk, notQ, notE, andQ, orQ, andE, orE, vAndQ, vOrQ, vAndE, vOrE, Oe.bind, Ot.bind, Oe.bindT, Ot.bindT, Oa.bind, Oa.bindA, Oe.bindA, Oa.bindS, lCons, lNil, quietA, gather, gather1, back, back1, slR, callE, quietN, loudN, rds, gLen, gLt, gLe, gGt, gGe, chainQ, gIsI, isB, gNot, gIs, gIsNot, gIsB, gIsNotB, dropE, retX, matchE, cCons, cNil, mSeq, mCons, mNil, mLit, mCap, mAny, bindE, raiseE, tryE, tryAsE, unSo, isXE, sliceQ, noO, someO, gSl, iteQ, iteE, parE, loud2, loud1, gIn, gNotIn, gAll, shapedL, inL, allB, Oe.bindI, Oa.bindI, seqI, lcE, lcL, wipeE, backE, asgN, yesE, atI_m1, atI_nn, blt_eq, ble_eq, noPf, rfld, subE, plR, plW, gow, gof, mtQE, mtE, isL, gAppend, methE, newE, isOb, fldE, flOf, setFl]
theorem poly3 (a b : Int) (ha : -1000 ≤ a ∧ a ≤ 1000) (hb : -1000 ≤ b ∧ b ≤ 1000) : m_is_polynomial [.fz (.tuple [.int a, .int b, .int 1])] = .ret (.fz (.bool true)) [.fz (.tuple [.int a, .int b, .int 1])] := by
  have h1 : (-10000000000000000000000000000000000000000 ≤ a) := by omega
  have h2 : (a ≤ 10000000000000000000000000000000000000000) := by omega
  have h3 : (-10000000000000000000000000000000000000000 ≤ b) := by omega
  have h4 : (b ≤ 10000000000000000000000000000000000000000) := by omega
  simp [m_is_polynomial, g_is_polynomial, form3, c_MOST_DEGREE, c_MOST_COEFFICIENT, h1, h2, h3, h4, fnF, bCons, bNil, setE, quiet, quiet2, rvar, gt, Oe.bindS, mv, So.bind, rd, rdI, gIx, gMod, gDiv, gSub, gAdd, gMul, gPow, gNeg, quiet1, List.set, ifE, quietT, asB, asBE, tru, truE, truth, gEq, gNe, plain0, SeqAt.shaped, PyData.eqv, PyData.eqvAll, PyData.canLay0, PyData.canLayAll0, PyData.depth, PyData.depthAll, Ot.bindS, retE, dispTQ, dispLQ, dispTE, dispLE, qCons, qNil, frzQ, frzE, frz1, mvOut, outF, asOf, line, bitsOk, notQ, notE, andQ, orQ, andE, orE, vAndQ, vOrQ, vAndE, vOrE, Oe.bind, Ot.bind, Oe.bindT, Ot.bindT, Oa.bind, Oa.bindA, Oe.bindA, Oa.bindS, lCons, lNil, quietA, gather, gather1, back, back1, slR, callE, quietN, loudN, rds, gLen, gLt, gLe, gGt, gGe, chainQ, gIsI, isB, gNot, gIs, gIsNot, gIsB, gIsNotB, dropE, retX, matchE, cCons, cNil, mSeq, mCons, mNil, mLit, mCap, mAny, bindE, raiseE, tryE, tryAsE, unSo, isXE, sliceQ, noO, someO, gSl, iteQ, iteE, parE, loud2, loud1, gIn, gNotIn, gAll, shapedL, inL, allB, Oe.bindI, Oa.bindI, seqI, lcE, lcL, wipeE, backE, asgN, yesE, atI_m1, atI_nn, blt_eq, ble_eq, noPf, rfld, subE, plR, plW, gow, gof, mtQE, mtE, isL, gAppend, methE, newE, isOb, fldE, flOf, setFl]
theorem ins_of (a b j i : Int) (ha : -1000 ≤ a ∧ a ≤ 1000) (hb : -1000 ≤ b ∧ b ≤ 1000) (hj : 0 ≤ j) : m_is_instruction [.fz (.tuple [.str "of", .tuple [.int a, .int b, .int 1], .int j]), .fz (.int i)] = .ret (.fz (.bool true)) [.fz (.tuple [.str "of", .tuple [.int a, .int b, .int 1], .int j]), .fz (.int i)] := by
  simp [m_is_instruction, g_is_instruction, poly3, ha, hb, hj, whole_int, fnF, bCons, bNil, setE, quiet, quiet2, rvar, gt, Oe.bindS, mv, So.bind, rd, rdI, gIx, gMod, gDiv, gSub, gAdd, gMul, gPow, gNeg, quiet1, List.set, ifE, quietT, asB, asBE, tru, truE, truth, gEq, gNe, plain0, SeqAt.shaped, PyData.eqv, PyData.eqvAll, PyData.canLay0, PyData.canLayAll0, PyData.depth, PyData.depthAll, Ot.bindS, retE, dispTQ, dispLQ, dispTE, dispLE, qCons, qNil, frzQ, frzE, frz1, mvOut, outF, asOf, line, bitsOk, notQ, notE, andQ, orQ, andE, orE, vAndQ, vOrQ, vAndE, vOrE, Oe.bind, Ot.bind, Oe.bindT, Ot.bindT, Oa.bind, Oa.bindA, Oe.bindA, Oa.bindS, lCons, lNil, quietA, gather, gather1, back, back1, slR, callE, quietN, loudN, rds, gLen, gLt, gLe, gGt, gGe, chainQ, gIsI, isB, gNot, gIs, gIsNot, gIsB, gIsNotB, dropE, retX, matchE, cCons, cNil, mSeq, mCons, mNil, mLit, mCap, mAny, bindE, raiseE, tryE, tryAsE, unSo, isXE, sliceQ, noO, someO, gSl, iteQ, iteE, parE, loud2, loud1, gIn, gNotIn, gAll, shapedL, inL, allB, Oe.bindI, Oa.bindI, seqI, lcE, lcL, wipeE, backE, asgN, yesE, atI_m1, atI_nn, blt_eq, ble_eq, noPf, rfld, subE, plR, plW, gow, gof, mtQE, mtE, isL, gAppend, methE, newE, isOb, fldE, flOf, setFl, ok_whole, ok_root, ok_of, ok_plus, ok_less, ok_by, ok_over, ok_minus, ok_power, ok_times, eq_whole_whole, eq_whole_root, eq_whole_of, eq_whole_plus, eq_whole_less, eq_whole_by, eq_whole_over, eq_whole_minus, eq_whole_power, eq_whole_times, eq_root_whole, eq_root_root, eq_root_of, eq_root_plus, eq_root_less, eq_root_by, eq_root_over, eq_root_minus, eq_root_power, eq_root_times, eq_of_whole, eq_of_root, eq_of_of, eq_of_plus, eq_of_less, eq_of_by, eq_of_over, eq_of_minus, eq_of_power, eq_of_times, eq_plus_whole, eq_plus_root, eq_plus_of, eq_plus_plus, eq_plus_less, eq_plus_by, eq_plus_over, eq_plus_minus, eq_plus_power, eq_plus_times, eq_less_whole, eq_less_root, eq_less_of, eq_less_plus, eq_less_less, eq_less_by, eq_less_over, eq_less_minus, eq_less_power, eq_less_times, eq_by_whole, eq_by_root, eq_by_of, eq_by_plus, eq_by_less, eq_by_by, eq_by_over, eq_by_minus, eq_by_power, eq_by_times, eq_over_whole, eq_over_root, eq_over_of, eq_over_plus, eq_over_less, eq_over_by, eq_over_over, eq_over_minus, eq_over_power, eq_over_times, eq_minus_whole, eq_minus_root, eq_minus_of, eq_minus_plus, eq_minus_less, eq_minus_by, eq_minus_over, eq_minus_minus, eq_minus_power, eq_minus_times, eq_power_whole, eq_power_root, eq_power_of, eq_power_plus, eq_power_less, eq_power_by, eq_power_over, eq_power_minus, eq_power_power, eq_power_times, eq_times_whole, eq_times_root, eq_times_of, eq_times_plus, eq_times_less, eq_times_by, eq_times_over, eq_times_minus, eq_times_power, eq_times_times]
def odds1 (k : Int) : List D := [.none, .tuple [], .str "whole", .tuple [.str "whole"], .tuple [.str "whole", .none], .tuple [.str "whole", .bool true], .list [.str "whole", .int 1], .tuple [.str "plus", .int 0, .int k], .tuple [.str "by", .int k, .int 0]]
def odds2 (k : Int) : List D := [.tuple [.str "less", .int (-1), .int 0], .tuple [.str "over", .int 0, .none], .tuple [.str "plus", .int 0], .tuple [.str "times", .int 0, .int 0], .tuple [.str "root", .int 4, .int 0], .tuple [.str "root", .int 2, .int k], .tuple [.str "root", .bool true, .int 0], .tuple [.str "root", .int 2]]
def odds3 : List D := [.tuple [.str "of", .tuple [], .int 0], .tuple [.str "of", .tuple [.int 5], .int 0], .tuple [.str "of", .tuple [.int 1, .int 0], .int 0], .tuple [.str "of", .list [.int 1, .int 1], .int 0], .tuple [.str "of", .tuple [.int 0, .int 1], .int (-1)], .tuple [.str "of", .tuple [.int 0, .int 1], .none],
  .tuple [.str "of", .tuple [.int 0, .int 1]], .tuple [.str "of", .tuple [.bool true, .int 1], .int 0], .tuple [.none, .int 0, .int 0]]
theorem odd1 (k : Int) (hk : 0 ≤ k) : ∀ d ∈ odds1 k, m_is_instruction [.fz d, .fz (.int k)] = .ret (.fz (.bool false)) [.fz d, .fz (.int k)] := by
  intro d hd
  simp only [odds1, List.mem_cons, List.not_mem_nil, or_false] at hd
  rcases hd with rfl | rfl | rfl | rfl | rfl | rfl | rfl | rfl | rfl
  all_goals first
    | (simp [m_is_instruction, g_is_instruction, isw_none, isw_bool, whole_int, lower_int, low_none, c_TWO, hk, fnF, bCons, bNil, setE, quiet, quiet2, rvar, gt, Oe.bindS, mv, So.bind, rd, rdI, gIx, gMod, gDiv, gSub, gAdd, gMul, gPow, gNeg, quiet1, List.set, ifE, quietT, asB, asBE, tru, truE, truth, gEq, gNe, plain0, SeqAt.shaped, PyData.eqv, PyData.eqvAll, PyData.canLay0, PyData.canLayAll0, PyData.depth, PyData.depthAll, Ot.bindS, retE, dispTQ, dispLQ, dispTE, dispLE, qCons, qNil, frzQ, frzE, frz1, mvOut, outF, asOf, line, bitsOk, notQ, notE, andQ, orQ, andE, orE, vAndQ, vOrQ, vAndE, vOrE, Oe.bind, Ot.bind, Oe.bindT, Ot.bindT, Oa.bind, Oa.bindA, Oe.bindA, Oa.bindS, lCons, lNil, quietA, gather, gather1, back, back1, slR, callE, quietN, loudN, rds, gLen, gLt, gLe, gGt, gGe, chainQ, gIsI, isB, gNot, gIs, gIsNot, gIsB, gIsNotB, dropE, retX, matchE, cCons, cNil, mSeq, mCons, mNil, mLit, mCap, mAny, bindE, raiseE, tryE, tryAsE, unSo, isXE, sliceQ, noO, someO, gSl, iteQ, iteE, parE, loud2, loud1, gIn, gNotIn, gAll, shapedL, inL, allB, Oe.bindI, Oa.bindI, seqI, lcE, lcL, wipeE, backE, asgN, yesE, atI_m1, atI_nn, blt_eq, ble_eq, noPf, rfld, subE, plR, plW, gow, gof, mtQE, mtE, isL, gAppend, methE, newE, isOb, fldE, flOf, setFl, ok_whole, ok_root, ok_of, ok_plus, ok_less, ok_by, ok_over, ok_minus, ok_power, ok_times, eq_whole_whole, eq_whole_root, eq_whole_of, eq_whole_plus, eq_whole_less, eq_whole_by, eq_whole_over, eq_whole_minus, eq_whole_power, eq_whole_times, eq_root_whole, eq_root_root, eq_root_of, eq_root_plus, eq_root_less, eq_root_by, eq_root_over, eq_root_minus, eq_root_power, eq_root_times, eq_of_whole, eq_of_root, eq_of_of, eq_of_plus, eq_of_less, eq_of_by, eq_of_over, eq_of_minus, eq_of_power, eq_of_times, eq_plus_whole, eq_plus_root, eq_plus_of, eq_plus_plus, eq_plus_less, eq_plus_by, eq_plus_over, eq_plus_minus, eq_plus_power, eq_plus_times, eq_less_whole, eq_less_root, eq_less_of, eq_less_plus, eq_less_less, eq_less_by, eq_less_over, eq_less_minus, eq_less_power, eq_less_times, eq_by_whole, eq_by_root, eq_by_of, eq_by_plus, eq_by_less, eq_by_by, eq_by_over, eq_by_minus, eq_by_power, eq_by_times, eq_over_whole, eq_over_root, eq_over_of, eq_over_plus, eq_over_less, eq_over_by, eq_over_over, eq_over_minus, eq_over_power, eq_over_times, eq_minus_whole, eq_minus_root, eq_minus_of, eq_minus_plus, eq_minus_less, eq_minus_by, eq_minus_over, eq_minus_minus, eq_minus_power, eq_minus_times, eq_power_whole, eq_power_root, eq_power_of, eq_power_plus, eq_power_less, eq_power_by, eq_power_over, eq_power_minus, eq_power_power, eq_power_times, eq_times_whole, eq_times_root, eq_times_of, eq_times_plus, eq_times_less, eq_times_by, eq_times_over, eq_times_minus, eq_times_power, eq_times_times]; done)
    | (by_cases h0 : 0 < k <;> simp [m_is_instruction, g_is_instruction, isw_none, isw_bool, whole_int, lower_int, low_none, c_TWO, hk, h0, fnF, bCons, bNil, setE, quiet, quiet2, rvar, gt, Oe.bindS, mv, So.bind, rd, rdI, gIx, gMod, gDiv, gSub, gAdd, gMul, gPow, gNeg, quiet1, List.set, ifE, quietT, asB, asBE, tru, truE, truth, gEq, gNe, plain0, SeqAt.shaped, PyData.eqv, PyData.eqvAll, PyData.canLay0, PyData.canLayAll0, PyData.depth, PyData.depthAll, Ot.bindS, retE, dispTQ, dispLQ, dispTE, dispLE, qCons, qNil, frzQ, frzE, frz1, mvOut, outF, asOf, line, bitsOk, notQ, notE, andQ, orQ, andE, orE, vAndQ, vOrQ, vAndE, vOrE, Oe.bind, Ot.bind, Oe.bindT, Ot.bindT, Oa.bind, Oa.bindA, Oe.bindA, Oa.bindS, lCons, lNil, quietA, gather, gather1, back, back1, slR, callE, quietN, loudN, rds, gLen, gLt, gLe, gGt, gGe, chainQ, gIsI, isB, gNot, gIs, gIsNot, gIsB, gIsNotB, dropE, retX, matchE, cCons, cNil, mSeq, mCons, mNil, mLit, mCap, mAny, bindE, raiseE, tryE, tryAsE, unSo, isXE, sliceQ, noO, someO, gSl, iteQ, iteE, parE, loud2, loud1, gIn, gNotIn, gAll, shapedL, inL, allB, Oe.bindI, Oa.bindI, seqI, lcE, lcL, wipeE, backE, asgN, yesE, atI_m1, atI_nn, blt_eq, ble_eq, noPf, rfld, subE, plR, plW, gow, gof, mtQE, mtE, isL, gAppend, methE, newE, isOb, fldE, flOf, setFl, ok_whole, ok_root, ok_of, ok_plus, ok_less, ok_by, ok_over, ok_minus, ok_power, ok_times, eq_whole_whole, eq_whole_root, eq_whole_of, eq_whole_plus, eq_whole_less, eq_whole_by, eq_whole_over, eq_whole_minus, eq_whole_power, eq_whole_times, eq_root_whole, eq_root_root, eq_root_of, eq_root_plus, eq_root_less, eq_root_by, eq_root_over, eq_root_minus, eq_root_power, eq_root_times, eq_of_whole, eq_of_root, eq_of_of, eq_of_plus, eq_of_less, eq_of_by, eq_of_over, eq_of_minus, eq_of_power, eq_of_times, eq_plus_whole, eq_plus_root, eq_plus_of, eq_plus_plus, eq_plus_less, eq_plus_by, eq_plus_over, eq_plus_minus, eq_plus_power, eq_plus_times, eq_less_whole, eq_less_root, eq_less_of, eq_less_plus, eq_less_less, eq_less_by, eq_less_over, eq_less_minus, eq_less_power, eq_less_times, eq_by_whole, eq_by_root, eq_by_of, eq_by_plus, eq_by_less, eq_by_by, eq_by_over, eq_by_minus, eq_by_power, eq_by_times, eq_over_whole, eq_over_root, eq_over_of, eq_over_plus, eq_over_less, eq_over_by, eq_over_over, eq_over_minus, eq_over_power, eq_over_times, eq_minus_whole, eq_minus_root, eq_minus_of, eq_minus_plus, eq_minus_less, eq_minus_by, eq_minus_over, eq_minus_minus, eq_minus_power, eq_minus_times, eq_power_whole, eq_power_root, eq_power_of, eq_power_plus, eq_power_less, eq_power_by, eq_power_over, eq_power_minus, eq_power_power, eq_power_times, eq_times_whole, eq_times_root, eq_times_of, eq_times_plus, eq_times_less, eq_times_by, eq_times_over, eq_times_minus, eq_times_power, eq_times_times]; done)
end k50
end Bv
set_option maxHeartbeats 0
namespace Bv
namespace k50
open PySem L2
theorem odd2 (k : Int) (hk : 0 ≤ k) : ∀ d ∈ odds2 k, m_is_instruction [.fz d, .fz (.int k)] = .ret (.fz (.bool false)) [.fz d, .fz (.int k)] := by
  intro d hd
  simp only [odds2, List.mem_cons, List.not_mem_nil, or_false] at hd
  rcases hd with rfl | rfl | rfl | rfl | rfl | rfl | rfl | rfl
  all_goals first
    | (simp [m_is_instruction, g_is_instruction, isw_none, isw_bool, whole_int, lower_int, low_none, c_TWO, hk, fnF, bCons, bNil, setE, quiet, quiet2, rvar, gt, Oe.bindS, mv, So.bind, rd, rdI, gIx, gMod, gDiv, gSub, gAdd, gMul, gPow, gNeg, quiet1, List.set, ifE, quietT, asB, asBE, tru, truE, truth, gEq, gNe, plain0, SeqAt.shaped, PyData.eqv, PyData.eqvAll, PyData.canLay0, PyData.canLayAll0, PyData.depth, PyData.depthAll, Ot.bindS, retE, dispTQ, dispLQ, dispTE, dispLE, qCons, qNil, frzQ, frzE, frz1, mvOut, outF, asOf, line, bitsOk, notQ, notE, andQ, orQ, andE, orE, vAndQ, vOrQ, vAndE, vOrE, Oe.bind, Ot.bind, Oe.bindT, Ot.bindT, Oa.bind, Oa.bindA, Oe.bindA, Oa.bindS, lCons, lNil, quietA, gather, gather1, back, back1, slR, callE, quietN, loudN, rds, gLen, gLt, gLe, gGt, gGe, chainQ, gIsI, isB, gNot, gIs, gIsNot, gIsB, gIsNotB, dropE, retX, matchE, cCons, cNil, mSeq, mCons, mNil, mLit, mCap, mAny, bindE, raiseE, tryE, tryAsE, unSo, isXE, sliceQ, noO, someO, gSl, iteQ, iteE, parE, loud2, loud1, gIn, gNotIn, gAll, shapedL, inL, allB, Oe.bindI, Oa.bindI, seqI, lcE, lcL, wipeE, backE, asgN, yesE, atI_m1, atI_nn, blt_eq, ble_eq, noPf, rfld, subE, plR, plW, gow, gof, mtQE, mtE, isL, gAppend, methE, newE, isOb, fldE, flOf, setFl, ok_whole, ok_root, ok_of, ok_plus, ok_less, ok_by, ok_over, ok_minus, ok_power, ok_times, eq_whole_whole, eq_whole_root, eq_whole_of, eq_whole_plus, eq_whole_less, eq_whole_by, eq_whole_over, eq_whole_minus, eq_whole_power, eq_whole_times, eq_root_whole, eq_root_root, eq_root_of, eq_root_plus, eq_root_less, eq_root_by, eq_root_over, eq_root_minus, eq_root_power, eq_root_times, eq_of_whole, eq_of_root, eq_of_of, eq_of_plus, eq_of_less, eq_of_by, eq_of_over, eq_of_minus, eq_of_power, eq_of_times, eq_plus_whole, eq_plus_root, eq_plus_of, eq_plus_plus, eq_plus_less, eq_plus_by, eq_plus_over, eq_plus_minus, eq_plus_power, eq_plus_times, eq_less_whole, eq_less_root, eq_less_of, eq_less_plus, eq_less_less, eq_less_by, eq_less_over, eq_less_minus, eq_less_power, eq_less_times, eq_by_whole, eq_by_root, eq_by_of, eq_by_plus, eq_by_less, eq_by_by, eq_by_over, eq_by_minus, eq_by_power, eq_by_times, eq_over_whole, eq_over_root, eq_over_of, eq_over_plus, eq_over_less, eq_over_by, eq_over_over, eq_over_minus, eq_over_power, eq_over_times, eq_minus_whole, eq_minus_root, eq_minus_of, eq_minus_plus, eq_minus_less, eq_minus_by, eq_minus_over, eq_minus_minus, eq_minus_power, eq_minus_times, eq_power_whole, eq_power_root, eq_power_of, eq_power_plus, eq_power_less, eq_power_by, eq_power_over, eq_power_minus, eq_power_power, eq_power_times, eq_times_whole, eq_times_root, eq_times_of, eq_times_plus, eq_times_less, eq_times_by, eq_times_over, eq_times_minus, eq_times_power, eq_times_times]; done)
    | (by_cases h0 : 0 < k <;> simp [m_is_instruction, g_is_instruction, isw_none, isw_bool, whole_int, lower_int, low_none, c_TWO, hk, h0, fnF, bCons, bNil, setE, quiet, quiet2, rvar, gt, Oe.bindS, mv, So.bind, rd, rdI, gIx, gMod, gDiv, gSub, gAdd, gMul, gPow, gNeg, quiet1, List.set, ifE, quietT, asB, asBE, tru, truE, truth, gEq, gNe, plain0, SeqAt.shaped, PyData.eqv, PyData.eqvAll, PyData.canLay0, PyData.canLayAll0, PyData.depth, PyData.depthAll, Ot.bindS, retE, dispTQ, dispLQ, dispTE, dispLE, qCons, qNil, frzQ, frzE, frz1, mvOut, outF, asOf, line, bitsOk, notQ, notE, andQ, orQ, andE, orE, vAndQ, vOrQ, vAndE, vOrE, Oe.bind, Ot.bind, Oe.bindT, Ot.bindT, Oa.bind, Oa.bindA, Oe.bindA, Oa.bindS, lCons, lNil, quietA, gather, gather1, back, back1, slR, callE, quietN, loudN, rds, gLen, gLt, gLe, gGt, gGe, chainQ, gIsI, isB, gNot, gIs, gIsNot, gIsB, gIsNotB, dropE, retX, matchE, cCons, cNil, mSeq, mCons, mNil, mLit, mCap, mAny, bindE, raiseE, tryE, tryAsE, unSo, isXE, sliceQ, noO, someO, gSl, iteQ, iteE, parE, loud2, loud1, gIn, gNotIn, gAll, shapedL, inL, allB, Oe.bindI, Oa.bindI, seqI, lcE, lcL, wipeE, backE, asgN, yesE, atI_m1, atI_nn, blt_eq, ble_eq, noPf, rfld, subE, plR, plW, gow, gof, mtQE, mtE, isL, gAppend, methE, newE, isOb, fldE, flOf, setFl, ok_whole, ok_root, ok_of, ok_plus, ok_less, ok_by, ok_over, ok_minus, ok_power, ok_times, eq_whole_whole, eq_whole_root, eq_whole_of, eq_whole_plus, eq_whole_less, eq_whole_by, eq_whole_over, eq_whole_minus, eq_whole_power, eq_whole_times, eq_root_whole, eq_root_root, eq_root_of, eq_root_plus, eq_root_less, eq_root_by, eq_root_over, eq_root_minus, eq_root_power, eq_root_times, eq_of_whole, eq_of_root, eq_of_of, eq_of_plus, eq_of_less, eq_of_by, eq_of_over, eq_of_minus, eq_of_power, eq_of_times, eq_plus_whole, eq_plus_root, eq_plus_of, eq_plus_plus, eq_plus_less, eq_plus_by, eq_plus_over, eq_plus_minus, eq_plus_power, eq_plus_times, eq_less_whole, eq_less_root, eq_less_of, eq_less_plus, eq_less_less, eq_less_by, eq_less_over, eq_less_minus, eq_less_power, eq_less_times, eq_by_whole, eq_by_root, eq_by_of, eq_by_plus, eq_by_less, eq_by_by, eq_by_over, eq_by_minus, eq_by_power, eq_by_times, eq_over_whole, eq_over_root, eq_over_of, eq_over_plus, eq_over_less, eq_over_by, eq_over_over, eq_over_minus, eq_over_power, eq_over_times, eq_minus_whole, eq_minus_root, eq_minus_of, eq_minus_plus, eq_minus_less, eq_minus_by, eq_minus_over, eq_minus_minus, eq_minus_power, eq_minus_times, eq_power_whole, eq_power_root, eq_power_of, eq_power_plus, eq_power_less, eq_power_by, eq_power_over, eq_power_minus, eq_power_power, eq_power_times, eq_times_whole, eq_times_root, eq_times_of, eq_times_plus, eq_times_less, eq_times_by, eq_times_over, eq_times_minus, eq_times_power, eq_times_times]; done)
theorem odd3 (k : Int) (hk : 0 ≤ k) : ∀ d ∈ odds3, m_is_instruction [.fz d, .fz (.int k)] = .ret (.fz (.bool false)) [.fz d, .fz (.int k)] := by
  intro d hd
  simp only [odds3, List.mem_cons, List.not_mem_nil, or_false] at hd
  rcases hd with rfl | rfl | rfl | rfl | rfl | rfl | rfl | rfl | rfl
  all_goals (simp [m_is_instruction, g_is_instruction, m_is_polynomial, g_is_polynomial, m_is_polynomial_form, g_is_polynomial_form, c_MOST_DEGREE, c_MOST_COEFFICIENT, isw_none, isw_bool, whole_int, lower_int, low_none, c_TWO, hk, fnF, bCons, bNil, setE, quiet, quiet2, rvar, gt, Oe.bindS, mv, So.bind, rd, rdI, gIx, gMod, gDiv, gSub, gAdd, gMul, gPow, gNeg, quiet1, List.set, ifE, quietT, asB, asBE, tru, truE, truth, gEq, gNe, plain0, SeqAt.shaped, PyData.eqv, PyData.eqvAll, PyData.canLay0, PyData.canLayAll0, PyData.depth, PyData.depthAll, Ot.bindS, retE, dispTQ, dispLQ, dispTE, dispLE, qCons, qNil, frzQ, frzE, frz1, mvOut, outF, asOf, line, bitsOk, notQ, notE, andQ, orQ, andE, orE, vAndQ, vOrQ, vAndE, vOrE, Oe.bind, Ot.bind, Oe.bindT, Ot.bindT, Oa.bind, Oa.bindA, Oe.bindA, Oa.bindS, lCons, lNil, quietA, gather, gather1, back, back1, slR, callE, quietN, loudN, rds, gLen, gLt, gLe, gGt, gGe, chainQ, gIsI, isB, gNot, gIs, gIsNot, gIsB, gIsNotB, dropE, retX, matchE, cCons, cNil, mSeq, mCons, mNil, mLit, mCap, mAny, bindE, raiseE, tryE, tryAsE, unSo, isXE, sliceQ, noO, someO, gSl, iteQ, iteE, parE, loud2, loud1, gIn, gNotIn, gAll, shapedL, inL, allB, Oe.bindI, Oa.bindI, seqI, lcE, lcL, wipeE, backE, asgN, yesE, atI_m1, atI_nn, blt_eq, ble_eq, noPf, rfld, subE, plR, plW, gow, gof, mtQE, mtE, isL, gAppend, methE, newE, isOb, fldE, flOf, setFl, ok_whole, ok_root, ok_of, ok_plus, ok_less, ok_by, ok_over, ok_minus, ok_power, ok_times, eq_whole_whole, eq_whole_root, eq_whole_of, eq_whole_plus, eq_whole_less, eq_whole_by, eq_whole_over, eq_whole_minus, eq_whole_power, eq_whole_times, eq_root_whole, eq_root_root, eq_root_of, eq_root_plus, eq_root_less, eq_root_by, eq_root_over, eq_root_minus, eq_root_power, eq_root_times, eq_of_whole, eq_of_root, eq_of_of, eq_of_plus, eq_of_less, eq_of_by, eq_of_over, eq_of_minus, eq_of_power, eq_of_times, eq_plus_whole, eq_plus_root, eq_plus_of, eq_plus_plus, eq_plus_less, eq_plus_by, eq_plus_over, eq_plus_minus, eq_plus_power, eq_plus_times, eq_less_whole, eq_less_root, eq_less_of, eq_less_plus, eq_less_less, eq_less_by, eq_less_over, eq_less_minus, eq_less_power, eq_less_times, eq_by_whole, eq_by_root, eq_by_of, eq_by_plus, eq_by_less, eq_by_by, eq_by_over, eq_by_minus, eq_by_power, eq_by_times, eq_over_whole, eq_over_root, eq_over_of, eq_over_plus, eq_over_less, eq_over_by, eq_over_over, eq_over_minus, eq_over_power, eq_over_times, eq_minus_whole, eq_minus_root, eq_minus_of, eq_minus_plus, eq_minus_less, eq_minus_by, eq_minus_over, eq_minus_minus, eq_minus_power, eq_minus_times, eq_power_whole, eq_power_root, eq_power_of, eq_power_plus, eq_power_less, eq_power_by, eq_power_over, eq_power_minus, eq_power_power, eq_power_times, eq_times_whole, eq_times_root, eq_times_of, eq_times_plus, eq_times_less, eq_times_by, eq_times_over, eq_times_minus, eq_times_power, eq_times_times]; done)
/-! ### check_code -/
inductive GoodIns : D → Int → Prop
  | whole (n i : Int) : GoodIns (.tuple [.str "whole", .int n]) i
  | root2 (a i : Int) : 0 ≤ a → a < i → GoodIns (.tuple [.str "root", .int 2, .int a]) i
  | root3 (a i : Int) : 0 ≤ a → a < i → GoodIns (.tuple [.str "root", .int 3, .int a]) i
  | of (a b j i : Int) : -1000 ≤ a ∧ a ≤ 1000 → -1000 ≤ b ∧ b ≤ 1000 → 0 ≤ j → GoodIns (.tuple [.str "of", .tuple [.int a, .int b, .int 1], .int j]) i
  | bin {w : Str} (a b i : Int) : isWord w → 0 ≤ a ∧ a < i → 0 ≤ b ∧ b < i → GoodIns (.tuple [.str w, .int a, .int b]) i
theorem good_ins {d : D} {i : Int} (h : GoodIns d i) : m_is_instruction [.fz d, .fz (.int i)] = .ret (.fz (.bool true)) [.fz d, .fz (.int i)] := by
  cases h with
  | whole => exact ins_whole _ _
  | root2 a i h1 h2 => rw [ins_root2]; simp [h1, h2]
  | root3 a i h1 h2 => rw [ins_root3]; simp [h1, h2]
  | of a b j i h1 h2 h3 => exact ins_of _ _ _ _ h1 h2 h3
  | bin a b i hw h1 h2 => exact ins_bin hw _ _ _ h1 h2
/-- the loop's turn -/
def turn : En → So := ifE (notE (truE (callE 2 m_is_instruction (quietA (qCons (rvar 2) (qCons (rvar 1) qNil))))))
  (raiseE 1 (quietA (qCons (rvar 1) qNil)))
  bNil
theorem turn_good {d v s1 s2 : D} {i : Int} (h : GoodIns d i) : turn [.fz v, .fz (.int i), .fz d] = .nx [.fz v, .fz (.int i), .fz d] := by
  simp [turn, good_ins h, fnF, bCons, bNil, setE, quiet, quiet2, rvar, gt, Oe.bindS, mv, So.bind, rd, rdI, gIx, gMod, gDiv, gSub, gAdd, gMul, gPow, gNeg, quiet1, List.set, ifE, quietT, asB, asBE, tru, truE, truth, gEq, gNe, plain0, SeqAt.shaped, PyData.eqv, PyData.eqvAll, PyData.canLay0, PyData.canLayAll0, PyData.depth, PyData.depthAll, Ot.bindS, retE, dispTQ, dispLQ, dispTE, dispLE, qCons, qNil, frzQ, frzE, frz1, mvOut, outF, asOf, line, bitsOk, notQ, notE, andQ, orQ, andE, orE, vAndQ, vOrQ, vAndE, vOrE, Oe.bind, Ot.bind, Oe.bindT, Ot.bindT, Oa.bind, Oa.bindA, Oe.bindA, Oa.bindS, lCons, lNil, quietA, gather, gather1, back, back1, slR, callE, quietN, loudN, rds, gLen, gLt, gLe, gGt, gGe, chainQ, gIsI, isB, gNot, gIs, gIsNot, gIsB, gIsNotB, dropE, retX, matchE, cCons, cNil, mSeq, mCons, mNil, mLit, mCap, mAny, bindE, raiseE, tryE, tryAsE, unSo, isXE, sliceQ, noO, someO, gSl, iteQ, iteE, parE, loud2, loud1, gIn, gNotIn, gAll, shapedL, inL, allB, Oe.bindI, Oa.bindI, seqI, lcE, lcL, wipeE, backE, asgN, yesE, atI_m1, atI_nn, blt_eq, ble_eq, noPf, rfld, subE, plR, plW, gow, gof, mtQE, mtE, isL, gAppend, methE, newE, isOb, fldE, flOf, setFl]
theorem turn_bad {d v : D} {i : Int} (h : m_is_instruction [.fz d, .fz (.int i)] = .ret (.fz (.bool false)) [.fz d, .fz (.int i)]) : turn [.fz v, .fz (.int i), .fz d] = .ex 1 (.int i) [.fz v, .fz (.int i), .fz d] := by
  simp [turn, h, fnF, bCons, bNil, setE, quiet, quiet2, rvar, gt, Oe.bindS, mv, So.bind, rd, rdI, gIx, gMod, gDiv, gSub, gAdd, gMul, gPow, gNeg, quiet1, List.set, ifE, quietT, asB, asBE, tru, truE, truth, gEq, gNe, plain0, SeqAt.shaped, PyData.eqv, PyData.eqvAll, PyData.canLay0, PyData.canLayAll0, PyData.depth, PyData.depthAll, Ot.bindS, retE, dispTQ, dispLQ, dispTE, dispLE, qCons, qNil, frzQ, frzE, frz1, mvOut, outF, asOf, line, bitsOk, notQ, notE, andQ, orQ, andE, orE, vAndQ, vOrQ, vAndE, vOrE, Oe.bind, Ot.bind, Oe.bindT, Ot.bindT, Oa.bind, Oa.bindA, Oe.bindA, Oa.bindS, lCons, lNil, quietA, gather, gather1, back, back1, slR, callE, quietN, loudN, rds, gLen, gLt, gLe, gGt, gGe, chainQ, gIsI, isB, gNot, gIs, gIsNot, gIsB, gIsNotB, dropE, retX, matchE, cCons, cNil, mSeq, mCons, mNil, mLit, mCap, mAny, bindE, raiseE, tryE, tryAsE, unSo, isXE, sliceQ, noO, someO, gSl, iteQ, iteE, parE, loud2, loud1, gIn, gNotIn, gAll, shapedL, inL, allB, Oe.bindI, Oa.bindI, seqI, lcE, lcL, wipeE, backE, asgN, yesE, atI_m1, atI_nn, blt_eq, ble_eq, noPf, rfld, subE, plR, plW, gow, gof, mtQE, mtE, isL, gAppend, methE, newE, isOb, fldE, flOf, setFl]
def asg : D → En → Option En := asgT 2 (asgCons (asgN 1) (asgCons (asgN 2) asgNil))
theorem asg_ok {d v : D} {x y : Sl} {i : Nat} : asg (.tuple [.int (i : Nat), d]) [.fz v, x, y] = some [.fz v, .fz (.int (i : Nat)), .fz d] := by
  simp [asg, asgT, asgCons, asgN, asgNil, List.set]
theorem loop_good {v : D} : ∀ (ds : List D) (i : Nat) (x y : Sl), (∀ j d, ds[j]? = some d → GoodIns d ((i + j : Nat) : Int)) → ∃ x' y', forL asg turn (enumD i ds) [.fz v, x, y] = .nx [.fz v, x', y']
  | [], i, x, y, _ => ⟨x, y, rfl⟩
  | d :: ds, i, x, y, h => by
    simp only [enumD, forL, asg_ok]
    have h0 : GoodIns d ((i : Nat) : Int) := by simpa using h 0 d rfl
    rw [turn_good (s1 := v) (s2 := v) h0]
    exact loop_good ds (i + 1) _ _ fun j d hj => by
      have := h (j + 1) d (by simpa using hj)
      rw [show i + 1 + j = i + (j + 1) by omega]; exact this
theorem loop_bad {v d : D} {more : List D} : ∀ (ds : List D) (i : Nat) (x y : Sl), (∀ j d, ds[j]? = some d → GoodIns d ((i + j : Nat) : Int)) → (∀ k : Int, k = ((i + ds.length : Nat) : Int) → m_is_instruction [.fz d, .fz (.int k)] = .ret (.fz (.bool false)) [.fz d, .fz (.int k)]) →
    ∃ x' y', forL asg turn (enumD i (ds ++ d :: more)) [.fz v, x, y] = .ex 1 (.int ((i + ds.length : Nat) : Int)) [.fz v, x', y']
  | [], i, x, y, _, hb => by
    simp only [List.nil_append, enumD, forL, asg_ok]
    rw [turn_bad (hb _ (by simp))]
    exact ⟨.fz (.int (i : Nat)), .fz d, by simp⟩
  | d0 :: ds, i, x, y, h, hb => by
    simp only [List.cons_append, enumD, forL, asg_ok]
    have h0 : GoodIns d0 ((i : Nat) : Int) := by simpa using h 0 d0 rfl
    rw [turn_good (s1 := v) (s2 := v) h0]
    obtain ⟨x', y', e⟩ := loop_bad ds (i + 1) (.fz (.int (i : Nat))) (.fz d0) (fun j d hj => by
      have := h (j + 1) d (by simpa using hj)
      rw [show i + 1 + j = i + (j + 1) by omega]; exact this) (fun k hk => hb k (by rw [hk]; simp; omega))
    refine ⟨x', y', ?_⟩
    have e2 : i + 1 + ds.length = i + (d0 :: ds).length := by simp; omega
    rw [e2] at e
    exact e
def Good (ds : List D) : Prop := ∀ j d, ds[j]? = some d → GoodIns d ((j : Nat) : Int)
/-- the two ways in which a list is handed in -/
inductive Lst : Sl → List D → Prop
  | fz (ds : List D) : Lst (.fz (.list ds)) ds
  | ow (ds : List D) : Lst (.ow (.list ds)) ds
theorem check_good {s : Sl} {ds : List D} (hs : Lst s ds) (h : Good ds) (h1 : 1 ≤ ds.length) (h2 : ds.length ≤ 200) : m_check_code [s] = .ret (.fz .none) [.fz (.list ds)] := by
  obtain ⟨x', y', e⟩ := loop_good (v := .list ds) ds 0 .un .un fun j d hj => by simpa using h j d hj
  have e' : forL (asgT 2 (asgCons (asgN 1) (asgCons (asgN 2) asgNil))) (ifE (notE (truE (callE 2 m_is_instruction (quietA (qCons (rvar 2) (qCons (rvar 1) qNil))))))
  (raiseE 1 (quietA (qCons (rvar 1) qNil)))
  bNil) (enumD 0 ds) [.fz (.list ds), .un, .un] = .nx [.fz (.list ds), x', y'] := e
  have h1' : ¬ (ds.length : Int) < 1 := by omega
  have h1'' : (1 : Int) ≤ ds.length := by omega
  have h2' : (ds.length : Int) ≤ 200 := by omega
  cases hs <;> simp [m_check_code, g_check_code, c_MOST_CODE, h1'', h2', forE, enumI, e', fnF, bCons, bNil, setE, quiet, quiet2, rvar, gt, Oe.bindS, mv, So.bind, rd, rdI, gIx, gMod, gDiv, gSub, gAdd, gMul, gPow, gNeg, quiet1, List.set, ifE, quietT, asB, asBE, tru, truE, truth, gEq, gNe, plain0, SeqAt.shaped, PyData.eqv, PyData.eqvAll, PyData.canLay0, PyData.canLayAll0, PyData.depth, PyData.depthAll, Ot.bindS, retE, dispTQ, dispLQ, dispTE, dispLE, qCons, qNil, frzQ, frzE, frz1, mvOut, outF, asOf, line, bitsOk, notQ, notE, andQ, orQ, andE, orE, vAndQ, vOrQ, vAndE, vOrE, Oe.bind, Ot.bind, Oe.bindT, Ot.bindT, Oa.bind, Oa.bindA, Oe.bindA, Oa.bindS, lCons, lNil, quietA, gather, gather1, back, back1, slR, callE, quietN, loudN, rds, gLen, gLt, gLe, gGt, gGe, chainQ, gIsI, isB, gNot, gIs, gIsNot, gIsB, gIsNotB, dropE, retX, matchE, cCons, cNil, mSeq, mCons, mNil, mLit, mCap, mAny, bindE, raiseE, tryE, tryAsE, unSo, isXE, sliceQ, noO, someO, gSl, iteQ, iteE, parE, loud2, loud1, gIn, gNotIn, gAll, shapedL, inL, allB, Oe.bindI, Oa.bindI, seqI, lcE, lcL, wipeE, backE, asgN, yesE, atI_m1, atI_nn, blt_eq, ble_eq, noPf, rfld, subE, plR, plW, gow, gof, mtQE, mtE, isL, gAppend, methE, newE, isOb, fldE, flOf, setFl]
theorem check_bad {s : Sl} {ds more : List D} {d : D} (hs : Lst s (ds ++ d :: more)) (h : Good ds) (h2 : (ds ++ d :: more).length ≤ 200) (hb : m_is_instruction [.fz d, .fz (.int ds.length)] = .ret (.fz (.bool false)) [.fz d, .fz (.int ds.length)]) :
    m_check_code [s] = .ex 1 (.int ds.length) [.fz (.list (ds ++ d :: more))] := by
  obtain ⟨x', y', e⟩ := loop_bad (v := .list (ds ++ d :: more)) (d := d) (more := more) ds 0 .un .un (fun j d hj => by simpa using h j d hj) (fun k hk => by
    have : k = (ds.length : Int) := by rw [hk]; simp
    rw [this]; exact hb)
  have e' : forL (asgT 2 (asgCons (asgN 1) (asgCons (asgN 2) asgNil))) (ifE (notE (truE (callE 2 m_is_instruction (quietA (qCons (rvar 2) (qCons (rvar 1) qNil))))))
  (raiseE 1 (quietA (qCons (rvar 1) qNil)))
  bNil) (enumD 0 (ds ++ d :: more)) [.fz (.list (ds ++ d :: more)), .un, .un] = .ex 1 (.int ds.length) [.fz (.list (ds ++ d :: more)), x', y'] := by
    have e0 : ((0 + ds.length : Nat) : Int) = (ds.length : Int) := by simp
    rw [e0] at e; exact e
  have hl : ((ds ++ d :: more).length : Int) ≤ 200 := by omega
  have hl1 : (1 : Int) ≤ ((ds ++ d :: more).length : Int) := by simp; omega
  generalize hq : ds ++ d :: more = q at *
  cases hs <;> simp [m_check_code, g_check_code, c_MOST_CODE, hl, hl1, forE, enumI, e', fnF, bCons, bNil, setE, quiet, quiet2, rvar, gt, Oe.bindS, mv, So.bind, rd, rdI, gIx, gMod, gDiv, gSub, gAdd, gMul, gPow, gNeg, quiet1, List.set, ifE, quietT, asB, asBE, tru, truE, truth, gEq, gNe, plain0, SeqAt.shaped, PyData.eqv, PyData.eqvAll, PyData.canLay0, PyData.canLayAll0, PyData.depth, PyData.depthAll, Ot.bindS, retE, dispTQ, dispLQ, dispTE, dispLE, qCons, qNil, frzQ, frzE, frz1, mvOut, outF, asOf, line, bitsOk, notQ, notE, andQ, orQ, andE, orE, vAndQ, vOrQ, vAndE, vOrE, Oe.bind, Ot.bind, Oe.bindT, Ot.bindT, Oa.bind, Oa.bindA, Oe.bindA, Oa.bindS, lCons, lNil, quietA, gather, gather1, back, back1, slR, callE, quietN, loudN, rds, gLen, gLt, gLe, gGt, gGe, chainQ, gIsI, isB, gNot, gIs, gIsNot, gIsB, gIsNotB, dropE, retX, matchE, cCons, cNil, mSeq, mCons, mNil, mLit, mCap, mAny, bindE, raiseE, tryE, tryAsE, unSo, isXE, sliceQ, noO, someO, gSl, iteQ, iteE, parE, loud2, loud1, gIn, gNotIn, gAll, shapedL, inL, allB, Oe.bindI, Oa.bindI, seqI, lcE, lcL, wipeE, backE, asgN, yesE, atI_m1, atI_nn, blt_eq, ble_eq, noPf, rfld, subE, plR, plW, gow, gof, mtQE, mtE, isL, gAppend, methE, newE, isOb, fldE, flOf, setFl]
theorem check_long {s : Sl} {ds : List D} (hs : Lst s ds) (h : ds.length = 0 ∨ 200 < ds.length) : m_check_code [s] = .ex 1 (.int (-1)) [s] := by
  rcases h with h | h
  · have : (ds.length : Int) = 0 := by omega
    cases hs <;> simp [m_check_code, g_check_code, c_MOST_CODE, c_WRONG, this, fnF, bCons, bNil, setE, quiet, quiet2, rvar, gt, Oe.bindS, mv, So.bind, rd, rdI, gIx, gMod, gDiv, gSub, gAdd, gMul, gPow, gNeg, quiet1, List.set, ifE, quietT, asB, asBE, tru, truE, truth, gEq, gNe, plain0, SeqAt.shaped, PyData.eqv, PyData.eqvAll, PyData.canLay0, PyData.canLayAll0, PyData.depth, PyData.depthAll, Ot.bindS, retE, dispTQ, dispLQ, dispTE, dispLE, qCons, qNil, frzQ, frzE, frz1, mvOut, outF, asOf, line, bitsOk, notQ, notE, andQ, orQ, andE, orE, vAndQ, vOrQ, vAndE, vOrE, Oe.bind, Ot.bind, Oe.bindT, Ot.bindT, Oa.bind, Oa.bindA, Oe.bindA, Oa.bindS, lCons, lNil, quietA, gather, gather1, back, back1, slR, callE, quietN, loudN, rds, gLen, gLt, gLe, gGt, gGe, chainQ, gIsI, isB, gNot, gIs, gIsNot, gIsB, gIsNotB, dropE, retX, matchE, cCons, cNil, mSeq, mCons, mNil, mLit, mCap, mAny, bindE, raiseE, tryE, tryAsE, unSo, isXE, sliceQ, noO, someO, gSl, iteQ, iteE, parE, loud2, loud1, gIn, gNotIn, gAll, shapedL, inL, allB, Oe.bindI, Oa.bindI, seqI, lcE, lcL, wipeE, backE, asgN, yesE, atI_m1, atI_nn, blt_eq, ble_eq, noPf, rfld, subE, plR, plW, gow, gof, mtQE, mtE, isL, gAppend, methE, newE, isOb, fldE, flOf, setFl]
  · have h1 : ¬ (ds.length : Int) ≤ 200 := by omega
    have h2 : (1 : Int) ≤ ds.length := by omega
    cases hs <;> simp [m_check_code, g_check_code, c_MOST_CODE, c_WRONG, h1, h2, fnF, bCons, bNil, setE, quiet, quiet2, rvar, gt, Oe.bindS, mv, So.bind, rd, rdI, gIx, gMod, gDiv, gSub, gAdd, gMul, gPow, gNeg, quiet1, List.set, ifE, quietT, asB, asBE, tru, truE, truth, gEq, gNe, plain0, SeqAt.shaped, PyData.eqv, PyData.eqvAll, PyData.canLay0, PyData.canLayAll0, PyData.depth, PyData.depthAll, Ot.bindS, retE, dispTQ, dispLQ, dispTE, dispLE, qCons, qNil, frzQ, frzE, frz1, mvOut, outF, asOf, line, bitsOk, notQ, notE, andQ, orQ, andE, orE, vAndQ, vOrQ, vAndE, vOrE, Oe.bind, Ot.bind, Oe.bindT, Ot.bindT, Oa.bind, Oa.bindA, Oe.bindA, Oa.bindS, lCons, lNil, quietA, gather, gather1, back, back1, slR, callE, quietN, loudN, rds, gLen, gLt, gLe, gGt, gGe, chainQ, gIsI, isB, gNot, gIs, gIsNot, gIsB, gIsNotB, dropE, retX, matchE, cCons, cNil, mSeq, mCons, mNil, mLit, mCap, mAny, bindE, raiseE, tryE, tryAsE, unSo, isXE, sliceQ, noO, someO, gSl, iteQ, iteE, parE, loud2, loud1, gIn, gNotIn, gAll, shapedL, inL, allB, Oe.bindI, Oa.bindI, seqI, lcE, lcL, wipeE, backE, asgN, yesE, atI_m1, atI_nn, blt_eq, ble_eq, noPf, rfld, subE, plR, plW, gow, gof, mtQE, mtE, isL, gAppend, methE, newE, isOb, fldE, flOf, setFl]
theorem check_none {d : D} (h : isB .list d = some false) : m_check_code [.fz d] = .ex 1 (.int (-1)) [.fz d] := by
  have h' := h
  cases d <;> simp [isB] at h' <;> simp [m_check_code, g_check_code, c_MOST_CODE, c_WRONG, fnF, bCons, bNil, setE, quiet, quiet2, rvar, gt, Oe.bindS, mv, So.bind, rd, rdI, gIx, gMod, gDiv, gSub, gAdd, gMul, gPow, gNeg, quiet1, List.set, ifE, quietT, asB, asBE, tru, truE, truth, gEq, gNe, plain0, SeqAt.shaped, PyData.eqv, PyData.eqvAll, PyData.canLay0, PyData.canLayAll0, PyData.depth, PyData.depthAll, Ot.bindS, retE, dispTQ, dispLQ, dispTE, dispLE, qCons, qNil, frzQ, frzE, frz1, mvOut, outF, asOf, line, bitsOk, notQ, notE, andQ, orQ, andE, orE, vAndQ, vOrQ, vAndE, vOrE, Oe.bind, Ot.bind, Oe.bindT, Ot.bindT, Oa.bind, Oa.bindA, Oe.bindA, Oa.bindS, lCons, lNil, quietA, gather, gather1, back, back1, slR, callE, quietN, loudN, rds, gLen, gLt, gLe, gGt, gGe, chainQ, gIsI, isB, gNot, gIs, gIsNot, gIsB, gIsNotB, dropE, retX, matchE, cCons, cNil, mSeq, mCons, mNil, mLit, mCap, mAny, bindE, raiseE, tryE, tryAsE, unSo, isXE, sliceQ, noO, someO, gSl, iteQ, iteE, parE, loud2, loud1, gIn, gNotIn, gAll, shapedL, inL, allB, Oe.bindI, Oa.bindI, seqI, lcE, lcL, wipeE, backE, asgN, yesE, atI_m1, atI_nn, blt_eq, ble_eq, noPf, rfld, subE, plR, plW, gow, gof, mtQE, mtE, isL, gAppend, methE, newE, isOb, fldE, flOf, setFl]
theorem is_ok {s : Sl} {d : D} (h : m_check_code [s] = .ret (.fz .none) [.fz d]) (hs : s = .fz d ∨ s = .ow d) : m_is_code [s] = .ret (.fz (.bool true)) [.fz d] := by
  rcases hs with rfl | rfl <;> simp [m_is_code, g_is_code, h, fnF, bCons, bNil, setE, quiet, quiet2, rvar, gt, Oe.bindS, mv, So.bind, rd, rdI, gIx, gMod, gDiv, gSub, gAdd, gMul, gPow, gNeg, quiet1, List.set, ifE, quietT, asB, asBE, tru, truE, truth, gEq, gNe, plain0, SeqAt.shaped, PyData.eqv, PyData.eqvAll, PyData.canLay0, PyData.canLayAll0, PyData.depth, PyData.depthAll, Ot.bindS, retE, dispTQ, dispLQ, dispTE, dispLE, qCons, qNil, frzQ, frzE, frz1, mvOut, outF, asOf, line, bitsOk, notQ, notE, andQ, orQ, andE, orE, vAndQ, vOrQ, vAndE, vOrE, Oe.bind, Ot.bind, Oe.bindT, Ot.bindT, Oa.bind, Oa.bindA, Oe.bindA, Oa.bindS, lCons, lNil, quietA, gather, gather1, back, back1, slR, callE, quietN, loudN, rds, gLen, gLt, gLe, gGt, gGe, chainQ, gIsI, isB, gNot, gIs, gIsNot, gIsB, gIsNotB, dropE, retX, matchE, cCons, cNil, mSeq, mCons, mNil, mLit, mCap, mAny, bindE, raiseE, tryE, tryAsE, unSo, isXE, sliceQ, noO, someO, gSl, iteQ, iteE, parE, loud2, loud1, gIn, gNotIn, gAll, shapedL, inL, allB, Oe.bindI, Oa.bindI, seqI, lcE, lcL, wipeE, backE, asgN, yesE, atI_m1, atI_nn, blt_eq, ble_eq, noPf, rfld, subE, plR, plW, gow, gof, mtQE, mtE, isL, gAppend, methE, newE, isOb, fldE, flOf, setFl]
theorem is_bad {s s' : Sl} {d d' : D} {i : Int} (h : m_check_code [s] = .ex 1 (.int i) [s']) (hs : (s = .fz d ∧ s' = .fz d) ∨ s = .ow d) : m_is_code [s] = .ret (.fz (.bool false)) [s'] := by
  rcases hs with ⟨rfl, rfl⟩ | rfl <;> simp [m_is_code, g_is_code, h, ct_BadCode, fnF, bCons, bNil, setE, quiet, quiet2, rvar, gt, Oe.bindS, mv, So.bind, rd, rdI, gIx, gMod, gDiv, gSub, gAdd, gMul, gPow, gNeg, quiet1, List.set, ifE, quietT, asB, asBE, tru, truE, truth, gEq, gNe, plain0, SeqAt.shaped, PyData.eqv, PyData.eqvAll, PyData.canLay0, PyData.canLayAll0, PyData.depth, PyData.depthAll, Ot.bindS, retE, dispTQ, dispLQ, dispTE, dispLE, qCons, qNil, frzQ, frzE, frz1, mvOut, outF, asOf, line, bitsOk, notQ, notE, andQ, orQ, andE, orE, vAndQ, vOrQ, vAndE, vOrE, Oe.bind, Ot.bind, Oe.bindT, Ot.bindT, Oa.bind, Oa.bindA, Oe.bindA, Oa.bindS, lCons, lNil, quietA, gather, gather1, back, back1, slR, callE, quietN, loudN, rds, gLen, gLt, gLe, gGt, gGe, chainQ, gIsI, isB, gNot, gIs, gIsNot, gIsB, gIsNotB, dropE, retX, matchE, cCons, cNil, mSeq, mCons, mNil, mLit, mCap, mAny, bindE, raiseE, tryE, tryAsE, unSo, isXE, sliceQ, noO, someO, gSl, iteQ, iteE, parE, loud2, loud1, gIn, gNotIn, gAll, shapedL, inL, allB, Oe.bindI, Oa.bindI, seqI, lcE, lcL, wipeE, backE, asgN, yesE, atI_m1, atI_nn, blt_eq, ble_eq, noPf, rfld, subE, plR, plW, gow, gof, mtQE, mtE, isL, gAppend, methE, newE, isOb, fldE, flOf, setFl]
theorem ref_ok {s : Sl} {d : D} (h : m_check_code [s] = .ret (.fz .none) [.fz d]) (hs : s = .fz d ∨ s = .ow d) : m_law_refusal [s] = .ret (.fz .none) [.fz d] := by
  rcases hs with rfl | rfl <;> simp [m_law_refusal, g_law_refusal, h, fnF, bCons, bNil, setE, quiet, quiet2, rvar, gt, Oe.bindS, mv, So.bind, rd, rdI, gIx, gMod, gDiv, gSub, gAdd, gMul, gPow, gNeg, quiet1, List.set, ifE, quietT, asB, asBE, tru, truE, truth, gEq, gNe, plain0, SeqAt.shaped, PyData.eqv, PyData.eqvAll, PyData.canLay0, PyData.canLayAll0, PyData.depth, PyData.depthAll, Ot.bindS, retE, dispTQ, dispLQ, dispTE, dispLE, qCons, qNil, frzQ, frzE, frz1, mvOut, outF, asOf, line, bitsOk, notQ, notE, andQ, orQ, andE, orE, vAndQ, vOrQ, vAndE, vOrE, Oe.bind, Ot.bind, Oe.bindT, Ot.bindT, Oa.bind, Oa.bindA, Oe.bindA, Oa.bindS, lCons, lNil, quietA, gather, gather1, back, back1, slR, callE, quietN, loudN, rds, gLen, gLt, gLe, gGt, gGe, chainQ, gIsI, isB, gNot, gIs, gIsNot, gIsB, gIsNotB, dropE, retX, matchE, cCons, cNil, mSeq, mCons, mNil, mLit, mCap, mAny, bindE, raiseE, tryE, tryAsE, unSo, isXE, sliceQ, noO, someO, gSl, iteQ, iteE, parE, loud2, loud1, gIn, gNotIn, gAll, shapedL, inL, allB, Oe.bindI, Oa.bindI, seqI, lcE, lcL, wipeE, backE, asgN, yesE, atI_m1, atI_nn, blt_eq, ble_eq, noPf, rfld, subE, plR, plW, gow, gof, mtQE, mtE, isL, gAppend, methE, newE, isOb, fldE, flOf, setFl]
theorem ref_bad {s s' : Sl} {d : D} {i : Int} (h : m_check_code [s] = .ex 1 (.int i) [s']) (hs : (s = .fz d ∧ s' = .fz d) ∨ s = .ow d) : m_law_refusal [s] = .ret (.fz (.int i)) [s'] := by
  rcases hs with ⟨rfl, rfl⟩ | rfl <;> simp [m_law_refusal, g_law_refusal, h, ct_BadCode, is_BadText, good_index, fnF, bCons, bNil, setE, quiet, quiet2, rvar, gt, Oe.bindS, mv, So.bind, rd, rdI, gIx, gMod, gDiv, gSub, gAdd, gMul, gPow, gNeg, quiet1, List.set, ifE, quietT, asB, asBE, tru, truE, truth, gEq, gNe, plain0, SeqAt.shaped, PyData.eqv, PyData.eqvAll, PyData.canLay0, PyData.canLayAll0, PyData.depth, PyData.depthAll, Ot.bindS, retE, dispTQ, dispLQ, dispTE, dispLE, qCons, qNil, frzQ, frzE, frz1, mvOut, outF, asOf, line, bitsOk, notQ, notE, andQ, orQ, andE, orE, vAndQ, vOrQ, vAndE, vOrE, Oe.bind, Ot.bind, Oe.bindT, Ot.bindT, Oa.bind, Oa.bindA, Oe.bindA, Oa.bindS, lCons, lNil, quietA, gather, gather1, back, back1, slR, callE, quietN, loudN, rds, gLen, gLt, gLe, gGt, gGe, chainQ, gIsI, isB, gNot, gIs, gIsNot, gIsB, gIsNotB, dropE, retX, matchE, cCons, cNil, mSeq, mCons, mNil, mLit, mCap, mAny, bindE, raiseE, tryE, tryAsE, unSo, isXE, sliceQ, noO, someO, gSl, iteQ, iteE, parE, loud2, loud1, gIn, gNotIn, gAll, shapedL, inL, allB, Oe.bindI, Oa.bindI, seqI, lcE, lcL, wipeE, backE, asgN, yesE, atI_m1, atI_nn, blt_eq, ble_eq, noPf, rfld, subE, plR, plW, gow, gof, mtQE, mtE, isL, gAppend, methE, newE, isOb, fldE, flOf, setFl]
end k50
end Bv
set_option maxHeartbeats 0
namespace Bv
namespace k50
open PySem L2
def ob (code : List D) (known : List (D × D)) : Sl := .ob 0 [.ow (.list code), .ow (.dict (mark :: known))]
theorem vAt_new {k : NestedKey} {d v : D} (hk : toKey d = some k) : ∀ {known : List (D × D)}, vAtN known k = none → vAtN (known ++ [(d, v)]) k = some v
  | [], _ => by simp [vAtN, hk]
  | (kd, w) :: r, h => by
    simp only [vAtN] at h
    split at h
    · cases h
    · rename_i hne
      simp only [List.cons_append, vAtN, if_neg hne]
      exact vAt_new hk h
theorem told_new {code : List D} {known : List (D × D)} {d : D} {k : NestedKey} (hk : keyN d = some k) (hv : vAtN known k = none) (h1 : code.length < 16777216) (h2 : known.length < 16777216) :
    m_Writer_told [ob code known, .fz d] = .ret (.fz (.int code.length)) [ob (code ++ [d]) (known ++ [(d, .int code.length)]), .fz d] := by
  have h3 := vAt_new (v := .int code.length) (keyN_ok hk).1 hv
  simp [m_Writer_told, g_Writer_told, ob, gInN, hk, unmark, mark, hv, gSetN, stN, gIxN, h1, h2, h3, fnF, bCons, bNil, setE, quiet, quiet2, rvar, gt, Oe.bindS, mv, So.bind, rd, rdI, gIx, gMod, gDiv, gSub, gAdd, gMul, gPow, gNeg, quiet1, List.set, ifE, quietT, asB, asBE, tru, truE, truth, gEq, gNe, plain0, SeqAt.shaped, PyData.eqv, PyData.eqvAll, PyData.canLay0, PyData.canLayAll0, PyData.depth, PyData.depthAll, Ot.bindS, retE, dispTQ, dispLQ, dispTE, dispLE, qCons, qNil, frzQ, frzE, frz1, mvOut, outF, asOf, line, bitsOk, notQ, notE, andQ, orQ, andE, orE, vAndQ, vOrQ, vAndE, vOrE, Oe.bind, Ot.bind, Oe.bindT, Ot.bindT, Oa.bind, Oa.bindA, Oe.bindA, Oa.bindS, lCons, lNil, quietA, gather, gather1, back, back1, slR, callE, quietN, loudN, rds, gLen, gLt, gLe, gGt, gGe, chainQ, gIsI, isB, gNot, gIs, gIsNot, gIsB, gIsNotB, dropE, retX, matchE, cCons, cNil, mSeq, mCons, mNil, mLit, mCap, mAny, bindE, raiseE, tryE, tryAsE, unSo, isXE, sliceQ, noO, someO, gSl, iteQ, iteE, parE, loud2, loud1, gIn, gNotIn, gAll, shapedL, inL, allB, Oe.bindI, Oa.bindI, seqI, lcE, lcL, wipeE, backE, asgN, yesE, atI_m1, atI_nn, blt_eq, ble_eq, noPf, gf, rfld, subE, plR, plW, gow, gof, mtQE, mtE, isL, gAppend, methE, newE, isOb, fldE, flOf, setFl]
theorem told_old {code : List D} {known : List (D × D)} {d : D} {k : NestedKey} {z : Int} (hk : keyN d = some k) (hv : vAtN known k = some (.int z)) :
    m_Writer_told [ob code known, .fz d] = .ret (.fz (.int z)) [ob code known, .fz d] := by
  simp [m_Writer_told, g_Writer_told, ob, gInN, hk, unmark, mark, hv, gIxN, fnF, bCons, bNil, setE, quiet, quiet2, rvar, gt, Oe.bindS, mv, So.bind, rd, rdI, gIx, gMod, gDiv, gSub, gAdd, gMul, gPow, gNeg, quiet1, List.set, ifE, quietT, asB, asBE, tru, truE, truth, gEq, gNe, plain0, SeqAt.shaped, PyData.eqv, PyData.eqvAll, PyData.canLay0, PyData.canLayAll0, PyData.depth, PyData.depthAll, Ot.bindS, retE, dispTQ, dispLQ, dispTE, dispLE, qCons, qNil, frzQ, frzE, frz1, mvOut, outF, asOf, line, bitsOk, notQ, notE, andQ, orQ, andE, orE, vAndQ, vOrQ, vAndE, vOrE, Oe.bind, Ot.bind, Oe.bindT, Ot.bindT, Oa.bind, Oa.bindA, Oe.bindA, Oa.bindS, lCons, lNil, quietA, gather, gather1, back, back1, slR, callE, quietN, loudN, rds, gLen, gLt, gLe, gGt, gGe, chainQ, gIsI, isB, gNot, gIs, gIsNot, gIsB, gIsNotB, dropE, retX, matchE, cCons, cNil, mSeq, mCons, mNil, mLit, mCap, mAny, bindE, raiseE, tryE, tryAsE, unSo, isXE, sliceQ, noO, someO, gSl, iteQ, iteE, parE, loud2, loud1, gIn, gNotIn, gAll, shapedL, inL, allB, Oe.bindI, Oa.bindI, seqI, lcE, lcL, wipeE, backE, asgN, yesE, atI_m1, atI_nn, blt_eq, ble_eq, noPf, gf, rfld, subE, plR, plW, gow, gof, mtQE, mtE, isL, gAppend, methE, newE, isOb, fldE, flOf, setFl]
/-- what a Writer keeps -/
structure Ok (code : List D) (known : List (D × D)) : Prop where
  good : Good code
  kn : ∀ k v, vAtN known k = some v → ∃ j : Nat, v = .int j ∧ j < code.length
  len : known.length ≤ code.length
theorem good_snoc {code : List D} {d : D} (h : Good code) (hd : GoodIns d code.length) : Good (code ++ [d]) := by
  intro j x hj
  by_cases hl : j < code.length
  · rw [List.getElem?_append_left hl] at hj
    exact h j x hj
  · rw [List.getElem?_append_right (by omega)] at hj
    have : j - code.length = 0 := by
      cases e : j - code.length with
      | zero => rfl
      | succ n => rw [e] at hj; simp at hj
    rw [this] at hj
    simp at hj
    subst hj
    have : j = code.length := by omega
    rw [this]; exact hd
theorem vAt_app {k k' : NestedKey} {d v w : D} (hk : toKey d = some k) : ∀ {known : List (D × D)}, vAtN (known ++ [(d, v)]) k' = some w → vAtN known k' = some w ∨ w = v
  | [], h => by
    simp only [List.nil_append, vAtN] at h
    split at h
    · cases h; exact .inr rfl
    · cases h
  | (kd, u) :: r, h => by
    simp only [List.cons_append, vAtN] at h ⊢
    split at h
    · rename_i e; rw [if_pos e]; exact .inl h
    · rename_i e; rw [if_neg e]; exact vAt_app hk h
/-- told: the register of an instruction -/
theorem told_ok {code : List D} {known : List (D × D)} {d : D} {k : NestedKey} (I : Ok code known) (hk : keyN d = some k) (hd : GoodIns d code.length) (hl : code.length < 16777216) :
    ∃ (r : Nat) (code' : List D) (known' : List (D × D)), m_Writer_told [ob code known, .fz d] = .ret (.fz (.int r)) [ob code' known', .fz d] ∧ Ok code' known' ∧ r < code'.length ∧ code.length ≤ code'.length ∧ code'.length ≤ code.length + 1 := by
  cases hv : vAtN known k with
  | none =>
    refine ⟨code.length, code ++ [d], known ++ [(d, .int code.length)], told_new hk hv hl (by have := I.len; omega), ⟨good_snoc I.good hd, fun k' v h => ?_, by simp; exact I.len⟩, by simp, by simp, by simp⟩
    rcases vAt_app (keyN_ok hk).1 h with h | h
    · obtain ⟨j, e, hj⟩ := I.kn k' v h
      exact ⟨j, e, by simp; omega⟩
    · exact ⟨code.length, h, by simp⟩
  | some v =>
    obtain ⟨j, rfl, hj⟩ := I.kn k v hv
    exact ⟨j, code, known, told_old hk hv, I, hj, Nat.le_refl _, Nat.le_succ _⟩
end k50
end Bv
set_option maxHeartbeats 0
namespace Bv
namespace k50
open PySem L2
theorem key_good {d : D} {i : Int} (h : GoodIns d i) : ∃ k, keyN d = some k := by
  cases h <;> simp [keyN, toKey, toKeys, NestedKey.depth, NestedKey.depthAll]
/-- a tree that the law draws -/
inductive Tree where
  | whole (n : Int) | of (a b : Int) (j : Int) | minus (t : Tree) | power (t : Tree) (m : Nat) | root (k : Int) (t : Tree) | bin (w : Str) (s t : Tree)
def Tree.d : Tree → D
  | .whole n => .tuple [.str "whole", .int n]
  | .of a b i => .tuple [.str "of", .tuple [.int a, .int b, .int 1], .int i]
  | .minus t => .tuple [.str "minus", t.d]
  | .power t m => .tuple [.str "power", t.d, .int m]
  | .root k t => .tuple [.str "root", .int k, t.d]
  | .bin w s t => .tuple [.str w, s.d, t.d]
def Tree.fu : Tree → Nat
  | .whole _ => 1
  | .of _ _ _ => 1
  | .minus t => t.fu + 3
  | .power t _ => t.fu + 2
  | .root _ t => t.fu + 1
  | .bin _ s t => max s.fu t.fu + 1
def Tree.sz : Tree → Nat
  | .whole _ => 1
  | .of _ _ _ => 1
  | .minus t => t.sz + 2
  | .power t m => t.sz + m + 1
  | .root _ t => t.sz + 1
  | .bin _ s t => s.sz + t.sz + 1
def Tree.V : Tree → Prop
  | .whole _ => True
  | .of a b j => (-1000 ≤ a ∧ a ≤ 1000) ∧ (-1000 ≤ b ∧ b ≤ 1000) ∧ 0 ≤ j
  | .minus t => t.V
  | .power t m => m < 1000 ∧ t.V
  | .root k t => (k = 2 ∨ k = 3) ∧ t.V
  | .bin w s t => isWord w ∧ s.V ∧ t.V
theorem Tree.fu_pos : ∀ t : Tree, 1 ≤ t.fu
  | .whole _ => Nat.le_refl _
  | .of _ _ _ => Nat.le_refl _
  | .minus t => by simp [Tree.fu]
  | .power t _ => by simp [Tree.fu]
  | .root _ t => by simp [Tree.fu]
  | .bin _ s t => by simp [Tree.fu]
/-- the promise of write -/
def WOk (j : Nat) : Prop := ∀ (t : Tree) (code : List D) (known : List (D × D)), t.fu ≤ j → t.V → Ok code known → code.length + t.sz < 16777216 →
  ∃ (r : Nat) (code' : List D) (known' : List (D × D)), rec_9 j 0 [ob code known, .fz t.d] = .ret (.fz (.int r)) [ob code' known', .fz t.d] ∧ Ok code' known' ∧ r < code'.length ∧ code.length ≤ code'.length ∧ code'.length ≤ code.length + t.sz
theorem w_whole (j : Nat) (n : Int) (code : List D) (known : List (D × D)) (I : Ok code known) (hl : code.length + 1 < 16777216) :
    ∃ (r : Nat) (code' : List D) (known' : List (D × D)), rec_9 (j + 1) 0 [ob code known, .fz (Tree.whole n).d] = .ret (.fz (.int r)) [ob code' known', .fz (Tree.whole n).d] ∧ Ok code' known' ∧ r < code'.length ∧ code.length ≤ code'.length ∧ code'.length ≤ code.length + 1 := by
  obtain ⟨k, hk⟩ := key_good (GoodIns.whole n code.length)
  obtain ⟨r, code', known', e, I', h1, h2, h3⟩ := told_ok I hk (GoodIns.whole n code.length) (by omega)
  refine ⟨r, code', known', ?_, I', h1, h2, h3⟩
  simp only [ob] at e ⊢
  simp [rec_9, g_Writer_write, Tree.d, e, fnF, bCons, bNil, setE, quiet, quiet2, rvar, gt, Oe.bindS, mv, So.bind, rd, rdI, gIx, gMod, gDiv, gSub, gAdd, gMul, gPow, gNeg, quiet1, List.set, ifE, quietT, asB, asBE, tru, truE, truth, gEq, gNe, plain0, SeqAt.shaped, PyData.eqv, PyData.eqvAll, PyData.canLay0, PyData.canLayAll0, PyData.depth, PyData.depthAll, Ot.bindS, retE, dispTQ, dispLQ, dispTE, dispLE, qCons, qNil, frzQ, frzE, frz1, mvOut, outF, asOf, line, bitsOk, notQ, notE, andQ, orQ, andE, orE, vAndQ, vOrQ, vAndE, vOrE, Oe.bind, Ot.bind, Oe.bindT, Ot.bindT, Oa.bind, Oa.bindA, Oe.bindA, Oa.bindS, lCons, lNil, quietA, gather, gather1, back, back1, slR, callE, quietN, loudN, rds, gLen, gLt, gLe, gGt, gGe, chainQ, gIsI, isB, gNot, gIs, gIsNot, gIsB, gIsNotB, dropE, retX, matchE, cCons, cNil, mSeq, mCons, mNil, mLit, mCap, mAny, bindE, raiseE, tryE, tryAsE, unSo, isXE, sliceQ, noO, someO, gSl, iteQ, iteE, parE, loud2, loud1, gIn, gNotIn, gAll, shapedL, inL, allB, Oe.bindI, Oa.bindI, seqI, lcE, lcL, wipeE, backE, asgN, yesE, atI_m1, atI_nn, blt_eq, ble_eq, noPf, gf, rfld, subE, plR, plW, gow, gof, mtQE, mtE, isL, gAppend, methE, newE, isOb, fldE, flOf, setFl, ok_whole, ok_root, ok_of, ok_plus, ok_less, ok_by, ok_over, ok_minus, ok_power, ok_times, eq_whole_whole, eq_whole_root, eq_whole_of, eq_whole_plus, eq_whole_less, eq_whole_by, eq_whole_over, eq_whole_minus, eq_whole_power, eq_whole_times, eq_root_whole, eq_root_root, eq_root_of, eq_root_plus, eq_root_less, eq_root_by, eq_root_over, eq_root_minus, eq_root_power, eq_root_times, eq_of_whole, eq_of_root, eq_of_of, eq_of_plus, eq_of_less, eq_of_by, eq_of_over, eq_of_minus, eq_of_power, eq_of_times, eq_plus_whole, eq_plus_root, eq_plus_of, eq_plus_plus, eq_plus_less, eq_plus_by, eq_plus_over, eq_plus_minus, eq_plus_power, eq_plus_times, eq_less_whole, eq_less_root, eq_less_of, eq_less_plus, eq_less_less, eq_less_by, eq_less_over, eq_less_minus, eq_less_power, eq_less_times, eq_by_whole, eq_by_root, eq_by_of, eq_by_plus, eq_by_less, eq_by_by, eq_by_over, eq_by_minus, eq_by_power, eq_by_times, eq_over_whole, eq_over_root, eq_over_of, eq_over_plus, eq_over_less, eq_over_by, eq_over_over, eq_over_minus, eq_over_power, eq_over_times, eq_minus_whole, eq_minus_root, eq_minus_of, eq_minus_plus, eq_minus_less, eq_minus_by, eq_minus_over, eq_minus_minus, eq_minus_power, eq_minus_times, eq_power_whole, eq_power_root, eq_power_of, eq_power_plus, eq_power_less, eq_power_by, eq_power_over, eq_power_minus, eq_power_power, eq_power_times, eq_times_whole, eq_times_root, eq_times_of, eq_times_plus, eq_times_less, eq_times_by, eq_times_over, eq_times_minus, eq_times_power, eq_times_times]
theorem w_of (j : Nat) (a b i : Int) (ha : -1000 ≤ a ∧ a ≤ 1000) (hb : -1000 ≤ b ∧ b ≤ 1000) (hi : 0 ≤ i) (code : List D) (known : List (D × D)) (I : Ok code known) (hl : code.length + 1 < 16777216) :
    ∃ (r : Nat) (code' : List D) (known' : List (D × D)), rec_9 (j + 1) 0 [ob code known, .fz (Tree.of a b i).d] = .ret (.fz (.int r)) [ob code' known', .fz (Tree.of a b i).d] ∧ Ok code' known' ∧ r < code'.length ∧ code.length ≤ code'.length ∧ code'.length ≤ code.length + 1 := by
  have hg := GoodIns.of a b i code.length ha hb hi
  obtain ⟨k, hk⟩ := key_good hg
  obtain ⟨r, code', known', e, I', h1, h2, h3⟩ := told_ok I hk hg (by omega)
  refine ⟨r, code', known', ?_, I', h1, h2, h3⟩
  simp only [ob] at e ⊢
  simp [rec_9, g_Writer_write, Tree.d, e, fnF, bCons, bNil, setE, quiet, quiet2, rvar, gt, Oe.bindS, mv, So.bind, rd, rdI, gIx, gMod, gDiv, gSub, gAdd, gMul, gPow, gNeg, quiet1, List.set, ifE, quietT, asB, asBE, tru, truE, truth, gEq, gNe, plain0, SeqAt.shaped, PyData.eqv, PyData.eqvAll, PyData.canLay0, PyData.canLayAll0, PyData.depth, PyData.depthAll, Ot.bindS, retE, dispTQ, dispLQ, dispTE, dispLE, qCons, qNil, frzQ, frzE, frz1, mvOut, outF, asOf, line, bitsOk, notQ, notE, andQ, orQ, andE, orE, vAndQ, vOrQ, vAndE, vOrE, Oe.bind, Ot.bind, Oe.bindT, Ot.bindT, Oa.bind, Oa.bindA, Oe.bindA, Oa.bindS, lCons, lNil, quietA, gather, gather1, back, back1, slR, callE, quietN, loudN, rds, gLen, gLt, gLe, gGt, gGe, chainQ, gIsI, isB, gNot, gIs, gIsNot, gIsB, gIsNotB, dropE, retX, matchE, cCons, cNil, mSeq, mCons, mNil, mLit, mCap, mAny, bindE, raiseE, tryE, tryAsE, unSo, isXE, sliceQ, noO, someO, gSl, iteQ, iteE, parE, loud2, loud1, gIn, gNotIn, gAll, shapedL, inL, allB, Oe.bindI, Oa.bindI, seqI, lcE, lcL, wipeE, backE, asgN, yesE, atI_m1, atI_nn, blt_eq, ble_eq, noPf, gf, rfld, subE, plR, plW, gow, gof, mtQE, mtE, isL, gAppend, methE, newE, isOb, fldE, flOf, setFl, ok_whole, ok_root, ok_of, ok_plus, ok_less, ok_by, ok_over, ok_minus, ok_power, ok_times, eq_whole_whole, eq_whole_root, eq_whole_of, eq_whole_plus, eq_whole_less, eq_whole_by, eq_whole_over, eq_whole_minus, eq_whole_power, eq_whole_times, eq_root_whole, eq_root_root, eq_root_of, eq_root_plus, eq_root_less, eq_root_by, eq_root_over, eq_root_minus, eq_root_power, eq_root_times, eq_of_whole, eq_of_root, eq_of_of, eq_of_plus, eq_of_less, eq_of_by, eq_of_over, eq_of_minus, eq_of_power, eq_of_times, eq_plus_whole, eq_plus_root, eq_plus_of, eq_plus_plus, eq_plus_less, eq_plus_by, eq_plus_over, eq_plus_minus, eq_plus_power, eq_plus_times, eq_less_whole, eq_less_root, eq_less_of, eq_less_plus, eq_less_less, eq_less_by, eq_less_over, eq_less_minus, eq_less_power, eq_less_times, eq_by_whole, eq_by_root, eq_by_of, eq_by_plus, eq_by_less, eq_by_by, eq_by_over, eq_by_minus, eq_by_power, eq_by_times, eq_over_whole, eq_over_root, eq_over_of, eq_over_plus, eq_over_less, eq_over_by, eq_over_over, eq_over_minus, eq_over_power, eq_over_times, eq_minus_whole, eq_minus_root, eq_minus_of, eq_minus_plus, eq_minus_less, eq_minus_by, eq_minus_over, eq_minus_minus, eq_minus_power, eq_minus_times, eq_power_whole, eq_power_root, eq_power_of, eq_power_plus, eq_power_less, eq_power_by, eq_power_over, eq_power_minus, eq_power_power, eq_power_times, eq_times_whole, eq_times_root, eq_times_of, eq_times_plus, eq_times_less, eq_times_by, eq_times_over, eq_times_minus, eq_times_power, eq_times_times]
theorem w_minus {j : Nat} (h : WOk j) (t : Tree) (code : List D) (known : List (D × D)) (hf : t.fu + 2 ≤ j) (hv : t.V) (I : Ok code known) (hl : code.length + (t.sz + 2) < 16777216) :
    ∃ (r : Nat) (code' : List D) (known' : List (D × D)), rec_9 (j + 1) 0 [ob code known, .fz (Tree.minus t).d] = .ret (.fz (.int r)) [ob code' known', .fz (Tree.minus t).d] ∧ Ok code' known' ∧ r < code'.length ∧ code.length ≤ code'.length ∧ code'.length ≤ code.length + (t.sz + 2) := by
  have hp := t.fu_pos
  obtain ⟨r, code', known', e, I', h1, h2, h3⟩ := h (.bin "less" (.whole 0) t) code known (by simp [Tree.fu]; omega) ⟨.inr (.inl rfl), trivial, hv⟩ I (by simp [Tree.sz]; omega)
  refine ⟨r, code', known', ?_, I', h1, h2, by simp [Tree.sz] at h3; omega⟩
  simp only [ob, Tree.d] at e ⊢
  generalize t.d = td at *
  rw [rec_9]
  simp [g_Writer_write, e, fnF, bCons, bNil, setE, quiet, quiet2, rvar, gt, Oe.bindS, mv, So.bind, rd, rdI, gIx, gMod, gDiv, gSub, gAdd, gMul, gPow, gNeg, quiet1, List.set, ifE, quietT, asB, asBE, tru, truE, truth, gEq, gNe, plain0, SeqAt.shaped, PyData.eqv, PyData.eqvAll, PyData.canLay0, PyData.canLayAll0, PyData.depth, PyData.depthAll, Ot.bindS, retE, dispTQ, dispLQ, dispTE, dispLE, qCons, qNil, frzQ, frzE, frz1, mvOut, outF, asOf, line, bitsOk, notQ, notE, andQ, orQ, andE, orE, vAndQ, vOrQ, vAndE, vOrE, Oe.bind, Ot.bind, Oe.bindT, Ot.bindT, Oa.bind, Oa.bindA, Oe.bindA, Oa.bindS, lCons, lNil, quietA, gather, gather1, back, back1, slR, callE, quietN, loudN, rds, gLen, gLt, gLe, gGt, gGe, chainQ, gIsI, isB, gNot, gIs, gIsNot, gIsB, gIsNotB, dropE, retX, matchE, cCons, cNil, mSeq, mCons, mNil, mLit, mCap, mAny, bindE, raiseE, tryE, tryAsE, unSo, isXE, sliceQ, noO, someO, gSl, iteQ, iteE, parE, loud2, loud1, gIn, gNotIn, gAll, shapedL, inL, allB, Oe.bindI, Oa.bindI, seqI, lcE, lcL, wipeE, backE, asgN, yesE, atI_m1, atI_nn, blt_eq, ble_eq, noPf, gf, rfld, subE, plR, plW, gow, gof, mtQE, mtE, isL, gAppend, methE, newE, isOb, fldE, flOf, setFl, ok_whole, ok_root, ok_of, ok_plus, ok_less, ok_by, ok_over, ok_minus, ok_power, ok_times, eq_whole_whole, eq_whole_root, eq_whole_of, eq_whole_plus, eq_whole_less, eq_whole_by, eq_whole_over, eq_whole_minus, eq_whole_power, eq_whole_times, eq_root_whole, eq_root_root, eq_root_of, eq_root_plus, eq_root_less, eq_root_by, eq_root_over, eq_root_minus, eq_root_power, eq_root_times, eq_of_whole, eq_of_root, eq_of_of, eq_of_plus, eq_of_less, eq_of_by, eq_of_over, eq_of_minus, eq_of_power, eq_of_times, eq_plus_whole, eq_plus_root, eq_plus_of, eq_plus_plus, eq_plus_less, eq_plus_by, eq_plus_over, eq_plus_minus, eq_plus_power, eq_plus_times, eq_less_whole, eq_less_root, eq_less_of, eq_less_plus, eq_less_less, eq_less_by, eq_less_over, eq_less_minus, eq_less_power, eq_less_times, eq_by_whole, eq_by_root, eq_by_of, eq_by_plus, eq_by_less, eq_by_by, eq_by_over, eq_by_minus, eq_by_power, eq_by_times, eq_over_whole, eq_over_root, eq_over_of, eq_over_plus, eq_over_less, eq_over_by, eq_over_over, eq_over_minus, eq_over_power, eq_over_times, eq_minus_whole, eq_minus_root, eq_minus_of, eq_minus_plus, eq_minus_less, eq_minus_by, eq_minus_over, eq_minus_minus, eq_minus_power, eq_minus_times, eq_power_whole, eq_power_root, eq_power_of, eq_power_plus, eq_power_less, eq_power_by, eq_power_over, eq_power_minus, eq_power_power, eq_power_times, eq_times_whole, eq_times_root, eq_times_of, eq_times_plus, eq_times_less, eq_times_by, eq_times_over, eq_times_minus, eq_times_power, eq_times_times]
theorem w_root {j : Nat} (h : WOk j) (q : Int) (hq : q = 2 ∨ q = 3) (t : Tree) (code : List D) (known : List (D × D)) (hf : t.fu ≤ j) (hv : t.V) (I : Ok code known) (hl : code.length + (t.sz + 1) < 16777216) :
    ∃ (r : Nat) (code' : List D) (known' : List (D × D)), rec_9 (j + 1) 0 [ob code known, .fz (Tree.root q t).d] = .ret (.fz (.int r)) [ob code' known', .fz (Tree.root q t).d] ∧ Ok code' known' ∧ r < code'.length ∧ code.length ≤ code'.length ∧ code'.length ≤ code.length + (t.sz + 1) := by
  obtain ⟨r1, code1, known1, e1, I1, h1, h2, h3⟩ := h t code known hf hv I (by omega)
  have hg : GoodIns (.tuple [.str "root", .int q, .int r1]) code1.length := by
    rcases hq with rfl | rfl
    · exact .root2 _ _ (by omega) (by omega)
    · exact .root3 _ _ (by omega) (by omega)
  obtain ⟨k, hk⟩ := key_good hg
  obtain ⟨r, code', known', e, I', h1', h2', h3'⟩ := told_ok I1 hk hg (by omega)
  refine ⟨r, code', known', ?_, I', h1', by omega, by omega⟩
  simp only [ob, Tree.d] at e e1 ⊢
  generalize t.d = td at *
  rw [rec_9]
  simp [g_Writer_write, e, e1, fnF, bCons, bNil, setE, quiet, quiet2, rvar, gt, Oe.bindS, mv, So.bind, rd, rdI, gIx, gMod, gDiv, gSub, gAdd, gMul, gPow, gNeg, quiet1, List.set, ifE, quietT, asB, asBE, tru, truE, truth, gEq, gNe, plain0, SeqAt.shaped, PyData.eqv, PyData.eqvAll, PyData.canLay0, PyData.canLayAll0, PyData.depth, PyData.depthAll, Ot.bindS, retE, dispTQ, dispLQ, dispTE, dispLE, qCons, qNil, frzQ, frzE, frz1, mvOut, outF, asOf, line, bitsOk, notQ, notE, andQ, orQ, andE, orE, vAndQ, vOrQ, vAndE, vOrE, Oe.bind, Ot.bind, Oe.bindT, Ot.bindT, Oa.bind, Oa.bindA, Oe.bindA, Oa.bindS, lCons, lNil, quietA, gather, gather1, back, back1, slR, callE, quietN, loudN, rds, gLen, gLt, gLe, gGt, gGe, chainQ, gIsI, isB, gNot, gIs, gIsNot, gIsB, gIsNotB, dropE, retX, matchE, cCons, cNil, mSeq, mCons, mNil, mLit, mCap, mAny, bindE, raiseE, tryE, tryAsE, unSo, isXE, sliceQ, noO, someO, gSl, iteQ, iteE, parE, loud2, loud1, gIn, gNotIn, gAll, shapedL, inL, allB, Oe.bindI, Oa.bindI, seqI, lcE, lcL, wipeE, backE, asgN, yesE, atI_m1, atI_nn, blt_eq, ble_eq, noPf, gf, rfld, subE, plR, plW, gow, gof, mtQE, mtE, isL, gAppend, methE, newE, isOb, fldE, flOf, setFl, ok_whole, ok_root, ok_of, ok_plus, ok_less, ok_by, ok_over, ok_minus, ok_power, ok_times, eq_whole_whole, eq_whole_root, eq_whole_of, eq_whole_plus, eq_whole_less, eq_whole_by, eq_whole_over, eq_whole_minus, eq_whole_power, eq_whole_times, eq_root_whole, eq_root_root, eq_root_of, eq_root_plus, eq_root_less, eq_root_by, eq_root_over, eq_root_minus, eq_root_power, eq_root_times, eq_of_whole, eq_of_root, eq_of_of, eq_of_plus, eq_of_less, eq_of_by, eq_of_over, eq_of_minus, eq_of_power, eq_of_times, eq_plus_whole, eq_plus_root, eq_plus_of, eq_plus_plus, eq_plus_less, eq_plus_by, eq_plus_over, eq_plus_minus, eq_plus_power, eq_plus_times, eq_less_whole, eq_less_root, eq_less_of, eq_less_plus, eq_less_less, eq_less_by, eq_less_over, eq_less_minus, eq_less_power, eq_less_times, eq_by_whole, eq_by_root, eq_by_of, eq_by_plus, eq_by_less, eq_by_by, eq_by_over, eq_by_minus, eq_by_power, eq_by_times, eq_over_whole, eq_over_root, eq_over_of, eq_over_plus, eq_over_less, eq_over_by, eq_over_over, eq_over_minus, eq_over_power, eq_over_times, eq_minus_whole, eq_minus_root, eq_minus_of, eq_minus_plus, eq_minus_less, eq_minus_by, eq_minus_over, eq_minus_minus, eq_minus_power, eq_minus_times, eq_power_whole, eq_power_root, eq_power_of, eq_power_plus, eq_power_less, eq_power_by, eq_power_over, eq_power_minus, eq_power_power, eq_power_times, eq_times_whole, eq_times_root, eq_times_of, eq_times_plus, eq_times_less, eq_times_by, eq_times_over, eq_times_minus, eq_times_power, eq_times_times]
theorem w_bin {j : Nat} (h : WOk j) {w : Str} (hw : isWord w) (s t : Tree) (code : List D) (known : List (D × D)) (hf1 : s.fu ≤ j) (hf2 : t.fu ≤ j) (hv1 : s.V) (hv2 : t.V) (I : Ok code known) (hl : code.length + (s.sz + t.sz + 1) < 16777216) :
    ∃ (r : Nat) (code' : List D) (known' : List (D × D)), rec_9 (j + 1) 0 [ob code known, .fz (Tree.bin w s t).d] = .ret (.fz (.int r)) [ob code' known', .fz (Tree.bin w s t).d] ∧ Ok code' known' ∧ r < code'.length ∧ code.length ≤ code'.length ∧ code'.length ≤ code.length + (s.sz + t.sz + 1) := by
  obtain ⟨r1, code1, known1, e1, I1, h1, h2, h3⟩ := h s code known hf1 hv1 I (by omega)
  obtain ⟨r2, code2, known2, e2, I2, h4, h5, h6⟩ := h t code1 known1 hf2 hv2 I1 (by omega)
  have hg : GoodIns (.tuple [.str w, .int r1, .int r2]) code2.length := .bin _ _ _ hw (by omega) (by omega)
  obtain ⟨k, hk⟩ := key_good hg
  obtain ⟨r, code', known', e, I', h1', h2', h3'⟩ := told_ok I2 hk hg (by omega)
  refine ⟨r, code', known', ?_, I', h1', by omega, by omega⟩
  simp only [ob, Tree.d] at e e1 e2 ⊢
  generalize s.d = sd at *
  generalize t.d = td at *
  rw [rec_9]
  rcases hw with rfl | rfl | rfl | rfl <;> simp [g_Writer_write, e, e1, e2, fnF, bCons, bNil, setE, quiet, quiet2, rvar, gt, Oe.bindS, mv, So.bind, rd, rdI, gIx, gMod, gDiv, gSub, gAdd, gMul, gPow, gNeg, quiet1, List.set, ifE, quietT, asB, asBE, tru, truE, truth, gEq, gNe, plain0, SeqAt.shaped, PyData.eqv, PyData.eqvAll, PyData.canLay0, PyData.canLayAll0, PyData.depth, PyData.depthAll, Ot.bindS, retE, dispTQ, dispLQ, dispTE, dispLE, qCons, qNil, frzQ, frzE, frz1, mvOut, outF, asOf, line, bitsOk, notQ, notE, andQ, orQ, andE, orE, vAndQ, vOrQ, vAndE, vOrE, Oe.bind, Ot.bind, Oe.bindT, Ot.bindT, Oa.bind, Oa.bindA, Oe.bindA, Oa.bindS, lCons, lNil, quietA, gather, gather1, back, back1, slR, callE, quietN, loudN, rds, gLen, gLt, gLe, gGt, gGe, chainQ, gIsI, isB, gNot, gIs, gIsNot, gIsB, gIsNotB, dropE, retX, matchE, cCons, cNil, mSeq, mCons, mNil, mLit, mCap, mAny, bindE, raiseE, tryE, tryAsE, unSo, isXE, sliceQ, noO, someO, gSl, iteQ, iteE, parE, loud2, loud1, gIn, gNotIn, gAll, shapedL, inL, allB, Oe.bindI, Oa.bindI, seqI, lcE, lcL, wipeE, backE, asgN, yesE, atI_m1, atI_nn, blt_eq, ble_eq, noPf, gf, rfld, subE, plR, plW, gow, gof, mtQE, mtE, isL, gAppend, methE, newE, isOb, fldE, flOf, setFl, ok_whole, ok_root, ok_of, ok_plus, ok_less, ok_by, ok_over, ok_minus, ok_power, ok_times, eq_whole_whole, eq_whole_root, eq_whole_of, eq_whole_plus, eq_whole_less, eq_whole_by, eq_whole_over, eq_whole_minus, eq_whole_power, eq_whole_times, eq_root_whole, eq_root_root, eq_root_of, eq_root_plus, eq_root_less, eq_root_by, eq_root_over, eq_root_minus, eq_root_power, eq_root_times, eq_of_whole, eq_of_root, eq_of_of, eq_of_plus, eq_of_less, eq_of_by, eq_of_over, eq_of_minus, eq_of_power, eq_of_times, eq_plus_whole, eq_plus_root, eq_plus_of, eq_plus_plus, eq_plus_less, eq_plus_by, eq_plus_over, eq_plus_minus, eq_plus_power, eq_plus_times, eq_less_whole, eq_less_root, eq_less_of, eq_less_plus, eq_less_less, eq_less_by, eq_less_over, eq_less_minus, eq_less_power, eq_less_times, eq_by_whole, eq_by_root, eq_by_of, eq_by_plus, eq_by_less, eq_by_by, eq_by_over, eq_by_minus, eq_by_power, eq_by_times, eq_over_whole, eq_over_root, eq_over_of, eq_over_plus, eq_over_less, eq_over_by, eq_over_over, eq_over_minus, eq_over_power, eq_over_times, eq_minus_whole, eq_minus_root, eq_minus_of, eq_minus_plus, eq_minus_less, eq_minus_by, eq_minus_over, eq_minus_minus, eq_minus_power, eq_minus_times, eq_power_whole, eq_power_root, eq_power_of, eq_power_plus, eq_power_less, eq_power_by, eq_power_over, eq_power_minus, eq_power_power, eq_power_times, eq_times_whole, eq_times_root, eq_times_of, eq_times_plus, eq_times_less, eq_times_by, eq_times_over, eq_times_minus, eq_times_power, eq_times_times]
end k50
end Bv
set_option maxHeartbeats 0
namespace Bv
namespace k50
open PySem L2
def pbody : En → So := setE 4 (methE 0 2 m_Writer_told (quiet (rvar 0)) (quietA (qCons (dispTQ (qCons (fun _ => some (.val (.str "by"))) (qCons (rvar 4) (qCons (rvar 3) qNil)))) qNil)))
theorem p_loop {inner : D} {m : Int} {own : Nat} : ∀ (ds : List D) (code : List D) (known : List (D × D)) (found : Nat) (x : Sl), Ok code known → own < code.length → found < code.length → code.length + ds.length < 16777216 →
    ∃ (r : Nat) (code' : List D) (known' : List (D × D)) (y : Sl), forL (asgN 5) pbody ds [ob code known, .fz inner, .fz (.int m), .fz (.int own), .fz (.int found), x] = .nx [ob code' known', .fz inner, .fz (.int m), .fz (.int own), .fz (.int r), y] ∧ Ok code' known' ∧ r < code'.length ∧ code.length ≤ code'.length ∧ code'.length ≤ code.length + ds.length
  | [], code, known, found, x, I, h1, h2, h3 => ⟨found, code, known, x, rfl, I, h2, Nat.le_refl _, Nat.le_refl _⟩
  | d :: ds, code, known, found, x, I, h1, h2, h3 => by
    have hg : GoodIns (.tuple [.str "by", .int found, .int own]) code.length := .bin _ _ _ (.inr (.inr (.inl rfl))) (by omega) (by omega)
    obtain ⟨k, hk⟩ := key_good hg
    obtain ⟨r, code1, known1, e, I1, h4, h5, h6⟩ := told_ok I hk hg (by simp at h3; omega)
    have hb : pbody [ob code known, .fz inner, .fz (.int m), .fz (.int own), .fz (.int found), .fz d] = .nx [ob code1 known1, .fz inner, .fz (.int m), .fz (.int own), .fz (.int r), .fz d] := by
      simp only [ob] at e ⊢
      simp [pbody, e, fnF, bCons, bNil, setE, quiet, quiet2, rvar, gt, Oe.bindS, mv, So.bind, rd, rdI, gIx, gMod, gDiv, gSub, gAdd, gMul, gPow, gNeg, quiet1, List.set, ifE, quietT, asB, asBE, tru, truE, truth, gEq, gNe, plain0, SeqAt.shaped, PyData.eqv, PyData.eqvAll, PyData.canLay0, PyData.canLayAll0, PyData.depth, PyData.depthAll, Ot.bindS, retE, dispTQ, dispLQ, dispTE, dispLE, qCons, qNil, frzQ, frzE, frz1, mvOut, outF, asOf, line, notQ, notE, andQ, orQ, andE, orE, vAndQ, vOrQ, vAndE, vOrE, Oe.bind, Ot.bind, Oe.bindT, Ot.bindT, Oa.bind, Oa.bindA, Oe.bindA, Oa.bindS, lCons, lNil, quietA, gather, gather1, back, back1, slR, callE, quietN, loudN, rds, gLen, gLt, gLe, gGt, gGe, chainQ, gIsI, isB, gNot, gIs, gIsNot, gIsB, gIsNotB, dropE, retX, matchE, cCons, cNil, mSeq, mCons, mNil, mLit, mCap, mAny, bindE, raiseE, tryE, tryAsE, unSo, isXE, sliceQ, noO, someO, gSl, iteQ, iteE, parE, loud2, loud1, gIn, gNotIn, gAll, shapedL, inL, allB, Oe.bindI, Oa.bindI, seqI, lcE, lcL, wipeE, backE, asgN, yesE, atI_m1, atI_nn, isNone, blt_eq, ble_eq, cutD, HT.sIx, noPf, gf, rfld, subE, plR, plW, gow, gof, mtQE, mtE, isL, gAppend, methE, newE, isOb, fldE, flOf, setFl]
    obtain ⟨r', code', known', y, e', I', h7, h8, h9⟩ := p_loop (own := own) (inner := inner) (m := m) ds code1 known1 r (.fz d) I1 (by omega) h4 (by simp at h3; omega)
    refine ⟨r', code', known', y, ?_, I', h7, by omega, by simp; omega⟩
    simp only [forL, asgN, List.set]
    rw [hb]
    exact e'
theorem w_power {j : Nat} (h : WOk j) (m : Nat) (hm : m < 1000) (t : Tree) (code : List D) (known : List (D × D)) (hf : t.fu ≤ j) (hv : t.V) (I : Ok code known) (hl : code.length + (t.sz + m + 1) < 16777216) :
    ∃ (r : Nat) (code' : List D) (known' : List (D × D)), rec_9 (j + 2) 0 [ob code known, .fz (Tree.power t m).d] = .ret (.fz (.int r)) [ob code' known', .fz (Tree.power t m).d] ∧ Ok code' known' ∧ r < code'.length ∧ code.length ≤ code'.length ∧ code'.length ≤ code.length + (t.sz + m + 1) := by
  obtain ⟨r1, code1, known1, e1, I1, h1, h2, h3⟩ := h t code known hf hv I (by omega)
  have er : rec_9 (j + 1) 1 = fnF [0, 1, 2] 3 3 (g_Writer_write_power (rec_9 j)) := rfl
  have key : ∃ (r : Nat) (code' : List D) (known' : List (D × D)), rec_9 (j + 1) 1 [ob code known, .fz t.d, .fz (.int m)] = .ret (.fz (.int r)) [ob code' known', .fz t.d, .fz (.int m)] ∧ Ok code' known' ∧ r < code'.length ∧ code.length ≤ code'.length ∧ code'.length ≤ code.length + (t.sz + m + 1) := by
    by_cases h0 : m = 0
    · subst h0
      obtain ⟨k, hk⟩ := key_good (GoodIns.whole 1 code1.length)
      obtain ⟨r, code', known', e, I', h1', h2', h3'⟩ := told_ok I1 hk (GoodIns.whole 1 code1.length) (by omega)
      refine ⟨r, code', known', ?_, I', h1', by omega, by omega⟩
      simp only [ob] at e e1 ⊢
      generalize t.d = td at *
      rw [er]
      simp [g_Writer_write_power, e, e1, fnF, bCons, bNil, setE, quiet, quiet2, rvar, gt, Oe.bindS, mv, So.bind, rd, rdI, gIx, gMod, gDiv, gSub, gAdd, gMul, gPow, gNeg, quiet1, List.set, ifE, quietT, asB, asBE, tru, truE, truth, gEq, gNe, plain0, SeqAt.shaped, PyData.eqv, PyData.eqvAll, PyData.canLay0, PyData.canLayAll0, PyData.depth, PyData.depthAll, Ot.bindS, retE, dispTQ, dispLQ, dispTE, dispLE, qCons, qNil, frzQ, frzE, frz1, mvOut, outF, asOf, line, notQ, notE, andQ, orQ, andE, orE, vAndQ, vOrQ, vAndE, vOrE, Oe.bind, Ot.bind, Oe.bindT, Ot.bindT, Oa.bind, Oa.bindA, Oe.bindA, Oa.bindS, lCons, lNil, quietA, gather, gather1, back, back1, slR, callE, quietN, loudN, rds, gLen, gLt, gLe, gGt, gGe, chainQ, gIsI, isB, gNot, gIs, gIsNot, gIsB, gIsNotB, dropE, retX, matchE, cCons, cNil, mSeq, mCons, mNil, mLit, mCap, mAny, bindE, raiseE, tryE, tryAsE, unSo, isXE, sliceQ, noO, someO, gSl, iteQ, iteE, parE, loud2, loud1, gIn, gNotIn, gAll, shapedL, inL, allB, Oe.bindI, Oa.bindI, seqI, lcE, lcL, wipeE, backE, asgN, yesE, atI_m1, atI_nn, isNone, blt_eq, ble_eq, cutD, HT.sIx, noPf, gf, rfld, subE, plR, plW, gow, gof, mtQE, mtE, isL, gAppend, methE, newE, isOb, fldE, flOf, setFl]
    · have hz : ((m : Int) == 0) = false := by simpa using h0
      have hr : ∃ ds : List D, rangeD 0 (m - 1) = ds ∧ ds.length = m - 1 := ⟨_, rfl, by simp [rangeD]⟩
      obtain ⟨ds, hds, hdl⟩ := hr
      obtain ⟨r, code', known', y, e, I', h7, h8, h9⟩ := p_loop (inner := t.d) (m := m) (own := r1) ds code1 known1 r1 .un I1 h1 h1 (by omega)
      have e' : forL (asgN 5) (setE 4 (methE 0 2 m_Writer_told (quiet (rvar 0)) (quietA (qCons (dispTQ (qCons (fun _ => some (.val (.str "by"))) (qCons (rvar 4) (qCons (rvar 3) qNil)))) qNil)))) ds [ob code1 known1, .fz t.d, .fz (.int m), .fz (.int r1), .fz (.int r1), .un] = .nx [ob code' known', .fz t.d, .fz (.int m), .fz (.int r1), .fz (.int r), y] := e
      refine ⟨r, code', known', ?_, I', h7, by omega, by omega⟩
      have h62 : in62 ((m : Int) - 1) = true := by simp [in62]; omega
      simp only [ob] at e' e1 ⊢
      generalize t.d = td at *
      rw [er]
      simp [g_Writer_write_power, e', e1, forE, rng1I, h62, hds, hz, h0, fnF, bCons, bNil, setE, quiet, quiet2, rvar, gt, Oe.bindS, mv, So.bind, rd, rdI, gIx, gMod, gDiv, gSub, gAdd, gMul, gPow, gNeg, quiet1, List.set, ifE, quietT, asB, asBE, tru, truE, truth, gEq, gNe, plain0, SeqAt.shaped, PyData.eqv, PyData.eqvAll, PyData.canLay0, PyData.canLayAll0, PyData.depth, PyData.depthAll, Ot.bindS, retE, dispTQ, dispLQ, dispTE, dispLE, qCons, qNil, frzQ, frzE, frz1, mvOut, outF, asOf, line, notQ, notE, andQ, orQ, andE, orE, vAndQ, vOrQ, vAndE, vOrE, Oe.bind, Ot.bind, Oe.bindT, Ot.bindT, Oa.bind, Oa.bindA, Oe.bindA, Oa.bindS, lCons, lNil, quietA, gather, gather1, back, back1, slR, callE, quietN, loudN, rds, gLen, gLt, gLe, gGt, gGe, chainQ, gIsI, isB, gNot, gIs, gIsNot, gIsB, gIsNotB, dropE, retX, matchE, cCons, cNil, mSeq, mCons, mNil, mLit, mCap, mAny, bindE, raiseE, tryE, tryAsE, unSo, isXE, sliceQ, noO, someO, gSl, iteQ, iteE, parE, loud2, loud1, gIn, gNotIn, gAll, shapedL, inL, allB, Oe.bindI, Oa.bindI, seqI, lcE, lcL, wipeE, backE, asgN, yesE, atI_m1, atI_nn, isNone, blt_eq, ble_eq, cutD, HT.sIx, noPf, gf, rfld, subE, plR, plW, gow, gof, mtQE, mtE, isL, gAppend, methE, newE, isOb, fldE, flOf, setFl]
  obtain ⟨r, code', known', e, I', h4, h5, h6⟩ := key
  refine ⟨r, code', known', ?_, I', h4, h5, h6⟩
  simp only [ob, Tree.d] at e ⊢
  generalize t.d = td at *
  rw [rec_9]
  simp [g_Writer_write, e, fnF, bCons, bNil, setE, quiet, quiet2, rvar, gt, Oe.bindS, mv, So.bind, rd, rdI, gIx, gMod, gDiv, gSub, gAdd, gMul, gPow, gNeg, quiet1, List.set, ifE, quietT, asB, asBE, tru, truE, truth, gEq, gNe, plain0, SeqAt.shaped, PyData.eqv, PyData.eqvAll, PyData.canLay0, PyData.canLayAll0, PyData.depth, PyData.depthAll, Ot.bindS, retE, dispTQ, dispLQ, dispTE, dispLE, qCons, qNil, frzQ, frzE, frz1, mvOut, outF, asOf, line, notQ, notE, andQ, orQ, andE, orE, vAndQ, vOrQ, vAndE, vOrE, Oe.bind, Ot.bind, Oe.bindT, Ot.bindT, Oa.bind, Oa.bindA, Oe.bindA, Oa.bindS, lCons, lNil, quietA, gather, gather1, back, back1, slR, callE, quietN, loudN, rds, gLen, gLt, gLe, gGt, gGe, chainQ, gIsI, isB, gNot, gIs, gIsNot, gIsB, gIsNotB, dropE, retX, matchE, cCons, cNil, mSeq, mCons, mNil, mLit, mCap, mAny, bindE, raiseE, tryE, tryAsE, unSo, isXE, sliceQ, noO, someO, gSl, iteQ, iteE, parE, loud2, loud1, gIn, gNotIn, gAll, shapedL, inL, allB, Oe.bindI, Oa.bindI, seqI, lcE, lcL, wipeE, backE, asgN, yesE, atI_m1, atI_nn, isNone, blt_eq, ble_eq, cutD, HT.sIx, noPf, gf, rfld, subE, plR, plW, gow, gof, mtQE, mtE, isL, gAppend, methE, newE, isOb, fldE, flOf, setFl, ok_whole, ok_root, ok_of, ok_plus, ok_less, ok_by, ok_over, ok_minus, ok_power, ok_times, eq_whole_whole, eq_whole_root, eq_whole_of, eq_whole_plus, eq_whole_less, eq_whole_by, eq_whole_over, eq_whole_minus, eq_whole_power, eq_whole_times, eq_root_whole, eq_root_root, eq_root_of, eq_root_plus, eq_root_less, eq_root_by, eq_root_over, eq_root_minus, eq_root_power, eq_root_times, eq_of_whole, eq_of_root, eq_of_of, eq_of_plus, eq_of_less, eq_of_by, eq_of_over, eq_of_minus, eq_of_power, eq_of_times, eq_plus_whole, eq_plus_root, eq_plus_of, eq_plus_plus, eq_plus_less, eq_plus_by, eq_plus_over, eq_plus_minus, eq_plus_power, eq_plus_times, eq_less_whole, eq_less_root, eq_less_of, eq_less_plus, eq_less_less, eq_less_by, eq_less_over, eq_less_minus, eq_less_power, eq_less_times, eq_by_whole, eq_by_root, eq_by_of, eq_by_plus, eq_by_less, eq_by_by, eq_by_over, eq_by_minus, eq_by_power, eq_by_times, eq_over_whole, eq_over_root, eq_over_of, eq_over_plus, eq_over_less, eq_over_by, eq_over_over, eq_over_minus, eq_over_power, eq_over_times, eq_minus_whole, eq_minus_root, eq_minus_of, eq_minus_plus, eq_minus_less, eq_minus_by, eq_minus_over, eq_minus_minus, eq_minus_power, eq_minus_times, eq_power_whole, eq_power_root, eq_power_of, eq_power_plus, eq_power_less, eq_power_by, eq_power_over, eq_power_minus, eq_power_power, eq_power_times, eq_times_whole, eq_times_root, eq_times_of, eq_times_plus, eq_times_less, eq_times_by, eq_times_over, eq_times_minus, eq_times_power, eq_times_times]
theorem write_ok : ∀ j : Nat, WOk j := by
  intro j
  induction j using Nat.strongRecOn with
  | ind j ih =>
    intro t code known hf hv I hl
    have hp := t.fu_pos
    cases j with
    | zero => omega
    | succ j =>
      cases t with
      | whole n => exact w_whole j n code known I hl
      | of a b i => exact w_of j a b i hv.1 hv.2.1 hv.2.2 code known I hl
      | minus t => exact w_minus (ih j (by omega)) t code known (by simp [Tree.fu] at hf; omega) hv I (by simpa [Tree.sz] using hl)
      | root q t => exact w_root (ih j (by omega)) q hv.1 t code known (by simp [Tree.fu] at hf; omega) hv.2 I (by simpa [Tree.sz] using hl)
      | bin w s t => exact w_bin (ih j (by omega)) hv.1 s t code known (by simp [Tree.fu] at hf; omega) (by simp [Tree.fu] at hf; omega) hv.2.1 hv.2.2 I (by simpa [Tree.sz] using hl)
      | power t m =>
        cases j with
        | zero => simp [Tree.fu] at hf
        | succ j => exact w_power (ih j (by omega)) m hv.1 t code known (by simp [Tree.fu] at hf; omega) hv.2 I (by simpa [Tree.sz] using hl)
theorem init_ok : m_Writer_init [.ob 0 []] = .ret (.fz .none) [ob [] []] := by
  simp [m_Writer_init, g_Writer_init, ob, fnF, bCons, bNil, setE, quiet, quiet2, rvar, gt, Oe.bindS, mv, So.bind, rd, rdI, gIx, gMod, gDiv, gSub, gAdd, gMul, gPow, gNeg, quiet1, List.set, ifE, quietT, asB, asBE, tru, truE, truth, gEq, gNe, plain0, SeqAt.shaped, PyData.eqv, PyData.eqvAll, PyData.canLay0, PyData.canLayAll0, PyData.depth, PyData.depthAll, Ot.bindS, retE, dispTQ, dispLQ, dispTE, dispLE, qCons, qNil, frzQ, frzE, frz1, mvOut, outF, asOf, line, notQ, notE, andQ, orQ, andE, orE, vAndQ, vOrQ, vAndE, vOrE, Oe.bind, Ot.bind, Oe.bindT, Ot.bindT, Oa.bind, Oa.bindA, Oe.bindA, Oa.bindS, lCons, lNil, quietA, gather, gather1, back, back1, slR, callE, quietN, loudN, rds, gLen, gLt, gLe, gGt, gGe, chainQ, gIsI, isB, gNot, gIs, gIsNot, gIsB, gIsNotB, dropE, retX, matchE, cCons, cNil, mSeq, mCons, mNil, mLit, mCap, mAny, bindE, raiseE, tryE, tryAsE, unSo, isXE, sliceQ, noO, someO, gSl, iteQ, iteE, parE, loud2, loud1, gIn, gNotIn, gAll, shapedL, inL, allB, Oe.bindI, Oa.bindI, seqI, lcE, lcL, wipeE, backE, asgN, yesE, atI_m1, atI_nn, isNone, blt_eq, ble_eq, cutD, HT.sIx, noPf, gf, rfld, subE, plR, plW, gow, gof, mtQE, mtE, isL, gAppend, methE, newE, isOb, fldE, flOf, setFl]
theorem ok_nil : Ok [] [] := ⟨fun j d h => by simp at h, fun k v h => by simp [vAtN] at h, Nat.le_refl _⟩
/-- compile_tree: right code -/
theorem compile_ok (t : Tree) (hv : t.V) (hf : t.fu ≤ 12) (hs : t.sz ≤ 198) : ∃ code : List D, m_compile_tree [.fz t.d] = .ret (.ow (.list code)) [.fz t.d] ∧ Good code ∧ 1 ≤ code.length ∧ code.length ≤ t.sz + 2 := by
  obtain ⟨r, code, known, e, I, h1, h2, h3⟩ := write_ok 12 t [] [] hf hv ok_nil (by simp; omega)
  simp at h3
  by_cases hc : r + 1 < code.length
  · obtain ⟨k, hk⟩ := key_good (GoodIns.whole 0 code.length)
    obtain ⟨r2, code2, known2, e2, I2, h4, h5, h6⟩ := told_ok I hk (GoodIns.whole 0 code.length) (by omega)
    have hg : GoodIns (.tuple [.str "plus", .int r, .int r2]) code2.length := .bin _ _ _ (.inl rfl) (by omega) (by omega)
    refine ⟨code2 ++ [.tuple [.str "plus", .int r, .int r2]], ?_, good_snoc I2.good hg, by simp, by simp; omega⟩
    have hc' : (r : Int) + 1 < (code.length : Int) := by omega
    have hl2 : code2.length < 16777216 := by omega
    have hi := init_ok
    simp only [ob] at e e2 hi
    generalize t.d = td at *
    simp [m_compile_tree, g_compile_tree, hi, e, e2, hc', hl2, gList, fnF, bCons, bNil, setE, quiet, quiet2, rvar, gt, Oe.bindS, mv, So.bind, rd, rdI, gIx, gMod, gDiv, gSub, gAdd, gMul, gPow, gNeg, quiet1, List.set, ifE, quietT, asB, asBE, tru, truE, truth, gEq, gNe, plain0, SeqAt.shaped, PyData.eqv, PyData.eqvAll, PyData.canLay0, PyData.canLayAll0, PyData.depth, PyData.depthAll, Ot.bindS, retE, dispTQ, dispLQ, dispTE, dispLE, qCons, qNil, frzQ, frzE, frz1, mvOut, outF, asOf, line, notQ, notE, andQ, orQ, andE, orE, vAndQ, vOrQ, vAndE, vOrE, Oe.bind, Ot.bind, Oe.bindT, Ot.bindT, Oa.bind, Oa.bindA, Oe.bindA, Oa.bindS, lCons, lNil, quietA, gather, gather1, back, back1, slR, callE, quietN, loudN, rds, gLen, gLt, gLe, gGt, gGe, chainQ, gIsI, isB, gNot, gIs, gIsNot, gIsB, gIsNotB, dropE, retX, matchE, cCons, cNil, mSeq, mCons, mNil, mLit, mCap, mAny, bindE, raiseE, tryE, tryAsE, unSo, isXE, sliceQ, noO, someO, gSl, iteQ, iteE, parE, loud2, loud1, gIn, gNotIn, gAll, shapedL, inL, allB, Oe.bindI, Oa.bindI, seqI, lcE, lcL, wipeE, backE, asgN, yesE, atI_m1, atI_nn, isNone, blt_eq, ble_eq, cutD, HT.sIx, noPf, gf, rfld, subE, plR, plW, gow, gof, mtQE, mtE, isL, gAppend, methE, newE, isOb, fldE, flOf, setFl]
  · refine ⟨code, ?_, I.good, by omega, by omega⟩
    have hc' : ¬ (r : Int) + 1 < (code.length : Int) := by omega
    have hi := init_ok
    simp only [ob] at e hi
    generalize t.d = td at *
    simp [m_compile_tree, g_compile_tree, hi, e, hc', gList, fnF, bCons, bNil, setE, quiet, quiet2, rvar, gt, Oe.bindS, mv, So.bind, rd, rdI, gIx, gMod, gDiv, gSub, gAdd, gMul, gPow, gNeg, quiet1, List.set, ifE, quietT, asB, asBE, tru, truE, truth, gEq, gNe, plain0, SeqAt.shaped, PyData.eqv, PyData.eqvAll, PyData.canLay0, PyData.canLayAll0, PyData.depth, PyData.depthAll, Ot.bindS, retE, dispTQ, dispLQ, dispTE, dispLE, qCons, qNil, frzQ, frzE, frz1, mvOut, outF, asOf, line, notQ, notE, andQ, orQ, andE, orE, vAndQ, vOrQ, vAndE, vOrE, Oe.bind, Ot.bind, Oe.bindT, Ot.bindT, Oa.bind, Oa.bindA, Oe.bindA, Oa.bindS, lCons, lNil, quietA, gather, gather1, back, back1, slR, callE, quietN, loudN, rds, gLen, gLt, gLe, gGt, gGe, chainQ, gIsI, isB, gNot, gIs, gIsNot, gIsB, gIsNotB, dropE, retX, matchE, cCons, cNil, mSeq, mCons, mNil, mLit, mCap, mAny, bindE, raiseE, tryE, tryAsE, unSo, isXE, sliceQ, noO, someO, gSl, iteQ, iteE, parE, loud2, loud1, gIn, gNotIn, gAll, shapedL, inL, allB, Oe.bindI, Oa.bindI, seqI, lcE, lcL, wipeE, backE, asgN, yesE, atI_m1, atI_nn, isNone, blt_eq, ble_eq, cutD, HT.sIx, noPf, gf, rfld, subE, plR, plW, gow, gof, mtQE, mtE, isL, gAppend, methE, newE, isOb, fldE, flOf, setFl]
end k50
end Bv
set_option maxHeartbeats 0
namespace Bv
namespace k50
open PySem L2
theorem bits_of {i j : Int} (hi : i.natAbs.log2 < 2000000) (hj : j.natAbs.log2 < 2000000) : bitsOk i j = true := by
  unfold bitsOk
  rw [ble_eq]
  simp
  omega
theorem small {i : Int} (h0 : 0 ≤ i) (h1 : i < 18446744073709551616) : i.natAbs.log2 < 2000000 := by
  by_cases hz : i.natAbs = 0
  · rw [hz]; decide
  · have h2 : i.natAbs < 2 ^ 64 := by omega
    have h3 := (Nat.log2_lt hz).mpr h2
    omega
def nbody : En → So := ifE (quietT (asB (quiet2 (rvar 3) (quiet2 (fun _ => some (.val (.int (10)))) (fun _ => some (.val (.int (18)))) gPow) gGe)))
  (bCons (dropE (mtQE gAppend (rvar 4) (qCons (quiet2 (rvar 3) (fun _ => some (.val (.int (1009)))) gMod) qNil)))
  (setE 3 (quiet (quiet2 (rvar 3) (fun _ => some (.val (.int (1009)))) gDiv))))
  (bCons (setE 6 (quiet (quiet2 (quiet2 (quiet2 (quiet2 (rvar 3) (fun _ => some (.val (.int (48271)))) gMul) (quiet2 (quiet2 (rvar 5) (fun _ => some (.val (.int (1)))) gAdd) (fun _ => some (.val (.int (69621)))) gMul) gAdd) (quiet2 (rvar 1) (fun _ => some (.val (.int (4001)))) gMul) gAdd) (fun _ => some (.val (.int (2147483647)))) gMod)))
  (bCons (setE 6 (quiet (quiet2 (quiet2 (quiet2 (rvar 6) (rvar 6) gMul) (quiet2 (fun _ => some (.val (.int (16807)))) (quiet2 (rvar 5) (fun _ => some (.val (.int (3)))) gAdd) gMul) gAdd) (fun _ => some (.val (.int (2147483629)))) gMod)))
  (dropE (mtQE gAppend (rvar 4) (qCons (quiet2 (quiet2 (rvar 6) (fun _ => some (.val (.int (7)))) gDiv) (fun _ => some (.val (.int (1009)))) gMod) qNil)))))
theorem n_turn {S : Sl} {a m cell k : Int} {xs : List D} {y : Sl} (h0 : 0 ≤ cell) (ha : 0 ≤ a ∧ a < 1000) (hk : 0 ≤ k ∧ k < 100000) (hx : xs.length < 16777216) :
    ∃ (z cell' : Int) (y' : Sl), nbody [S, .fz (.int a), .fz (.int m), .fz (.int cell), .ow (.list xs), .fz (.int k), y] = .nx [S, .fz (.int a), .fz (.int m), .fz (.int cell'), .ow (.list (xs ++ [.int z])), .fz (.int k), y'] ∧ 0 ≤ z ∧ z < 1009 ∧ 0 ≤ cell' := by
  by_cases hc : (1000000000000000000 : Int) ≤ cell
  · refine ⟨cell % 1009, cell / 1009, y, ?_, by omega, by omega, by omega⟩
    have hp : (10 : Int) ^ 18 = 1000000000000000000 := by decide
    have hl : Nat.log2 10 ≤ 63 := by decide
    have hl2 : Nat.log2 1009 ≤ 8999 := by decide
    simp [nbody, hc, hp, hl, hl2, hx, fnF, bCons, bNil, setE, quiet, quiet2, rvar, gt, Oe.bindS, mv, So.bind, rd, rdI, gIx, gMod, gDiv, gSub, gAdd, gMul, gPow, gNeg, quiet1, List.set, ifE, quietT, asB, asBE, tru, truE, truth, gEq, gNe, plain0, SeqAt.shaped, PyData.eqv, PyData.eqvAll, PyData.canLay0, PyData.canLayAll0, PyData.depth, PyData.depthAll, Ot.bindS, retE, dispTQ, dispLQ, dispTE, dispLE, qCons, qNil, frzQ, frzE, frz1, mvOut, outF, asOf, line, notQ, notE, andQ, orQ, andE, orE, vAndQ, vOrQ, vAndE, vOrE, Oe.bind, Ot.bind, Oe.bindT, Ot.bindT, Oa.bind, Oa.bindA, Oe.bindA, Oa.bindS, lCons, lNil, quietA, gather, gather1, back, back1, slR, callE, quietN, loudN, rds, gLen, gLt, gLe, gGt, gGe, chainQ, gIsI, isB, gNot, gIs, gIsNot, gIsB, gIsNotB, dropE, retX, matchE, cCons, cNil, mSeq, mCons, mNil, mLit, mCap, mAny, bindE, raiseE, tryE, tryAsE, unSo, isXE, sliceQ, noO, someO, gSl, iteQ, iteE, parE, loud2, loud1, gIn, gNotIn, gAll, shapedL, inL, allB, Oe.bindI, Oa.bindI, seqI, lcE, lcL, wipeE, backE, asgN, yesE, atI_m1, atI_nn, blt_eq, ble_eq, noPf, gf, rfld, subE, plR, plW, gow, gof, mtQE, mtE, isL, gAppend, methE, newE, isOb, fldE, flOf, setFl]
  · have hp : (10 : Int) ^ 18 = 1000000000000000000 := by decide
    have hl : Nat.log2 10 ≤ 63 := by decide
    have hl2 : Nat.log2 7 ≤ 8999 := by decide
    have b1 : bitsOk cell 48271 = true := bits_of (small h0 (by omega)) (small (by decide) (by decide))
    have b2 : bitsOk (k + 1) 69621 = true := bits_of (small (by omega) (by omega)) (small (by decide) (by decide))
    have b3 : bitsOk a 4001 = true := bits_of (small (by omega) (by omega)) (small (by decide) (by decide))
    have b5 : bitsOk 16807 (k + 3) = true := bits_of (small (by decide) (by decide)) (small (by omega) (by omega))
    have b4 : ∀ q : Int, bitsOk (q % 2147483647) (q % 2147483647) = true := fun q => bits_of (small (by omega) (by omega)) (small (by omega) (by omega))
    refine ⟨((((cell * 48271 + (k + 1) * 69621 + a * 4001) % 2147483647) * ((cell * 48271 + (k + 1) * 69621 + a * 4001) % 2147483647) + 16807 * (k + 3)) % 2147483629) / 7 % 1009, cell, .fz (.int ((((cell * 48271 + (k + 1) * 69621 + a * 4001) % 2147483647) * ((cell * 48271 + (k + 1) * 69621 + a * 4001) % 2147483647) + 16807 * (k + 3)) % 2147483629)), ?_, by omega, by omega, h0⟩
    simp [nbody, hc, hp, hl, hl2, hx, b1, b2, b3, b4, b5, fnF, bCons, bNil, setE, quiet, quiet2, rvar, gt, Oe.bindS, mv, So.bind, rd, rdI, gIx, gMod, gDiv, gSub, gAdd, gMul, gPow, gNeg, quiet1, List.set, ifE, quietT, asB, asBE, tru, truE, truth, gEq, gNe, plain0, SeqAt.shaped, PyData.eqv, PyData.eqvAll, PyData.canLay0, PyData.canLayAll0, PyData.depth, PyData.depthAll, Ot.bindS, retE, dispTQ, dispLQ, dispTE, dispLE, qCons, qNil, frzQ, frzE, frz1, mvOut, outF, asOf, line, notQ, notE, andQ, orQ, andE, orE, vAndQ, vOrQ, vAndE, vOrE, Oe.bind, Ot.bind, Oe.bindT, Ot.bindT, Oa.bind, Oa.bindA, Oe.bindA, Oa.bindS, lCons, lNil, quietA, gather, gather1, back, back1, slR, callE, quietN, loudN, rds, gLen, gLt, gLe, gGt, gGe, chainQ, gIsI, isB, gNot, gIs, gIsNot, gIsB, gIsNotB, dropE, retX, matchE, cCons, cNil, mSeq, mCons, mNil, mLit, mCap, mAny, bindE, raiseE, tryE, tryAsE, unSo, isXE, sliceQ, noO, someO, gSl, iteQ, iteE, parE, loud2, loud1, gIn, gNotIn, gAll, shapedL, inL, allB, Oe.bindI, Oa.bindI, seqI, lcE, lcL, wipeE, backE, asgN, yesE, atI_m1, atI_nn, blt_eq, ble_eq, noPf, gf, rfld, subE, plR, plW, gow, gof, mtQE, mtE, isL, gAppend, methE, newE, isOb, fldE, flOf, setFl]
theorem bits_small {z : Int} (h : Builtin.Int.intBits z ≤ 1048576) : z.natAbs.log2 < 2000000 := by
  unfold Builtin.Int.intBits at h
  by_cases h0 : z = 0
  · subst h0; decide
  · have : (z == 0) = false := by simpa using h0
    rw [this] at h
    simp at h
    omega
theorem n_loop {S : Sl} {a m : Int} (ha : 0 ≤ a ∧ a < 1000) : ∀ (n lo : Nat) (cell : Int) (xs : List Int) (x y : Sl), 0 ≤ cell → lo + n ≤ 10000 → xs.length + n < 16777216 → (∀ z ∈ xs, 0 ≤ z ∧ z < 1009) →
    ∃ (ys : List Int) (cell' : Int) (x' y' : Sl), forL (asgN 5) nbody ((List.range' lo n).map fun (i : Nat) => PyData.int (i : Int)) [S, .fz (.int a), .fz (.int m), .fz (.int cell), .ow (.list (xs.map .int)), x, y] = .nx [S, .fz (.int a), .fz (.int m), .fz (.int cell'), .ow (.list (ys.map .int)), x', y'] ∧
      ys.length = xs.length + n ∧ ∀ z ∈ ys, 0 ≤ z ∧ z < 1009
  | 0, lo, cell, xs, x, y, h0, h1, h2, h3 => ⟨xs, cell, x, y, rfl, rfl, h3⟩
  | n + 1, lo, cell, xs, x, y, h0, h1, h2, h3 => by
    obtain ⟨z, cell1, y1, e, z0, z1, c0⟩ := n_turn (S := S) (a := a) (m := m) (cell := cell) (k := ((lo : Nat) : Int)) (xs := xs.map .int) (y := y) h0 ha (by omega) (by simp; omega)
    obtain ⟨ys, cell', x', y', e', hl, hr⟩ := n_loop (S := S) (a := a) (m := m) ha n (lo + 1) cell1 (xs ++ [z]) (.fz (.int (lo : Nat))) y1 c0 (by omega) (by simp; omega) (fun w hw => by
      rcases List.mem_append.mp hw with hw | hw
      · exact h3 w hw
      · simp at hw; subst hw; exact ⟨z0, z1⟩)
    refine ⟨ys, cell', x', y', ?_, by rw [hl]; simp; omega, hr⟩
    rw [List.range'_succ, List.map_cons]
    simp only [forL, asgN, List.set]
    rw [e]
    simp only [List.map_append, List.map_cons, List.map_nil] at e'
    exact e'
/-- behind the cell -/
theorem n_range (m : Nat) : rangeD 0 m = (List.range' 0 m).map fun (i : Nat) => PyData.int (i : Int) := by
    unfold rangeD
    rw [List.range_eq_range']
    simp
theorem n_rest {q : List D} {a m : Nat} (hr : rangeD 0 m = (List.range' 0 m).map fun (i : Nat) => PyData.int (i : Int)) (ha : a < 1000) (hm : m < 1000) (z : Int) (hz : 0 ≤ z) : ∃ (ys : List Int) (cell' : Int) (x' y' : Sl), forL (asgN 5) nbody (rangeD 0 m) [.fz (.dict [(.none, .tuple q)]), .fz (.int a), .fz (.int m), .fz (.int z), .ow (.list []), .un, .un] = .nx [.fz (.dict [(.none, .tuple q)]), .fz (.int a), .fz (.int m), .fz (.int cell'), .ow (.list (ys.map .int)), x', y'] ∧
      ys.length = m ∧ ∀ z ∈ ys, 0 ≤ z ∧ z < 1009 := by
  have i1 : (0 : Int) ≤ a ∧ (a : Int) < 1000 := by omega
  have i2 : 0 + m ≤ 10000 := by omega
  have i3 : ([] : List Int).length + m < 16777216 := by simp; omega
  obtain ⟨ys, cell', x', y', e, h1, h2⟩ := n_loop (S := .fz (.dict [(.none, .tuple q)])) (a := a) (m := m) i1 m 0 z [] .un .un hz i2 i3 (by simp)
  rw [hr]
  rw [List.map_nil] at e
  refine ⟨ys, cell', x', y', e, ?_, h2⟩
  rw [h1]; simp
theorem p62 : (2:Int)^62 = 4611686018427387904 := by decide +kernel
theorem in62_of {i : Int} (h0 : -1000000 ≤ i) (h1 : i ≤ 1000000) : in62 i = true := by
  unfold in62
  rw [p62, Bool.and_eq_true]
  exact ⟨decide_eq_true (by omega), decide_eq_true (by omega)⟩
theorem n5_ok {S a m c : Sl} : setE 4 (quiet (dispLQ qNil)) [S, a, m, c, .un, .un, .un] = .nx [S, a, m, c, .ow (.list []), .un, .un] := by
  simp [fnF, bCons, bNil, setE, quiet, quiet2, rvar, gt, Oe.bindS, mv, So.bind, rd, rdI, gIx, gMod, gDiv, gSub, gAdd, gMul, gPow, gNeg, quiet1, List.set, ifE, quietT, asB, asBE, tru, truE, truth, gEq, gNe, plain0, SeqAt.shaped, PyData.eqv, PyData.eqvAll, PyData.canLay0, PyData.canLayAll0, PyData.depth, PyData.depthAll, Ot.bindS, retE, dispTQ, dispLQ, dispTE, dispLE, qCons, qNil, frzQ, frzE, frz1, mvOut, outF, asOf, line, notQ, notE, andQ, orQ, andE, orE, vAndQ, vOrQ, vAndE, vOrE, Oe.bind, Ot.bind, Oe.bindT, Ot.bindT, Oa.bind, Oa.bindA, Oe.bindA, Oa.bindS, lCons, lNil, quietA, gather, gather1, back, back1, slR, callE, quietN, loudN, rds, gLen, gLt, gLe, gGt, gGe, chainQ, gIsI, isB, gNot, gIs, gIsNot, gIsB, gIsNotB, dropE, retX, matchE, cCons, cNil, mSeq, mCons, mNil, mLit, mCap, mAny, bindE, raiseE, tryE, tryAsE, unSo, isXE, sliceQ, noO, someO, gSl, iteQ, iteE, parE, loud2, loud1, gIn, gNotIn, gAll, shapedL, inL, allB, Oe.bindI, Oa.bindI, seqI, lcE, lcL, wipeE, backE, asgN, yesE, atI_m1, atI_nn, blt_eq, ble_eq, noPf, gf, rfld, subE, plR, plW, gow, gof, mtQE, mtE, isL, gAppend, methE, newE, isOb, fldE, flOf, setFl]
theorem n6_ok {S a c x y z : Sl} {m : Int} {nb : En → So} (h : in62 m = true) {rr : List D} (hr : rangeD 0 m.toNat = rr) {e' : En} (e : forL (asgN 5) nb rr [S, a, .fz (.int m), c, x, y, z] = .nx e') :
    forE (rng1I (quietA (qCons (rvar 2) qNil))) (asgN 5) nb [S, a, .fz (.int m), c, x, y, z] = .nx e' := by
  subst hr
  simp only [forE, rng1I, quietA, qCons, qNil, rvar, gt, Oa.bindI, rds, rd, h]
  exact e
theorem n7_ok {S a m c k x : Sl} {ds : List D} : retE 3 (quiet (rvar 4)) [S, a, m, c, .ow (.list ds), k, x] = .rt (.ow (.list ds)) [S, a, m, c, .un, k, x] := by
  simp [fnF, bCons, bNil, setE, quiet, quiet2, rvar, gt, Oe.bindS, mv, So.bind, rd, rdI, gIx, gMod, gDiv, gSub, gAdd, gMul, gPow, gNeg, quiet1, List.set, ifE, quietT, asB, asBE, tru, truE, truth, gEq, gNe, plain0, SeqAt.shaped, PyData.eqv, PyData.eqvAll, PyData.canLay0, PyData.canLayAll0, PyData.depth, PyData.depthAll, Ot.bindS, retE, dispTQ, dispLQ, dispTE, dispLE, qCons, qNil, frzQ, frzE, frz1, mvOut, outF, asOf, line, notQ, notE, andQ, orQ, andE, orE, vAndQ, vOrQ, vAndE, vOrE, Oe.bind, Ot.bind, Oe.bindT, Ot.bindT, Oa.bind, Oa.bindA, Oe.bindA, Oa.bindS, lCons, lNil, quietA, gather, gather1, back, back1, slR, callE, quietN, loudN, rds, gLen, gLt, gLe, gGt, gGe, chainQ, gIsI, isB, gNot, gIs, gIsNot, gIsB, gIsNotB, dropE, retX, matchE, cCons, cNil, mSeq, mCons, mNil, mLit, mCap, mAny, bindE, raiseE, tryE, tryAsE, unSo, isXE, sliceQ, noO, someO, gSl, iteQ, iteE, parE, loud2, loud1, gIn, gNotIn, gAll, shapedL, inL, allB, Oe.bindI, Oa.bindI, seqI, lcE, lcL, wipeE, backE, asgN, yesE, atI_m1, atI_nn, blt_eq, ble_eq, noPf, gf, rfld, subE, plR, plW, gow, gof, mtQE, mtE, isL, gAppend, methE, newE, isOb, fldE, flOf, setFl]
theorem n_tail {q : List D} {a m : Nat} (hm : m < 1000) {z cell' : Int} {ys : List Int} {x' y' : Sl} (e : forL (asgN 5) nbody (rangeD 0 m) [.fz (.dict [(.none, .tuple q)]), .fz (.int a), .fz (.int m), .fz (.int z), .ow (.list []), .un, .un] = .nx [.fz (.dict [(.none, .tuple q)]), .fz (.int a), .fz (.int m), .fz (.int cell'), .ow (.list (ys.map .int)), x', y']) :
    outF [0, 1, 2] 3 (bCons (setE 4 (quiet (dispLQ qNil))) (bCons (forE (rng1I (quietA (qCons (rvar 2) qNil))) (asgN 5) nbody) (retE 3 (quiet (rvar 4)))) [.fz (.dict [(.none, .tuple q)]), .fz (.int a), .fz (.int m), .fz (.int z), .un, .un, .un]) = .ret (.ow (.list (ys.map .int))) [.fz (.dict [(.none, .tuple q)]), .fz (.int a), .fz (.int m)] := by
  have h62 : in62 (m : Int) = true := in62_of (by omega) (by omega)
  have hbc : ∀ (f g : En → So) (e e1 : En), f e = .nx e1 → bCons f g e = g e1 := fun f g e e1 h => by simp only [bCons, h, So.bind]
  rw [hbc _ _ _ _ n5_ok, hbc _ _ _ _ (n6_ok h62 (by rw [Int.toNat_natCast]) e), n7_ok]
  rfl
def n1 : En → So := setE 3 (quiet (quiet2 (fun _ => some (.val (.int (1000003)))) (quiet2 (rvar 1) (fun _ => some (.val (.int (1)))) gAdd) gMul))
def n2 : En → So := ifE (quietT (asB (quiet2 (rvar 1) (quietN (qCons (rvar 0) qNil) gLen) gLt)))
    (setE 3 (quiet (quietN (qCons (quiet2 (rvar 0) (rvar 1) gIx) qNil) gInt)))
    bNil
def n3 : En → So := ifE (quietT (asB (quiet2 (rvar 3) (fun _ => some (.val (.int (0)))) gLt)))
    (setE 3 (quiet (quiet2 (fun _ => some (.val (.int (1)))) (quiet2 (fun _ => some (.val (.int (2)))) (rvar 3) gMul) gSub)))
    bNil
def n4 : En → So := bCons (setE 4 (quiet (dispLQ qNil))) (bCons (forE (rng1I (quietA (qCons (rvar 2) qNil))) (asgN 5) nbody) (retE 3 (quiet (rvar 4))))
theorem n_eq : g_law_numbers = bCons n1 (bCons n2 (bCons n3 n4)) := rfl
theorem n1_ok {S : D} {a : Int} {m : Sl} {c0 : Int} (hc : 1000003 * (a + 1) = c0) (hb : bitsOk 1000003 (a + 1) = true) : n1 [.fz S, .fz (.int a), m, .un, .un, .un, .un] = .nx [.fz S, .fz (.int a), m, .fz (.int c0), .un, .un, .un] := by
  subst hc
  simp [n1, hb, fnF, bCons, bNil, setE, quiet, quiet2, rvar, gt, Oe.bindS, mv, So.bind, rd, rdI, gIx, gMod, gDiv, gSub, gAdd, gMul, gPow, gNeg, quiet1, List.set, ifE, quietT, asB, asBE, tru, truE, truth, gEq, gNe, plain0, SeqAt.shaped, PyData.eqv, PyData.eqvAll, PyData.canLay0, PyData.canLayAll0, PyData.depth, PyData.depthAll, Ot.bindS, retE, dispTQ, dispLQ, dispTE, dispLE, qCons, qNil, frzQ, frzE, frz1, mvOut, outF, asOf, line, notQ, notE, andQ, orQ, andE, orE, vAndQ, vOrQ, vAndE, vOrE, Oe.bind, Ot.bind, Oe.bindT, Ot.bindT, Oa.bind, Oa.bindA, Oe.bindA, Oa.bindS, lCons, lNil, quietA, gather, gather1, back, back1, slR, callE, quietN, loudN, rds, gLen, gLt, gLe, gGt, gGe, chainQ, gIsI, isB, gNot, gIs, gIsNot, gIsB, gIsNotB, dropE, retX, matchE, cCons, cNil, mSeq, mCons, mNil, mLit, mCap, mAny, bindE, raiseE, tryE, tryAsE, unSo, isXE, sliceQ, noO, someO, gSl, iteQ, iteE, parE, loud2, loud1, gIn, gNotIn, gAll, shapedL, inL, allB, Oe.bindI, Oa.bindI, seqI, lcE, lcL, wipeE, backE, asgN, yesE, atI_m1, atI_nn, blt_eq, ble_eq, noPf, gf, rfld, subE, plR, plW, gow, gof, mtQE, mtE, isL, gAppend, methE, newE, isOb, fldE, flOf, setFl]
theorem n2_no {q : List D} {a c : Int} {m : Sl} (h : ¬ a < (q.length : Int)) : n2 [.fz (.dict [(.none, .tuple q)]), .fz (.int a), m, .fz (.int c), .un, .un, .un] = .nx [.fz (.dict [(.none, .tuple q)]), .fz (.int a), m, .fz (.int c), .un, .un, .un] := by
  simp [n2, h, fnF, bCons, bNil, setE, quiet, quiet2, rvar, gt, Oe.bindS, mv, So.bind, rd, rdI, gIx, gMod, gDiv, gSub, gAdd, gMul, gPow, gNeg, quiet1, List.set, ifE, quietT, asB, asBE, tru, truE, truth, gEq, gNe, plain0, SeqAt.shaped, PyData.eqv, PyData.eqvAll, PyData.canLay0, PyData.canLayAll0, PyData.depth, PyData.depthAll, Ot.bindS, retE, dispTQ, dispLQ, dispTE, dispLE, qCons, qNil, frzQ, frzE, frz1, mvOut, outF, asOf, line, notQ, notE, andQ, orQ, andE, orE, vAndQ, vOrQ, vAndE, vOrE, Oe.bind, Ot.bind, Oe.bindT, Ot.bindT, Oa.bind, Oa.bindA, Oe.bindA, Oa.bindS, lCons, lNil, quietA, gather, gather1, back, back1, slR, callE, quietN, loudN, rds, gLen, gLt, gLe, gGt, gGe, chainQ, gIsI, isB, gNot, gIs, gIsNot, gIsB, gIsNotB, dropE, retX, matchE, cCons, cNil, mSeq, mCons, mNil, mLit, mCap, mAny, bindE, raiseE, tryE, tryAsE, unSo, isXE, sliceQ, noO, someO, gSl, iteQ, iteE, parE, loud2, loud1, gIn, gNotIn, gAll, shapedL, inL, allB, Oe.bindI, Oa.bindI, seqI, lcE, lcL, wipeE, backE, asgN, yesE, atI_m1, atI_nn, blt_eq, ble_eq, noPf, gf, rfld, subE, plR, plW, gow, gof, mtQE, mtE, isL, gAppend, methE, newE, isOb, fldE, flOf, setFl]
theorem n2_yes {q : List D} {a : Nat} {c z : Int} {m : Sl} (h : (a : Int) < (q.length : Int)) (hz : q[a]? = some (.int z)) : n2 [.fz (.dict [(.none, .tuple q)]), .fz (.int a), m, .fz (.int c), .un, .un, .un] = .nx [.fz (.dict [(.none, .tuple q)]), .fz (.int a), m, .fz (.int z), .un, .un, .un] := by
  simp [n2, h, hz, gInt, fnF, bCons, bNil, setE, quiet, quiet2, rvar, gt, Oe.bindS, mv, So.bind, rd, rdI, gIx, gMod, gDiv, gSub, gAdd, gMul, gPow, gNeg, quiet1, List.set, ifE, quietT, asB, asBE, tru, truE, truth, gEq, gNe, plain0, SeqAt.shaped, PyData.eqv, PyData.eqvAll, PyData.canLay0, PyData.canLayAll0, PyData.depth, PyData.depthAll, Ot.bindS, retE, dispTQ, dispLQ, dispTE, dispLE, qCons, qNil, frzQ, frzE, frz1, mvOut, outF, asOf, line, notQ, notE, andQ, orQ, andE, orE, vAndQ, vOrQ, vAndE, vOrE, Oe.bind, Ot.bind, Oe.bindT, Ot.bindT, Oa.bind, Oa.bindA, Oe.bindA, Oa.bindS, lCons, lNil, quietA, gather, gather1, back, back1, slR, callE, quietN, loudN, rds, gLen, gLt, gLe, gGt, gGe, chainQ, gIsI, isB, gNot, gIs, gIsNot, gIsB, gIsNotB, dropE, retX, matchE, cCons, cNil, mSeq, mCons, mNil, mLit, mCap, mAny, bindE, raiseE, tryE, tryAsE, unSo, isXE, sliceQ, noO, someO, gSl, iteQ, iteE, parE, loud2, loud1, gIn, gNotIn, gAll, shapedL, inL, allB, Oe.bindI, Oa.bindI, seqI, lcE, lcL, wipeE, backE, asgN, yesE, atI_m1, atI_nn, blt_eq, ble_eq, noPf, gf, rfld, subE, plR, plW, gow, gof, mtQE, mtE, isL, gAppend, methE, newE, isOb, fldE, flOf, setFl]
theorem n3_no {S : D} {a m : Sl} {c : Int} (h : ¬ c < 0) : n3 [.fz S, a, m, .fz (.int c), .un, .un, .un] = .nx [.fz S, a, m, .fz (.int c), .un, .un, .un] := by
  simp [n3, h, fnF, bCons, bNil, setE, quiet, quiet2, rvar, gt, Oe.bindS, mv, So.bind, rd, rdI, gIx, gMod, gDiv, gSub, gAdd, gMul, gPow, gNeg, quiet1, List.set, ifE, quietT, asB, asBE, tru, truE, truth, gEq, gNe, plain0, SeqAt.shaped, PyData.eqv, PyData.eqvAll, PyData.canLay0, PyData.canLayAll0, PyData.depth, PyData.depthAll, Ot.bindS, retE, dispTQ, dispLQ, dispTE, dispLE, qCons, qNil, frzQ, frzE, frz1, mvOut, outF, asOf, line, notQ, notE, andQ, orQ, andE, orE, vAndQ, vOrQ, vAndE, vOrE, Oe.bind, Ot.bind, Oe.bindT, Ot.bindT, Oa.bind, Oa.bindA, Oe.bindA, Oa.bindS, lCons, lNil, quietA, gather, gather1, back, back1, slR, callE, quietN, loudN, rds, gLen, gLt, gLe, gGt, gGe, chainQ, gIsI, isB, gNot, gIs, gIsNot, gIsB, gIsNotB, dropE, retX, matchE, cCons, cNil, mSeq, mCons, mNil, mLit, mCap, mAny, bindE, raiseE, tryE, tryAsE, unSo, isXE, sliceQ, noO, someO, gSl, iteQ, iteE, parE, loud2, loud1, gIn, gNotIn, gAll, shapedL, inL, allB, Oe.bindI, Oa.bindI, seqI, lcE, lcL, wipeE, backE, asgN, yesE, atI_m1, atI_nn, blt_eq, ble_eq, noPf, gf, rfld, subE, plR, plW, gow, gof, mtQE, mtE, isL, gAppend, methE, newE, isOb, fldE, flOf, setFl]
theorem n3_yes {S : D} {a m : Sl} {c c1 : Int} (h : c < 0) (hb : bitsOk 2 c = true) (hc : 1 - 2 * c = c1) : n3 [.fz S, a, m, .fz (.int c), .un, .un, .un] = .nx [.fz S, a, m, .fz (.int c1), .un, .un, .un] := by
  subst hc
  simp [n3, h, hb, fnF, bCons, bNil, setE, quiet, quiet2, rvar, gt, Oe.bindS, mv, So.bind, rd, rdI, gIx, gMod, gDiv, gSub, gAdd, gMul, gPow, gNeg, quiet1, List.set, ifE, quietT, asB, asBE, tru, truE, truth, gEq, gNe, plain0, SeqAt.shaped, PyData.eqv, PyData.eqvAll, PyData.canLay0, PyData.canLayAll0, PyData.depth, PyData.depthAll, Ot.bindS, retE, dispTQ, dispLQ, dispTE, dispLE, qCons, qNil, frzQ, frzE, frz1, mvOut, outF, asOf, line, notQ, notE, andQ, orQ, andE, orE, vAndQ, vOrQ, vAndE, vOrE, Oe.bind, Ot.bind, Oe.bindT, Ot.bindT, Oa.bind, Oa.bindA, Oe.bindA, Oa.bindS, lCons, lNil, quietA, gather, gather1, back, back1, slR, callE, quietN, loudN, rds, gLen, gLt, gLe, gGt, gGe, chainQ, gIsI, isB, gNot, gIs, gIsNot, gIsB, gIsNotB, dropE, retX, matchE, cCons, cNil, mSeq, mCons, mNil, mLit, mCap, mAny, bindE, raiseE, tryE, tryAsE, unSo, isXE, sliceQ, noO, someO, gSl, iteQ, iteE, parE, loud2, loud1, gIn, gNotIn, gAll, shapedL, inL, allB, Oe.bindI, Oa.bindI, seqI, lcE, lcL, wipeE, backE, asgN, yesE, atI_m1, atI_nn, blt_eq, ble_eq, noPf, gf, rfld, subE, plR, plW, gow, gof, mtQE, mtE, isL, gAppend, methE, newE, isOb, fldE, flOf, setFl]
theorem n_all {q : List D} {a m : Nat} (ha : a < 1000) (hm : m < 1000) {c0 c1 c2 : Int} (h1 : n1 [.fz (.dict [(.none, .tuple q)]), .fz (.int a), .fz (.int m), .un, .un, .un, .un] = .nx [.fz (.dict [(.none, .tuple q)]), .fz (.int a), .fz (.int m), .fz (.int c0), .un, .un, .un])
    (h2 : n2 [.fz (.dict [(.none, .tuple q)]), .fz (.int a), .fz (.int m), .fz (.int c0), .un, .un, .un] = .nx [.fz (.dict [(.none, .tuple q)]), .fz (.int a), .fz (.int m), .fz (.int c1), .un, .un, .un])
    (h3 : n3 [.fz (.dict [(.none, .tuple q)]), .fz (.int a), .fz (.int m), .fz (.int c1), .un, .un, .un] = .nx [.fz (.dict [(.none, .tuple q)]), .fz (.int a), .fz (.int m), .fz (.int c2), .un, .un, .un]) (hc : 0 ≤ c2) :
    ∃ ys : List Int, m_law_numbers [.fz (.dict [(.none, .tuple q)]), .fz (.int a), .fz (.int m)] = .ret (.ow (.list (ys.map .int))) [.fz (.dict [(.none, .tuple q)]), .fz (.int a), .fz (.int m)] ∧ ys.length = m ∧ ∀ z ∈ ys, 0 ≤ z ∧ z < 1009 := by
  obtain ⟨ys, cell', x', y', e, k1, k2⟩ := n_rest (q := q) (n_range m) ha hm c2 hc
  refine ⟨ys, ?_, k1, k2⟩
  refine Eq.trans ?_ (n_tail hm e)
  show outF [0, 1, 2] 3 (g_law_numbers [.fz (.dict [(.none, .tuple q)]), .fz (.int a), .fz (.int m), .un, .un, .un, .un]) = outF [0, 1, 2] 3 (n4 _)
  rw [n_eq]
  have hbc : ∀ (f g : En → So) (e e1 : En), f e = .nx e1 → bCons f g e = g e1 := fun f g e e1 h => by simp only [bCons, h, So.bind]
  rw [hbc _ _ _ _ h1, hbc _ _ _ _ h2, hbc _ _ _ _ h3]
/-- the numbers that a law draws -/
theorem numbers_ok {ns : List Int} (hb : ∀ z ∈ ns, Builtin.Int.intBits z ≤ 1048576) (a m : Nat) (ha : a < 1000) (hm : m < 1000) :
    ∃ ys : List Int, m_law_numbers [.fz (.dict [(.none, .tuple (ns.map .int))]), .fz (.int a), .fz (.int m)] = .ret (.ow (.list (ys.map .int))) [.fz (.dict [(.none, .tuple (ns.map .int))]), .fz (.int a), .fz (.int m)] ∧ ys.length = m ∧ ∀ z ∈ ys, 0 ≤ z ∧ z < 1009 := by
  have b1 : bitsOk 1000003 ((a : Int) + 1) = true := bits_of (small (by decide) (by decide)) (small (by omega) (by omega))
  have hc0 : 0 ≤ 1000003 * ((a : Int) + 1) := by omega
  generalize hc : 1000003 * ((a : Int) + 1) = c0 at hc0
  by_cases hl : a < ns.length
  · have hz : ns[a]? = some ns[a] := List.getElem?_eq_getElem hl
    have hzb := hb _ (List.getElem_mem hl)
    generalize ns[a] = z at hz hzb
    have hl' : (a : Int) < ((ns.map PyData.int).length : Int) := by rw [List.length_map]; omega
    have hz' : (ns.map PyData.int)[a]? = some (.int z) := by rw [List.getElem?_map, hz]; rfl
    have b2 : bitsOk 2 z = true := bits_of (small (by decide) (by decide)) (bits_small hzb)
    by_cases hn : z < 0
    · have h5 : 0 ≤ 1 - 2 * z := by omega
      exact n_all ha hm (n1_ok hc b1) (n2_yes hl' hz') (n3_yes hn b2 rfl) h5
    · exact n_all ha hm (n1_ok hc b1) (n2_yes hl' hz') (n3_no hn) (by omega)
  · have hl' : ¬ (a : Int) < ((ns.map PyData.int).length : Int) := by rw [List.length_map]; omega
    exact n_all ha hm (n1_ok hc b1) (n2_no hl') (n3_no (by omega)) hc0
end k50
end Bv
set_option maxHeartbeats 0
namespace Bv
namespace k50
open PySem L2
theorem leaf_ok (a b c : Int) (r : List D) (f : Bool) : ∃ t : Tree, m_law_leaf [.ow (.list (.int a :: .int b :: .int c :: r)), .fz (.bool f)] = .ret (.fz t.d) [.ow (.list (.int a :: .int b :: .int c :: r)), .fz (.bool f)] ∧ t.V ∧ t.fu ≤ 5 ∧ t.sz ≤ 4 := by
  have h6 : a % 6 = 0 ∨ a % 6 = 1 ∨ a % 6 = 2 ∨ a % 6 = 3 ∨ a % 6 = 4 ∨ a % 6 = 5 := by omega
  have v12 : -1000 ≤ -1 - b % 12 ∧ -1 - b % 12 ≤ 1000 := by omega
  have v3 : -1000 ≤ -1 - b % 3 ∧ -1 - b % 3 ≤ 1000 := by omega
  have last : (a % 6 = 3 ∧ f = false) ∨ a % 6 = 5 → ∃ t : Tree, m_law_leaf [.ow (.list (.int a :: .int b :: .int c :: r)), .fz (.bool f)] = .ret (.fz t.d) [.ow (.list (.int a :: .int b :: .int c :: r)), .fz (.bool f)] ∧ t.V ∧ t.fu ≤ 5 ∧ t.sz ≤ 4 := by
    intro h
    refine ⟨.of (-1 - b % 3) (-1) (c % 2), ?_, ⟨v3, by omega, by omega⟩, by simp [Tree.fu], by simp [Tree.sz]⟩
    rcases h with ⟨h, rfl⟩ | h <;> simp [m_law_leaf, g_law_leaf, h, Tree.d, fnF, bCons, bNil, setE, quiet, quiet2, rvar, gt, Oe.bindS, mv, So.bind, rd, rdI, gIx, gMod, gDiv, gSub, gAdd, gMul, gPow, gNeg, quiet1, List.set, ifE, quietT, asB, asBE, tru, truE, truth, gEq, gNe, plain0, SeqAt.shaped, PyData.eqv, PyData.eqvAll, PyData.canLay0, PyData.canLayAll0, PyData.depth, PyData.depthAll, Ot.bindS, retE, dispTQ, dispLQ, dispTE, dispLE, qCons, qNil, frzQ, frzE, frz1, mvOut, outF, asOf, line, notQ, notE, andQ, orQ, andE, orE, vAndQ, vOrQ, vAndE, vOrE, Oe.bind, Ot.bind, Oe.bindT, Ot.bindT, Oa.bind, Oa.bindA, Oe.bindA, Oa.bindS, lCons, lNil, quietA, gather, gather1, back, back1, slR, callE, quietN, loudN, rds, gLen, gLt, gLe, gGt, gGe, chainQ, gIsI, isB, gNot, gIs, gIsNot, gIsB, gIsNotB, dropE, retX, matchE, cCons, cNil, mSeq, mCons, mNil, mLit, mCap, mAny, bindE, raiseE, tryE, tryAsE, unSo, isXE, sliceQ, noO, someO, gSl, iteQ, iteE, parE, loud2, loud1, gIn, gNotIn, gAll, shapedL, inL, allB, Oe.bindI, Oa.bindI, seqI, lcE, lcL, wipeE, backE, asgN, yesE, atI_m1, atI_nn, isNone, blt_eq, ble_eq, cutD, HT.sIx, noPf, gf, rfld, subE, plR, plW, gow, gof, mtQE, mtE, isL, gAppend, methE, newE, isOb, fldE, flOf, setFl]
  rcases h6 with h | h | h | h | h | h
  · refine ⟨.whole (b % 19 - 9), ?_, trivial, by simp [Tree.fu], by simp [Tree.sz]⟩
    simp [m_law_leaf, g_law_leaf, h, Tree.d, fnF, bCons, bNil, setE, quiet, quiet2, rvar, gt, Oe.bindS, mv, So.bind, rd, rdI, gIx, gMod, gDiv, gSub, gAdd, gMul, gPow, gNeg, quiet1, List.set, ifE, quietT, asB, asBE, tru, truE, truth, gEq, gNe, plain0, SeqAt.shaped, PyData.eqv, PyData.eqvAll, PyData.canLay0, PyData.canLayAll0, PyData.depth, PyData.depthAll, Ot.bindS, retE, dispTQ, dispLQ, dispTE, dispLE, qCons, qNil, frzQ, frzE, frz1, mvOut, outF, asOf, line, notQ, notE, andQ, orQ, andE, orE, vAndQ, vOrQ, vAndE, vOrE, Oe.bind, Ot.bind, Oe.bindT, Ot.bindT, Oa.bind, Oa.bindA, Oe.bindA, Oa.bindS, lCons, lNil, quietA, gather, gather1, back, back1, slR, callE, quietN, loudN, rds, gLen, gLt, gLe, gGt, gGe, chainQ, gIsI, isB, gNot, gIs, gIsNot, gIsB, gIsNotB, dropE, retX, matchE, cCons, cNil, mSeq, mCons, mNil, mLit, mCap, mAny, bindE, raiseE, tryE, tryAsE, unSo, isXE, sliceQ, noO, someO, gSl, iteQ, iteE, parE, loud2, loud1, gIn, gNotIn, gAll, shapedL, inL, allB, Oe.bindI, Oa.bindI, seqI, lcE, lcL, wipeE, backE, asgN, yesE, atI_m1, atI_nn, isNone, blt_eq, ble_eq, cutD, HT.sIx, noPf, gf, rfld, subE, plR, plW, gow, gof, mtQE, mtE, isL, gAppend, methE, newE, isOb, fldE, flOf, setFl]
  · refine ⟨.root 2 (.whole (b % 30)), ?_, ⟨.inl rfl, trivial⟩, by simp [Tree.fu], by simp [Tree.sz]⟩
    simp [m_law_leaf, g_law_leaf, h, Tree.d, fnF, bCons, bNil, setE, quiet, quiet2, rvar, gt, Oe.bindS, mv, So.bind, rd, rdI, gIx, gMod, gDiv, gSub, gAdd, gMul, gPow, gNeg, quiet1, List.set, ifE, quietT, asB, asBE, tru, truE, truth, gEq, gNe, plain0, SeqAt.shaped, PyData.eqv, PyData.eqvAll, PyData.canLay0, PyData.canLayAll0, PyData.depth, PyData.depthAll, Ot.bindS, retE, dispTQ, dispLQ, dispTE, dispLE, qCons, qNil, frzQ, frzE, frz1, mvOut, outF, asOf, line, notQ, notE, andQ, orQ, andE, orE, vAndQ, vOrQ, vAndE, vOrE, Oe.bind, Ot.bind, Oe.bindT, Ot.bindT, Oa.bind, Oa.bindA, Oe.bindA, Oa.bindS, lCons, lNil, quietA, gather, gather1, back, back1, slR, callE, quietN, loudN, rds, gLen, gLt, gLe, gGt, gGe, chainQ, gIsI, isB, gNot, gIs, gIsNot, gIsB, gIsNotB, dropE, retX, matchE, cCons, cNil, mSeq, mCons, mNil, mLit, mCap, mAny, bindE, raiseE, tryE, tryAsE, unSo, isXE, sliceQ, noO, someO, gSl, iteQ, iteE, parE, loud2, loud1, gIn, gNotIn, gAll, shapedL, inL, allB, Oe.bindI, Oa.bindI, seqI, lcE, lcL, wipeE, backE, asgN, yesE, atI_m1, atI_nn, isNone, blt_eq, ble_eq, cutD, HT.sIx, noPf, gf, rfld, subE, plR, plW, gow, gof, mtQE, mtE, isL, gAppend, methE, newE, isOb, fldE, flOf, setFl]
  · refine ⟨.of (-1 - b % 12) 0 (c % 2), ?_, ⟨v12, by omega, by omega⟩, by simp [Tree.fu], by simp [Tree.sz]⟩
    simp [m_law_leaf, g_law_leaf, h, Tree.d, fnF, bCons, bNil, setE, quiet, quiet2, rvar, gt, Oe.bindS, mv, So.bind, rd, rdI, gIx, gMod, gDiv, gSub, gAdd, gMul, gPow, gNeg, quiet1, List.set, ifE, quietT, asB, asBE, tru, truE, truth, gEq, gNe, plain0, SeqAt.shaped, PyData.eqv, PyData.eqvAll, PyData.canLay0, PyData.canLayAll0, PyData.depth, PyData.depthAll, Ot.bindS, retE, dispTQ, dispLQ, dispTE, dispLE, qCons, qNil, frzQ, frzE, frz1, mvOut, outF, asOf, line, notQ, notE, andQ, orQ, andE, orE, vAndQ, vOrQ, vAndE, vOrE, Oe.bind, Ot.bind, Oe.bindT, Ot.bindT, Oa.bind, Oa.bindA, Oe.bindA, Oa.bindS, lCons, lNil, quietA, gather, gather1, back, back1, slR, callE, quietN, loudN, rds, gLen, gLt, gLe, gGt, gGe, chainQ, gIsI, isB, gNot, gIs, gIsNot, gIsB, gIsNotB, dropE, retX, matchE, cCons, cNil, mSeq, mCons, mNil, mLit, mCap, mAny, bindE, raiseE, tryE, tryAsE, unSo, isXE, sliceQ, noO, someO, gSl, iteQ, iteE, parE, loud2, loud1, gIn, gNotIn, gAll, shapedL, inL, allB, Oe.bindI, Oa.bindI, seqI, lcE, lcL, wipeE, backE, asgN, yesE, atI_m1, atI_nn, isNone, blt_eq, ble_eq, cutD, HT.sIx, noPf, gf, rfld, subE, plR, plW, gow, gof, mtQE, mtE, isL, gAppend, methE, newE, isOb, fldE, flOf, setFl]
  · cases f with
    | true =>
      refine ⟨.root 3 (.whole (b % 21 - 10)), ?_, ⟨.inr rfl, trivial⟩, by simp [Tree.fu], by simp [Tree.sz]⟩
      simp [m_law_leaf, g_law_leaf, h, Tree.d, fnF, bCons, bNil, setE, quiet, quiet2, rvar, gt, Oe.bindS, mv, So.bind, rd, rdI, gIx, gMod, gDiv, gSub, gAdd, gMul, gPow, gNeg, quiet1, List.set, ifE, quietT, asB, asBE, tru, truE, truth, gEq, gNe, plain0, SeqAt.shaped, PyData.eqv, PyData.eqvAll, PyData.canLay0, PyData.canLayAll0, PyData.depth, PyData.depthAll, Ot.bindS, retE, dispTQ, dispLQ, dispTE, dispLE, qCons, qNil, frzQ, frzE, frz1, mvOut, outF, asOf, line, notQ, notE, andQ, orQ, andE, orE, vAndQ, vOrQ, vAndE, vOrE, Oe.bind, Ot.bind, Oe.bindT, Ot.bindT, Oa.bind, Oa.bindA, Oe.bindA, Oa.bindS, lCons, lNil, quietA, gather, gather1, back, back1, slR, callE, quietN, loudN, rds, gLen, gLt, gLe, gGt, gGe, chainQ, gIsI, isB, gNot, gIs, gIsNot, gIsB, gIsNotB, dropE, retX, matchE, cCons, cNil, mSeq, mCons, mNil, mLit, mCap, mAny, bindE, raiseE, tryE, tryAsE, unSo, isXE, sliceQ, noO, someO, gSl, iteQ, iteE, parE, loud2, loud1, gIn, gNotIn, gAll, shapedL, inL, allB, Oe.bindI, Oa.bindI, seqI, lcE, lcL, wipeE, backE, asgN, yesE, atI_m1, atI_nn, isNone, blt_eq, ble_eq, cutD, HT.sIx, noPf, gf, rfld, subE, plR, plW, gow, gof, mtQE, mtE, isL, gAppend, methE, newE, isOb, fldE, flOf, setFl]
    | false => exact last (.inl ⟨h, rfl⟩)
  · refine ⟨.minus (.root 2 (.whole (2 + b % 7))), ?_, ⟨.inl rfl, trivial⟩, by simp [Tree.fu], by simp [Tree.sz]⟩
    simp [m_law_leaf, g_law_leaf, h, Tree.d, fnF, bCons, bNil, setE, quiet, quiet2, rvar, gt, Oe.bindS, mv, So.bind, rd, rdI, gIx, gMod, gDiv, gSub, gAdd, gMul, gPow, gNeg, quiet1, List.set, ifE, quietT, asB, asBE, tru, truE, truth, gEq, gNe, plain0, SeqAt.shaped, PyData.eqv, PyData.eqvAll, PyData.canLay0, PyData.canLayAll0, PyData.depth, PyData.depthAll, Ot.bindS, retE, dispTQ, dispLQ, dispTE, dispLE, qCons, qNil, frzQ, frzE, frz1, mvOut, outF, asOf, line, notQ, notE, andQ, orQ, andE, orE, vAndQ, vOrQ, vAndE, vOrE, Oe.bind, Ot.bind, Oe.bindT, Ot.bindT, Oa.bind, Oa.bindA, Oe.bindA, Oa.bindS, lCons, lNil, quietA, gather, gather1, back, back1, slR, callE, quietN, loudN, rds, gLen, gLt, gLe, gGt, gGe, chainQ, gIsI, isB, gNot, gIs, gIsNot, gIsB, gIsNotB, dropE, retX, matchE, cCons, cNil, mSeq, mCons, mNil, mLit, mCap, mAny, bindE, raiseE, tryE, tryAsE, unSo, isXE, sliceQ, noO, someO, gSl, iteQ, iteE, parE, loud2, loud1, gIn, gNotIn, gAll, shapedL, inL, allB, Oe.bindI, Oa.bindI, seqI, lcE, lcL, wipeE, backE, asgN, yesE, atI_m1, atI_nn, isNone, blt_eq, ble_eq, cutD, HT.sIx, noPf, gf, rfld, subE, plR, plW, gow, gof, mtQE, mtE, isL, gAppend, methE, newE, isOb, fldE, flOf, setFl]
  · exact last (.inr h)
def wordOf (a : Int) : Str := if a % 4 = 0 then "plus" else if a % 4 = 1 then "less" else if a % 4 = 2 then "by" else "over"
theorem wordOf_ok (a : Int) : isWord (wordOf a) := by
  unfold wordOf isWord
  split
  · exact .inl rfl
  · split
    · exact .inr (.inl rfl)
    · split
      · exact .inr (.inr (.inl rfl))
      · exact .inr (.inr (.inr rfl))
/-- a turn of the drawing -/
def dbody : En → So := bCons (setE 5 (quiet (sliceQ (rvar 2) (someO (quiet2 (fun _ => some (.val (.int (5)))) (quiet2 (fun _ => some (.val (.int (6)))) (rvar 4) gMul) gAdd)) (someO (quiet2 (fun _ => some (.val (.int (11)))) (quiet2 (fun _ => some (.val (.int (6)))) (rvar 4) gMul) gAdd)))))
  (bCons (setE 6 (callE 2 m_law_leaf (quietA (qCons (sliceQ (rvar 5) (someO (fun _ => some (.val (.int (1))))) noO) (qCons (fun _ => some (.val (.bool false))) qNil)))))
  (bCons (setE 7 (quiet (quiet2 (dispLQ (qCons (fun _ => some (.val (.str "plus"))) (qCons (fun _ => some (.val (.str "less"))) (qCons (fun _ => some (.val (.str "by"))) (qCons (fun _ => some (.val (.str "over"))) qNil))))) (quiet2 (quiet2 (rvar 5) (fun _ => some (.val (.int (0)))) gIx) (fun _ => some (.val (.int (4)))) gMod) gIx)))
  (bCons (ifE (quietT (asB (quiet2 (quiet2 (quiet2 (rvar 5) (fun _ => some (.val (.int (4)))) gIx) (fun _ => some (.val (.int (3)))) gMod) (fun _ => some (.val (.int (0)))) gEq)))
  (parE 3 6 (quietA (qCons (rvar 6) (qCons (rvar 3) qNil))))
  bNil)
  (setE 3 (quiet (dispTQ (qCons (rvar 7) (qCons (rvar 3) (qCons (rvar 6) qNil)))))))))
theorem cut6 (a b c d e f : D) : cutD [a, b, c, d, e, f] (some 1) none = [b, c, d, e, f] := by simp [cutD, HT.sIx]
theorem d_turn {S a : Sl} {ys : List D} {t : Tree} {j : Int} {p0 p1 p2 p3 p4 p5 : Int} {x5 x6 x7 : Sl} (hv : t.V) (hj : bitsOk 6 j = true) (hcut : cutD ys (some (5 + 6 * j)) (some (11 + 6 * j)) = [.int p0, .int p1, .int p2, .int p3, .int p4, .int p5]) :
    ∃ (t' : Tree) (y5 y6 y7 : Sl), dbody [S, a, .ow (.list ys), .fz t.d, .fz (.int j), x5, x6, x7] = .nx [S, a, .ow (.list ys), .fz t'.d, .fz (.int j), y5, y6, y7] ∧ t'.V ∧ t'.fu ≤ max t.fu 5 + 1 ∧ t'.sz ≤ t.sz + 5 := by
  obtain ⟨s, es, hs, hf, hz⟩ := leaf_ok p1 p2 p3 [.int p4, .int p5] false
  have h4 : p0 % 4 = 0 ∨ p0 % 4 = 1 ∨ p0 % 4 = 2 ∨ p0 % 4 = 3 := by omega
  by_cases h3 : p4 % 3 = 0
  · refine ⟨.bin (wordOf p0) s t, .ow (.list [.int p0, .int p1, .int p2, .int p3, .int p4, .int p5]), .fz t.d, .fz (.str (wordOf p0)), ?_, ⟨wordOf_ok p0, hs, hv⟩, by simp [Tree.fu]; omega, by simp [Tree.sz]; omega⟩
    simp only [Tree.d]
    generalize t.d = td at *
    generalize s.d = sd at *
    generalize hq : cutD ys (some (5 + 6 * j)) (some (11 + 6 * j)) = q at *
    subst hcut
    rcases h4 with h | h | h | h <;> simp [dbody, wordOf, h, h3, hj, hq, es, cut6, gSl, gMul, fnF, bCons, bNil, setE, quiet, quiet2, rvar, gt, Oe.bindS, mv, So.bind, rd, rdI, gIx, gMod, gDiv, gSub, gAdd, gMul, gPow, gNeg, quiet1, List.set, ifE, quietT, asB, asBE, tru, truE, truth, gEq, gNe, plain0, SeqAt.shaped, PyData.eqv, PyData.eqvAll, PyData.canLay0, PyData.canLayAll0, PyData.depth, PyData.depthAll, Ot.bindS, retE, dispTQ, dispLQ, dispTE, dispLE, qCons, qNil, frzQ, frzE, frz1, mvOut, outF, asOf, line, notQ, notE, andQ, orQ, andE, orE, vAndQ, vOrQ, vAndE, vOrE, Oe.bind, Ot.bind, Oe.bindT, Ot.bindT, Oa.bind, Oa.bindA, Oe.bindA, Oa.bindS, lCons, lNil, quietA, gather, gather1, back, back1, slR, callE, quietN, loudN, rds, gLen, gLt, gLe, gGt, gGe, chainQ, gIsI, isB, gNot, gIs, gIsNot, gIsB, gIsNotB, dropE, retX, matchE, cCons, cNil, mSeq, mCons, mNil, mLit, mCap, mAny, bindE, raiseE, tryE, tryAsE, unSo, isXE, sliceQ, noO, someO, gSl, iteQ, iteE, parE, loud2, loud1, gIn, gNotIn, gAll, shapedL, inL, allB, Oe.bindI, Oa.bindI, seqI, lcE, lcL, wipeE, backE, asgN, yesE, atI_m1, atI_nn, isNone, blt_eq, ble_eq, noPf, gf, rfld, subE, plR, plW, gow, gof, mtQE, mtE, isL, gAppend, methE, newE, isOb, fldE, flOf, setFl]
  · have hb3 : (p4 % 3 == 0) = false := by simpa using h3
    refine ⟨.bin (wordOf p0) t s, .ow (.list [.int p0, .int p1, .int p2, .int p3, .int p4, .int p5]), .fz s.d, .fz (.str (wordOf p0)), ?_, ⟨wordOf_ok p0, hv, hs⟩, by simp [Tree.fu]; omega, by simp [Tree.sz]; omega⟩
    simp only [Tree.d]
    generalize t.d = td at *
    generalize s.d = sd at *
    generalize hq : cutD ys (some (5 + 6 * j)) (some (11 + 6 * j)) = q at *
    subst hcut
    rcases h4 with h | h | h | h <;> simp [dbody, wordOf, h, h3, hb3, hj, hq, es, cut6, gSl, gMul, fnF, bCons, bNil, setE, quiet, quiet2, rvar, gt, Oe.bindS, mv, So.bind, rd, rdI, gIx, gMod, gDiv, gSub, gAdd, gMul, gPow, gNeg, quiet1, List.set, ifE, quietT, asB, asBE, tru, truE, truth, gEq, gNe, plain0, SeqAt.shaped, PyData.eqv, PyData.eqvAll, PyData.canLay0, PyData.canLayAll0, PyData.depth, PyData.depthAll, Ot.bindS, retE, dispTQ, dispLQ, dispTE, dispLE, qCons, qNil, frzQ, frzE, frz1, mvOut, outF, asOf, line, notQ, notE, andQ, orQ, andE, orE, vAndQ, vOrQ, vAndE, vOrE, Oe.bind, Ot.bind, Oe.bindT, Ot.bindT, Oa.bind, Oa.bindA, Oe.bindA, Oa.bindS, lCons, lNil, quietA, gather, gather1, back, back1, slR, callE, quietN, loudN, rds, gLen, gLt, gLe, gGt, gGe, chainQ, gIsI, isB, gNot, gIs, gIsNot, gIsB, gIsNotB, dropE, retX, matchE, cCons, cNil, mSeq, mCons, mNil, mLit, mCap, mAny, bindE, raiseE, tryE, tryAsE, unSo, isXE, sliceQ, noO, someO, gSl, iteQ, iteE, parE, loud2, loud1, gIn, gNotIn, gAll, shapedL, inL, allB, Oe.bindI, Oa.bindI, seqI, lcE, lcL, wipeE, backE, asgN, yesE, atI_m1, atI_nn, isNone, blt_eq, ble_eq, noPf, gf, rfld, subE, plR, plW, gow, gof, mtQE, mtE, isL, gAppend, methE, newE, isOb, fldE, flOf, setFl]
theorem len24 {ys : List Int} (h : ys.length = 24) : ∃ y0 y1 y2 y3 y4 y5 y6 y7 y8 y9 y10 y11 y12 y13 y14 y15 y16 y17 y18 y19 y20 y21 y22 y23 : Int, ys = [y0, y1, y2, y3, y4, y5, y6, y7, y8, y9, y10, y11, y12, y13, y14, y15, y16, y17, y18, y19, y20, y21, y22, y23] := by
  match ys, h with
  | [y0, y1, y2, y3, y4, y5, y6, y7, y8, y9, y10, y11, y12, y13, y14, y15, y16, y17, y18, y19, y20, y21, y22, y23], _ => exact ⟨y0, y1, y2, y3, y4, y5, y6, y7, y8, y9, y10, y11, y12, y13, y14, y15, y16, y17, y18, y19, y20, y21, y22, y23, rfl⟩
/-- behind the loop -/
def dtail : En → So := (bCons (ifE (quietT (asB (quiet2 (quiet2 (quiet2 (rvar 2) (fun _ => some (.val (.int (18)))) gIx) (fun _ => some (.val (.int (5)))) gMod) (fun _ => some (.val (.int (0)))) gEq)))
  (setE 3 (quiet (dispTQ (qCons (fun _ => some (.val (.str "root"))) (qCons (fun _ => some (.val (.int (2)))) (qCons (dispTQ (qCons (fun _ => some (.val (.str "by"))) (qCons (rvar 3) (qCons (rvar 3) qNil)))) qNil))))))
  bNil)
  (bCons (ifE (quietT (asB (quiet2 (quiet2 (quiet2 (rvar 2) (fun _ => some (.val (.int (18)))) gIx) (fun _ => some (.val (.int (5)))) gMod) (fun _ => some (.val (.int (1)))) gEq)))
  (setE 3 (quiet (dispTQ (qCons (fun _ => some (.val (.str "power"))) (qCons (rvar 3) (qCons (quiet2 (quiet2 (rvar 2) (fun _ => some (.val (.int (19)))) gIx) (fun _ => some (.val (.int (4)))) gMod) qNil))))))
  bNil)
  (retE 2 (quiet (rvar 3)))))
theorem d_tail {S a x4 x5 x6 x7 : Sl} {ys : List D} {t : Tree} {y18 y19 : Int} (h18 : ys[18]? = some (.int y18)) (h19 : ys[19]? = some (.int y19)) (hv : t.V) : ∃ t' : Tree, outF [0, 1] 2 (dtail [S, a, .ow (.list ys), .fz t.d, x4, x5, x6, x7]) = .ret (.fz t'.d) [S, a] ∧ t'.V ∧ t'.fu ≤ t.fu + 2 ∧ t'.sz ≤ 2 * t.sz + 5 := by
  by_cases h0 : y18 % 5 = 0
  · refine ⟨.root 2 (.bin "by" t t), ?_, ⟨.inl rfl, .inr (.inr (.inl rfl)), hv, hv⟩, by simp [Tree.fu], by simp [Tree.sz]; omega⟩
    simp only [Tree.d]
    generalize t.d = td at *
    simp [dtail, h18, h19, h0, fnF, bCons, bNil, setE, quiet, quiet2, rvar, gt, Oe.bindS, mv, So.bind, rd, rdI, gIx, gMod, gDiv, gSub, gAdd, gMul, gPow, gNeg, quiet1, List.set, ifE, quietT, asB, asBE, tru, truE, truth, gEq, gNe, plain0, SeqAt.shaped, PyData.eqv, PyData.eqvAll, PyData.canLay0, PyData.canLayAll0, PyData.depth, PyData.depthAll, Ot.bindS, retE, dispTQ, dispLQ, dispTE, dispLE, qCons, qNil, frzQ, frzE, frz1, mvOut, outF, asOf, line, notQ, notE, andQ, orQ, andE, orE, vAndQ, vOrQ, vAndE, vOrE, Oe.bind, Ot.bind, Oe.bindT, Ot.bindT, Oa.bind, Oa.bindA, Oe.bindA, Oa.bindS, lCons, lNil, quietA, gather, gather1, back, back1, slR, callE, quietN, loudN, rds, gLen, gLt, gLe, gGt, gGe, chainQ, gIsI, isB, gNot, gIs, gIsNot, gIsB, gIsNotB, dropE, retX, matchE, cCons, cNil, mSeq, mCons, mNil, mLit, mCap, mAny, bindE, raiseE, tryE, tryAsE, unSo, isXE, sliceQ, noO, someO, gSl, iteQ, iteE, parE, loud2, loud1, gIn, gNotIn, gAll, shapedL, inL, allB, Oe.bindI, Oa.bindI, seqI, lcE, lcL, wipeE, backE, asgN, yesE, atI_m1, atI_nn, isNone, blt_eq, ble_eq, cutD, HT.sIx, noPf, gf, rfld, subE, plR, plW, gow, gof, mtQE, mtE, isL, gAppend, methE, newE, isOb, fldE, flOf, setFl]
  · by_cases h1 : y18 % 5 = 1
    · have h0b : (y18 % 5 == 0) = false := by simpa using h0
      have hm : ((y19 % 4).toNat : Int) = y19 % 4 := by omega
      refine ⟨.power t (y19 % 4).toNat, ?_, ⟨by omega, hv⟩, by simp [Tree.fu], by simp [Tree.sz]; omega⟩
      simp only [Tree.d]
      rw [hm]
      generalize t.d = td at *
      simp [dtail, h18, h19, h0, h0b, h1, fnF, bCons, bNil, setE, quiet, quiet2, rvar, gt, Oe.bindS, mv, So.bind, rd, rdI, gIx, gMod, gDiv, gSub, gAdd, gMul, gPow, gNeg, quiet1, List.set, ifE, quietT, asB, asBE, tru, truE, truth, gEq, gNe, plain0, SeqAt.shaped, PyData.eqv, PyData.eqvAll, PyData.canLay0, PyData.canLayAll0, PyData.depth, PyData.depthAll, Ot.bindS, retE, dispTQ, dispLQ, dispTE, dispLE, qCons, qNil, frzQ, frzE, frz1, mvOut, outF, asOf, line, notQ, notE, andQ, orQ, andE, orE, vAndQ, vOrQ, vAndE, vOrE, Oe.bind, Ot.bind, Oe.bindT, Ot.bindT, Oa.bind, Oa.bindA, Oe.bindA, Oa.bindS, lCons, lNil, quietA, gather, gather1, back, back1, slR, callE, quietN, loudN, rds, gLen, gLt, gLe, gGt, gGe, chainQ, gIsI, isB, gNot, gIs, gIsNot, gIsB, gIsNotB, dropE, retX, matchE, cCons, cNil, mSeq, mCons, mNil, mLit, mCap, mAny, bindE, raiseE, tryE, tryAsE, unSo, isXE, sliceQ, noO, someO, gSl, iteQ, iteE, parE, loud2, loud1, gIn, gNotIn, gAll, shapedL, inL, allB, Oe.bindI, Oa.bindI, seqI, lcE, lcL, wipeE, backE, asgN, yesE, atI_m1, atI_nn, isNone, blt_eq, ble_eq, cutD, HT.sIx, noPf, gf, rfld, subE, plR, plW, gow, gof, mtQE, mtE, isL, gAppend, methE, newE, isOb, fldE, flOf, setFl]
    · have h0b : (y18 % 5 == 0) = false := by simpa using h0
      have h1b : (y18 % 5 == 1) = false := by simpa using h1
      refine ⟨t, ?_, hv, by omega, by omega⟩
      generalize t.d = td at *
      simp [dtail, h18, h19, h0, h1, h0b, h1b, fnF, bCons, bNil, setE, quiet, quiet2, rvar, gt, Oe.bindS, mv, So.bind, rd, rdI, gIx, gMod, gDiv, gSub, gAdd, gMul, gPow, gNeg, quiet1, List.set, ifE, quietT, asB, asBE, tru, truE, truth, gEq, gNe, plain0, SeqAt.shaped, PyData.eqv, PyData.eqvAll, PyData.canLay0, PyData.canLayAll0, PyData.depth, PyData.depthAll, Ot.bindS, retE, dispTQ, dispLQ, dispTE, dispLE, qCons, qNil, frzQ, frzE, frz1, mvOut, outF, asOf, line, notQ, notE, andQ, orQ, andE, orE, vAndQ, vOrQ, vAndE, vOrE, Oe.bind, Ot.bind, Oe.bindT, Ot.bindT, Oa.bind, Oa.bindA, Oe.bindA, Oa.bindS, lCons, lNil, quietA, gather, gather1, back, back1, slR, callE, quietN, loudN, rds, gLen, gLt, gLe, gGt, gGe, chainQ, gIsI, isB, gNot, gIs, gIsNot, gIsB, gIsNotB, dropE, retX, matchE, cCons, cNil, mSeq, mCons, mNil, mLit, mCap, mAny, bindE, raiseE, tryE, tryAsE, unSo, isXE, sliceQ, noO, someO, gSl, iteQ, iteE, parE, loud2, loud1, gIn, gNotIn, gAll, shapedL, inL, allB, Oe.bindI, Oa.bindI, seqI, lcE, lcL, wipeE, backE, asgN, yesE, atI_m1, atI_nn, isNone, blt_eq, ble_eq, cutD, HT.sIx, noPf, gf, rfld, subE, plR, plW, gow, gof, mtQE, mtE, isL, gAppend, methE, newE, isOb, fldE, flOf, setFl]
end k50
end Bv
set_option maxHeartbeats 0
namespace Bv
namespace k50
open PySem L2
def d1 : En → So := setE 2 (callE 3 m_law_numbers (quietA (qCons (rvar 0) (qCons (rvar 1) (qCons (fun _ => some (.val (.int (24)))) qNil)))))
def d2 : En → So := setE 3 (callE 2 m_law_leaf (quietA (qCons (sliceQ (rvar 2) (someO (fun _ => some (.val (.int (1))))) noO) (qCons (fun _ => some (.val (.bool true))) qNil))))
def d3 : En → So := forE (rng1I (quietA (qCons (quiet2 (fun _ => some (.val (.int (1)))) (quiet2 (quiet2 (rvar 2) (fun _ => some (.val (.int (0)))) gIx) (fun _ => some (.val (.int (2)))) gMod) gAdd) qNil))) (asgN 4) dbody
theorem d_eq : g_law_drawn = bCons d1 (bCons d2 (bCons d3 dtail)) := rfl
theorem hbc {f g : En → So} {e e1 : En} (h : f e = .nx e1) : bCons f g e = g e1 := by simp only [bCons, h, So.bind]
theorem d1_ok {S : D} {a : Int} {ys : List D} (e : m_law_numbers [.fz S, .fz (.int a), .fz (.int 24)] = .ret (.ow (.list ys)) [.fz S, .fz (.int a), .fz (.int 24)]) : d1 [.fz S, .fz (.int a), .un, .un, .un, .un, .un, .un] = .nx [.fz S, .fz (.int a), .ow (.list ys), .un, .un, .un, .un, .un] := by
  simp [d1, e, fnF, bCons, bNil, setE, quiet, quiet2, rvar, gt, Oe.bindS, mv, So.bind, rd, rdI, gIx, gMod, gDiv, gSub, gAdd, gMul, gPow, gNeg, quiet1, List.set, ifE, quietT, asB, asBE, tru, truE, truth, gEq, gNe, plain0, SeqAt.shaped, PyData.eqv, PyData.eqvAll, PyData.canLay0, PyData.canLayAll0, PyData.depth, PyData.depthAll, Ot.bindS, retE, dispTQ, dispLQ, dispTE, dispLE, qCons, qNil, frzQ, frzE, frz1, mvOut, outF, asOf, line, notQ, notE, andQ, orQ, andE, orE, vAndQ, vOrQ, vAndE, vOrE, Oe.bind, Ot.bind, Oe.bindT, Ot.bindT, Oa.bind, Oa.bindA, Oe.bindA, Oa.bindS, lCons, lNil, quietA, gather, gather1, back, back1, slR, callE, quietN, loudN, rds, gLen, gLt, gLe, gGt, gGe, chainQ, gIsI, isB, gNot, gIs, gIsNot, gIsB, gIsNotB, dropE, retX, matchE, cCons, cNil, mSeq, mCons, mNil, mLit, mCap, mAny, bindE, raiseE, tryE, tryAsE, unSo, isXE, sliceQ, noO, someO, gSl, iteQ, iteE, parE, loud2, loud1, gIn, gNotIn, gAll, shapedL, inL, allB, Oe.bindI, Oa.bindI, seqI, lcE, lcL, wipeE, backE, asgN, yesE, atI_m1, atI_nn, isNone, blt_eq, ble_eq, cutD, HT.sIx, noPf, gf, rfld, subE, plR, plW, gow, gof, mtQE, mtE, isL, gAppend, methE, newE, isOb, fldE, flOf, setFl]
theorem d2_ok {S a : Sl} {ys qs : List D} {td : D} (hc : cutD ys (some 1) none = qs) (e : m_law_leaf [.ow (.list qs), .fz (.bool true)] = .ret (.fz td) [.ow (.list qs), .fz (.bool true)]) : d2 [S, a, .ow (.list ys), .un, .un, .un, .un, .un] = .nx [S, a, .ow (.list ys), .fz td, .un, .un, .un, .un] := by
  subst hc
  simp [d2, e, gSl, fnF, bCons, bNil, setE, quiet, quiet2, rvar, gt, Oe.bindS, mv, So.bind, rd, rdI, gIx, gMod, gDiv, gSub, gAdd, gMul, gPow, gNeg, quiet1, List.set, ifE, quietT, asB, asBE, tru, truE, truth, gEq, gNe, plain0, SeqAt.shaped, PyData.eqv, PyData.eqvAll, PyData.canLay0, PyData.canLayAll0, PyData.depth, PyData.depthAll, Ot.bindS, retE, dispTQ, dispLQ, dispTE, dispLE, qCons, qNil, frzQ, frzE, frz1, mvOut, outF, asOf, line, notQ, notE, andQ, orQ, andE, orE, vAndQ, vOrQ, vAndE, vOrE, Oe.bind, Ot.bind, Oe.bindT, Ot.bindT, Oa.bind, Oa.bindA, Oe.bindA, Oa.bindS, lCons, lNil, quietA, gather, gather1, back, back1, slR, callE, quietN, loudN, rds, gLen, gLt, gLe, gGt, gGe, chainQ, gIsI, isB, gNot, gIs, gIsNot, gIsB, gIsNotB, dropE, retX, matchE, cCons, cNil, mSeq, mCons, mNil, mLit, mCap, mAny, bindE, raiseE, tryE, tryAsE, unSo, isXE, sliceQ, noO, someO, gSl, iteQ, iteE, parE, loud2, loud1, gIn, gNotIn, gAll, shapedL, inL, allB, Oe.bindI, Oa.bindI, seqI, lcE, lcL, wipeE, backE, asgN, yesE, atI_m1, atI_nn, isNone, blt_eq, ble_eq, noPf, gf, rfld, subE, plR, plW, gow, gof, mtQE, mtE, isL, gAppend, methE, newE, isOb, fldE, flOf, setFl]
theorem rng1_of {fas : En → Oa} {e e1 : En} {i : Int} (h : fas e = .ok [.val (.int i)] e1) (h62 : in62 i = true) : rng1I fas e = .ok (rangeD 0 i.toNat) e1 := by
  simp only [rng1I, h, Oa.bindI, rds, rd, h62]
theorem d3_rng {S a x3 x4 x5 x6 x7 : Sl} {ys : List D} {y0 : Int} {n : Nat} (h0 : ys[0]? = some (.int y0)) (hn : (1 + y0 % 2).toNat = n) : rng1I (quietA (qCons (quiet2 (fun _ => some (.val (.int (1)))) (quiet2 (quiet2 (rvar 2) (fun _ => some (.val (.int (0)))) gIx) (fun _ => some (.val (.int (2)))) gMod) gAdd) qNil)) [S, a, .ow (.list ys), x3, x4, x5, x6, x7] = .ok (rangeD 0 n) [S, a, .ow (.list ys), x3, x4, x5, x6, x7] := by
  subst hn
  refine rng1_of (i := 1 + y0 % 2) ?_ (in62_of (by omega) (by omega))
  simp [h0, fnF, bCons, bNil, setE, quiet, quiet2, rvar, gt, Oe.bindS, mv, So.bind, rd, rdI, gIx, gMod, gDiv, gSub, gAdd, gMul, gPow, gNeg, quiet1, List.set, ifE, quietT, asB, asBE, tru, truE, truth, gEq, gNe, plain0, SeqAt.shaped, PyData.eqv, PyData.eqvAll, PyData.canLay0, PyData.canLayAll0, PyData.depth, PyData.depthAll, Ot.bindS, retE, dispTQ, dispLQ, dispTE, dispLE, qCons, qNil, frzQ, frzE, frz1, mvOut, outF, asOf, line, notQ, notE, andQ, orQ, andE, orE, vAndQ, vOrQ, vAndE, vOrE, Oe.bind, Ot.bind, Oe.bindT, Ot.bindT, Oa.bind, Oa.bindA, Oe.bindA, Oa.bindS, lCons, lNil, quietA, gather, gather1, back, back1, slR, callE, quietN, loudN, rds, gLen, gLt, gLe, gGt, gGe, chainQ, gIsI, isB, gNot, gIs, gIsNot, gIsB, gIsNotB, dropE, retX, matchE, cCons, cNil, mSeq, mCons, mNil, mLit, mCap, mAny, bindE, raiseE, tryE, tryAsE, unSo, isXE, sliceQ, noO, someO, gSl, iteQ, iteE, parE, loud2, loud1, gIn, gNotIn, gAll, shapedL, inL, allB, Oe.bindI, Oa.bindI, seqI, lcE, lcL, wipeE, backE, asgN, yesE, atI_m1, atI_nn, isNone, blt_eq, ble_eq, cutD, HT.sIx, noPf, gf, rfld, subE, plR, plW, gow, gof, mtQE, mtE, isL, gAppend, methE, newE, isOb, fldE, flOf, setFl]
theorem dstep {S a : Sl} {ys : List D} {t : Tree} {x4 x5 x6 x7 : Sl} {p0 p1 p2 p3 p4 p5 : Int} {j : Int} {rest : List D} (hv : t.V) (hj : bitsOk 6 j = true) (hcut : cutD ys (some (5 + 6 * j)) (some (11 + 6 * j)) = [.int p0, .int p1, .int p2, .int p3, .int p4, .int p5]) :
    ∃ (t' : Tree) (y5 y6 y7 : Sl), forL (asgN 4) dbody (.int j :: rest) [S, a, .ow (.list ys), .fz t.d, x4, x5, x6, x7] = forL (asgN 4) dbody rest [S, a, .ow (.list ys), .fz t'.d, .fz (.int j), y5, y6, y7] ∧ t'.V ∧ t'.fu ≤ max t.fu 5 + 1 ∧ t'.sz ≤ t.sz + 5 := by
  obtain ⟨t', y5, y6, y7, e, h⟩ := d_turn (S := S) (a := a) (x5 := x5) (x6 := x6) (x7 := x7) hv hj hcut
  refine ⟨t', y5, y6, y7, ?_, h⟩
  simp only [forL, asgN, List.set]
  rw [e]
theorem drawn_ok {ns : List Int} (hb : ∀ z ∈ ns, Builtin.Int.intBits z ≤ 1048576) (a : Nat) (ha : a < 1000) :
    ∃ t : Tree, m_law_drawn [.fz (.dict [(.none, .tuple (ns.map .int))]), .fz (.int a)] = .ret (.fz t.d) [.fz (.dict [(.none, .tuple (ns.map .int))]), .fz (.int a)] ∧ t.V ∧ t.fu ≤ 12 ∧ t.sz ≤ 100 := by
  obtain ⟨ys, e, hl, _⟩ := numbers_ok hb a 24 ha (by omega)
  obtain ⟨y0, y1, y2, y3, y4, y5, y6, y7, y8, y9, y10, y11, y12, y13, y14, y15, y16, y17, y18, y19, y20, y21, y22, y23, rfl⟩ := len24 hl
  generalize (PyData.dict [(PyData.none, PyData.tuple (ns.map PyData.int))] : D) = S at *
  simp only [List.map_cons, List.map_nil] at e
  generalize hq : ([PyData.int y0, .int y1, .int y2, .int y3, .int y4, .int y5, .int y6, .int y7, .int y8, .int y9, .int y10, .int y11, .int y12, .int y13, .int y14, .int y15, .int y16, .int y17, .int y18, .int y19, .int y20, .int y21, .int y22, .int y23] : List D) = q at *
  have q0 : q[0]? = some (.int y0) := by subst hq; rfl
  have q18 : q[18]? = some (.int y18) := by subst hq; rfl
  have q19 : q[19]? = some (.int y19) := by subst hq; rfl
  have c1 : cutD q (some 1) none = .int y1 :: .int y2 :: .int y3 :: [.int y4, .int y5, .int y6, .int y7, .int y8, .int y9, .int y10, .int y11, .int y12, .int y13, .int y14, .int y15, .int y16, .int y17, .int y18, .int y19, .int y20, .int y21, .int y22, .int y23] := by subst hq; rfl
  have c5 : cutD q (some (5 + 6 * 0)) (some (11 + 6 * 0)) = [.int y5, .int y6, .int y7, .int y8, .int y9, .int y10] := by subst hq; rfl
  have c11 : cutD q (some (5 + 6 * 1)) (some (11 + 6 * 1)) = [.int y11, .int y12, .int y13, .int y14, .int y15, .int y16] := by subst hq; rfl
  obtain ⟨t, et, hv, hf, hz⟩ := leaf_ok y1 y2 y3 [.int y4, .int y5, .int y6, .int y7, .int y8, .int y9, .int y10, .int y11, .int y12, .int y13, .int y14, .int y15, .int y16, .int y17, .int y18, .int y19, .int y20, .int y21, .int y22, .int y23] true
  have loop : ∃ (t' : Tree) (z4 z5 z6 z7 : Sl), d3 [.fz S, .fz (.int a), .ow (.list q), .fz t.d, .un, .un, .un, .un] = .nx [.fz S, .fz (.int a), .ow (.list q), .fz t'.d, z4, z5, z6, z7] ∧ t'.V ∧ t'.fu ≤ 7 ∧ t'.sz ≤ 14 := by
    obtain ⟨t1, z5, z6, z7, e1, v1, f1, s1⟩ := dstep (S := .fz S) (a := .fz (.int a)) (ys := q) (t := t) (x4 := .un) (x5 := .un) (x6 := .un) (x7 := .un) (rest := []) (j := 0) hv (by decide) c5
    have h2 : y0 % 2 = 0 ∨ y0 % 2 = 1 := by omega
    rcases h2 with h2 | h2
    · refine ⟨t1, .fz (.int 0), z5, z6, z7, ?_, v1, by omega, by omega⟩
      simp only [d3, forE]
      rw [d3_rng (n := 1) q0 (by omega)]
      exact e1
    · obtain ⟨t2, w5, w6, w7, e2, v2, f2, s2⟩ := dstep (S := .fz S) (a := .fz (.int a)) (ys := q) (t := t) (x4 := .un) (x5 := .un) (x6 := .un) (x7 := .un) (rest := [.int 1]) (j := 0) hv (by decide) c5
      obtain ⟨t3, u5, u6, u7, e3, v3, f3, s3⟩ := dstep (S := .fz S) (a := .fz (.int a)) (ys := q) (t := t2) (x4 := .fz (.int 0)) (x5 := w5) (x6 := w6) (x7 := w7) (rest := []) (j := 1) v2 (by decide) c11
      refine ⟨t3, .fz (.int 1), u5, u6, u7, ?_, v3, by omega, by omega⟩
      simp only [d3, forE]
      rw [d3_rng (n := 2) q0 (by omega)]
      exact e2.trans e3
  obtain ⟨t', z4, z5, z6, z7, e3, v3, f3, s3⟩ := loop
  obtain ⟨t4, e4, v4, f4, s4⟩ := d_tail (S := .fz S) (a := .fz (.int a)) (x4 := z4) (x5 := z5) (x6 := z6) (x7 := z7) q18 q19 v3
  refine ⟨t4, ?_, v4, by omega, by omega⟩
  refine Eq.trans ?_ e4
  show outF [0, 1] 2 (g_law_drawn [.fz S, .fz (.int a), .un, .un, .un, .un, .un, .un]) = _
  rw [d_eq, hbc (d1_ok e), hbc (d2_ok c1 et), hbc e3]
end k50
end Bv
set_option maxHeartbeats 0
namespace Bv
namespace k50
open PySem L2
theorem cut_to {ds : List D} {K : Nat} (h : K ≤ ds.length) : cutD ds none (some (K : Int)) = ds.take K := by
  unfold cutD HT.sIx
  have h1 : ¬ ((K : Int) < 0) := by omega
  have h2 : min K ds.length = K := by omega
  simp [h1, h2]
theorem cut_from {ds : List D} {K : Nat} : cutD ds (some ((K : Int) + 1)) none = ds.drop (K + 1) := by
  unfold cutD HT.sIx
  have h1 : ¬ ((K : Int) + 1 < 0) := by omega
  have h2 : ((K : Int) + 1).toNat = K + 1 := by omega
  simp only [h1, h2, if_false]
  by_cases h : K + 1 ≤ ds.length
  · have h3 : min (K + 1) ds.length = K + 1 := by omega
    rw [h3, List.take_of_length_le (by simp)]
  · have h3 : min (K + 1) ds.length = ds.length := by omega
    rw [h3]
    rw [List.drop_eq_nil_of_le (Nat.le_refl _), List.drop_eq_nil_of_le (by omega)]
    simp
/-- what stands in for a right instruction -/
def Bad (d : D) (K : Nat) : Prop := m_is_instruction [.fz d, .fz (.int K)] = .ret (.fz (.bool false)) [.fz d, .fz (.int K)]
def body5 : En → So := bCons (setE 7 (quiet (quiet2 (quiet2 (sliceQ (rvar 3) noO (someO (rvar 4))) (dispLQ (qCons (rvar 6) qNil)) gAdd) (sliceQ (rvar 3) (someO (quiet2 (rvar 4) (fun _ => some (.val (.int (1)))) gAdd)) noO) gAdd)))
  (ifE (orE (asBE (loud2 (callE 1 m_law_refusal (quietA (qCons (rvar 7) qNil))) (quiet (rvar 4)) gNe)) (asBE (loud2 (callE 1 m_is_code (quietA (qCons (rvar 7) qNil))) (quiet (fun _ => some (.val (.bool false)))) gIsNotB)))
  (retE 1 (quiet (fun _ => some (.val (.bool false)))))
  bNil)
theorem good_take {ds : List D} (h : Good ds) (K : Nat) : Good (ds.take K) := by
  intro j d hj
  rw [List.getElem?_take] at hj
  split at hj
  · exact h j d hj
  · cases hj
theorem bad_refused {ds more : List D} {d : D} {K : Nat} (h : Good ds) (hK : K < ds.length) (hl : ds.length ≤ 200) (hm : K + 1 + more.length ≤ 200) (hb : Bad d K) : m_check_code [.ow (.list (ds.take K ++ d :: more))] = .ex 1 (.int K) [.fz (.list (ds.take K ++ d :: more))] := by
  have hlen : (ds.take K).length = K := by simp; omega
  have := check_bad (s := .ow (.list (ds.take K ++ d :: more))) (ds := ds.take K) (more := more) (d := d) (.ow _) (good_take h K) (by simp [hlen]; omega) (by rw [hlen]; exact hb)
  rw [hlen] at this
  exact this
theorem turn5 {S nums x2 x5 x7 : Sl} {ds : List D} {d : D} {K : Nat} (h : Good ds) (hK : K < ds.length) (hl : ds.length ≤ 200) (hb : Bad d K) :
    ∃ y7, body5 [S, nums, x2, .fz (.list ds), .fz (.int K), x5, .fz d, x7] = .nx [S, nums, x2, .fz (.list ds), .fz (.int K), x5, .fz d, y7] := by
  have hc := bad_refused (more := ds.drop (K + 1)) h hK hl (by simp; omega) hb
  have hr := ref_bad (d := .list (ds.take K ++ d :: ds.drop (K + 1))) hc (.inr rfl)
  have hc2 := check_bad (s := .fz (.list (ds.take K ++ d :: ds.drop (K + 1)))) (ds := ds.take K) (more := ds.drop (K + 1)) (d := d) (.fz _) (good_take h K) (by simp; omega) (by
    have hlen : (ds.take K).length = K := by simp; omega
    rw [hlen]; exact hb)
  have hi := is_bad (d' := .none) (d := .list (ds.take K ++ d :: ds.drop (K + 1))) hc2 (.inl ⟨rfl, rfl⟩)
  refine ⟨.fz (.list (ds.take K ++ d :: ds.drop (K + 1))), ?_⟩
  have hct := cut_to (ds := ds) (K := K) (by omega)
  have hcf := cut_from (ds := ds) (K := K)
  have hl1 : (ds.take K).length + 1 ≤ 16777216 := by simp; omega
  have hl2 : (ds.take K).length + 1 + (ds.drop (K + 1)).length ≤ 16777216 := by simp; omega
  generalize ds.drop (K + 1) = dr at *
  generalize ds.take K = tk at *
  simp [body5, hct, hcf, hr, hi, hl1, hl2, gSl, fnF, bCons, bNil, setE, quiet, quiet2, rvar, gt, Oe.bindS, mv, So.bind, rd, rdI, gIx, gMod, gDiv, gSub, gAdd, gMul, gPow, gNeg, quiet1, List.set, ifE, quietT, asB, asBE, tru, truE, truth, gEq, gNe, plain0, SeqAt.shaped, PyData.eqv, PyData.eqvAll, PyData.canLay0, PyData.canLayAll0, PyData.depth, PyData.depthAll, Ot.bindS, retE, dispTQ, dispLQ, dispTE, dispLE, qCons, qNil, frzQ, frzE, frz1, mvOut, outF, asOf, line, notQ, notE, andQ, orQ, andE, orE, vAndQ, vOrQ, vAndE, vOrE, Oe.bind, Ot.bind, Oe.bindT, Ot.bindT, Oa.bind, Oa.bindA, Oe.bindA, Oa.bindS, lCons, lNil, quietA, gather, gather1, back, back1, slR, callE, quietN, loudN, rds, gLen, gLt, gLe, gGt, gGe, chainQ, gIsI, isB, gNot, gIs, gIsNot, gIsB, gIsNotB, dropE, retX, matchE, cCons, cNil, mSeq, mCons, mNil, mLit, mCap, mAny, bindE, raiseE, tryE, tryAsE, unSo, isXE, sliceQ, noO, someO, gSl, iteQ, iteE, parE, loud2, loud1, gIn, gNotIn, gAll, shapedL, inL, allB, Oe.bindI, Oa.bindI, seqI, lcE, lcL, wipeE, backE, asgN, yesE, atI_m1, atI_nn, isNone, blt_eq, ble_eq, noPf, gf, rfld, subE, plR, plW, gow, gof, mtQE, mtE, isL, gAppend, methE, newE, isOb, fldE, flOf, setFl]
def body6 : En → So := ifE (asBE (loud2 (callE 1 m_law_refusal (quietA (qCons (quiet2 (quiet2 (sliceQ (rvar 3) noO (someO (rvar 4))) (dispLQ (qCons (rvar 6) qNil)) gAdd) (dispLQ (qCons (fun _ => some (.val .none)) qNil)) gAdd) qNil))) (quiet (rvar 4)) gNe))
  (retE 1 (quiet (fun _ => some (.val (.bool false)))))
  bNil
theorem turn6 {S nums x2 x5 x7 : Sl} {ds : List D} {d : D} {K : Nat} (h : Good ds) (hK : K < ds.length) (hl : ds.length ≤ 198) (hb : Bad d K) :
    body6 [S, nums, x2, .fz (.list ds), .fz (.int K), x5, .fz d, x7] = .nx [S, nums, x2, .fz (.list ds), .fz (.int K), x5, .fz d, x7] := by
  have hc := bad_refused (more := [.none]) h hK (by omega) (by simp; omega) hb
  have hr := ref_bad (d := .list (ds.take K ++ d :: [.none])) hc (.inr rfl)
  have hct := cut_to (ds := ds) (K := K) (by omega)
  have hl1 : (ds.take K).length + 1 ≤ 16777216 := by simp; omega
  have hl2 : (ds.take K).length + 1 + 1 ≤ 16777216 := by simp; omega
  generalize ds.take K = tk at *
  simp [body6, hct, hr, hl1, hl2, gSl, fnF, bCons, bNil, setE, quiet, quiet2, rvar, gt, Oe.bindS, mv, So.bind, rd, rdI, gIx, gMod, gDiv, gSub, gAdd, gMul, gPow, gNeg, quiet1, List.set, ifE, quietT, asB, asBE, tru, truE, truth, gEq, gNe, plain0, SeqAt.shaped, PyData.eqv, PyData.eqvAll, PyData.canLay0, PyData.canLayAll0, PyData.depth, PyData.depthAll, Ot.bindS, retE, dispTQ, dispLQ, dispTE, dispLE, qCons, qNil, frzQ, frzE, frz1, mvOut, outF, asOf, line, notQ, notE, andQ, orQ, andE, orE, vAndQ, vOrQ, vAndE, vOrE, Oe.bind, Ot.bind, Oe.bindT, Ot.bindT, Oa.bind, Oa.bindA, Oe.bindA, Oa.bindS, lCons, lNil, quietA, gather, gather1, back, back1, slR, callE, quietN, loudN, rds, gLen, gLt, gLe, gGt, gGe, chainQ, gIsI, isB, gNot, gIs, gIsNot, gIsB, gIsNotB, dropE, retX, matchE, cCons, cNil, mSeq, mCons, mNil, mLit, mCap, mAny, bindE, raiseE, tryE, tryAsE, unSo, isXE, sliceQ, noO, someO, gSl, iteQ, iteE, parE, loud2, loud1, gIn, gNotIn, gAll, shapedL, inL, allB, Oe.bindI, Oa.bindI, seqI, lcE, lcL, wipeE, backE, asgN, yesE, atI_m1, atI_nn, isNone, blt_eq, ble_eq, noPf, gf, rfld, subE, plR, plW, gow, gof, mtQE, mtE, isL, gAppend, methE, newE, isOb, fldE, flOf, setFl]
theorem loop5 {S nums x2 x5 : Sl} {ds : List D} {K : Nat} (h : Good ds) (hK : K < ds.length) (hl : ds.length ≤ 200) : ∀ (l : List D) (x6 x7 : Sl), (∀ d ∈ l, Bad d K) →
    ∃ y6 y7, forL (asgN 6) body5 l [S, nums, x2, .fz (.list ds), .fz (.int K), x5, x6, x7] = .nx [S, nums, x2, .fz (.list ds), .fz (.int K), x5, y6, y7]
  | [], x6, x7, _ => ⟨x6, x7, rfl⟩
  | d :: l, x6, x7, hb => by
    obtain ⟨y7, e⟩ := turn5 (S := S) (nums := nums) (x2 := x2) (x5 := x5) (x7 := x7) h hK hl (hb d List.mem_cons_self)
    obtain ⟨z6, z7, e2⟩ := loop5 (S := S) (nums := nums) (x2 := x2) (x5 := x5) h hK hl l (.fz d) y7 fun d' hd => hb d' (List.mem_cons_of_mem _ hd)
    refine ⟨z6, z7, ?_⟩
    simp only [forL, asgN, List.set]
    rw [e]
    exact e2
theorem loop6 {S nums x2 x5 x7 : Sl} {ds : List D} {K : Nat} (h : Good ds) (hK : K < ds.length) (hl : ds.length ≤ 198) : ∀ (l : List D) (x6 : Sl), (∀ d ∈ l, Bad d K) →
    ∃ y6, forL (asgN 6) body6 l [S, nums, x2, .fz (.list ds), .fz (.int K), x5, x6, x7] = .nx [S, nums, x2, .fz (.list ds), .fz (.int K), x5, y6, x7]
  | [], x6, _ => ⟨x6, rfl⟩
  | d :: l, x6, hb => by
    have e := turn6 (S := S) (nums := nums) (x2 := x2) (x5 := x5) (x7 := x7) h hK hl (hb d List.mem_cons_self)
    obtain ⟨z6, e2⟩ := loop6 (S := S) (nums := nums) (x2 := x2) (x5 := x5) (x7 := x7) h hK hl l (.fz d) fun d' hd => hb d' (List.mem_cons_of_mem _ hd)
    refine ⟨z6, ?_⟩
    simp only [forL, asgN, List.set]
    rw [e]
    exact e2
def b1 : En → So := setE 3 (callE 1 m_compile_tree (lCons (callE 2 m_law_drawn (quietA (qCons (rvar 0) (qCons (rvar 2) qNil)))) (quietA qNil)))
def b2 : En → So := ifE (orE (asBE (loud2 (callE 1 m_law_refusal (quietA (qCons (rvar 3) qNil))) (quiet (fun _ => some (.val .none))) gIsNot)) (asBE (loud2 (callE 1 m_is_code (quietA (qCons (rvar 3) qNil))) (quiet (fun _ => some (.val (.bool true)))) gIsNotB)))
  (retE 1 (quiet (fun _ => some (.val (.bool false)))))
  bNil
def b3 : En → So := setE 4 (quiet (quiet2 (quiet2 (rvar 1) (rvar 2) gIx) (quietN (qCons (rvar 3) qNil) gLen) gMod))
def b4 : En → So := setE 5 (quiet (dispLQ (qCons (fun _ => some (.val .none)) (qCons (dispTQ qNil) (qCons (fun _ => some (.val (.str "whole"))) (qCons (dispTQ (qCons (fun _ => some (.val (.str "whole"))) qNil)) (qCons (dispTQ (qCons (fun _ => some (.val (.str "whole"))) (qCons (fun _ => some (.val .none)) qNil))) (qCons (dispTQ (qCons (fun _ => some (.val (.str "whole"))) (qCons (fun _ => some (.val (.bool true))) qNil))) (qCons (dispLQ (qCons (fun _ => some (.val (.str "whole"))) (qCons (fun _ => some (.val (.int (1)))) qNil))) (qCons (dispTQ (qCons (fun _ => some (.val (.str "plus"))) (qCons (fun _ => some (.val (.int (0)))) (qCons (rvar 4) qNil)))) (qCons (dispTQ (qCons (fun _ => some (.val (.str "by"))) (qCons (rvar 4) (qCons (fun _ => some (.val (.int (0)))) qNil)))) qNil)))))))))))
def it5 : En → Oi := seqI (quiet (quiet2 (rvar 5) (dispLQ (qCons (dispTQ (qCons (fun _ => some (.val (.str "less"))) (qCons (quiet1 (fun _ => some (.val (.int (1)))) gNeg) (qCons (fun _ => some (.val (.int (0)))) qNil)))) (qCons (dispTQ (qCons (fun _ => some (.val (.str "over"))) (qCons (fun _ => some (.val (.int (0)))) (qCons (fun _ => some (.val .none)) qNil)))) (qCons (dispTQ (qCons (fun _ => some (.val (.str "plus"))) (qCons (fun _ => some (.val (.int (0)))) qNil))) (qCons (dispTQ (qCons (fun _ => some (.val (.str "times"))) (qCons (fun _ => some (.val (.int (0)))) (qCons (fun _ => some (.val (.int (0)))) qNil)))) (qCons (dispTQ (qCons (fun _ => some (.val (.str "root"))) (qCons (fun _ => some (.val (.int (4)))) (qCons (fun _ => some (.val (.int (0)))) qNil)))) (qCons (dispTQ (qCons (fun _ => some (.val (.str "root"))) (qCons (fun _ => some (.val (.int (2)))) (qCons (rvar 4) qNil)))) (qCons (dispTQ (qCons (fun _ => some (.val (.str "root"))) (qCons (fun _ => some (.val (.bool true))) (qCons (fun _ => some (.val (.int (0)))) qNil)))) (qCons (dispTQ (qCons (fun _ => some (.val (.str "root"))) (qCons (fun _ => some (.val (.int (2)))) qNil))) qNil))))))))) gAdd))
def it6 : En → Oi := seqI (quiet (dispLQ (qCons (dispTQ (qCons (fun _ => some (.val (.str "of"))) (qCons (dispTQ qNil) (qCons (fun _ => some (.val (.int (0)))) qNil)))) (qCons (dispTQ (qCons (fun _ => some (.val (.str "of"))) (qCons (dispTQ (qCons (fun _ => some (.val (.int (5)))) qNil)) (qCons (fun _ => some (.val (.int (0)))) qNil)))) (qCons (dispTQ (qCons (fun _ => some (.val (.str "of"))) (qCons (dispTQ (qCons (fun _ => some (.val (.int (1)))) (qCons (fun _ => some (.val (.int (0)))) qNil))) (qCons (fun _ => some (.val (.int (0)))) qNil)))) (qCons (dispTQ (qCons (fun _ => some (.val (.str "of"))) (qCons (dispLQ (qCons (fun _ => some (.val (.int (1)))) (qCons (fun _ => some (.val (.int (1)))) qNil))) (qCons (fun _ => some (.val (.int (0)))) qNil)))) (qCons (dispTQ (qCons (fun _ => some (.val (.str "of"))) (qCons (dispTQ (qCons (fun _ => some (.val (.int (0)))) (qCons (fun _ => some (.val (.int (1)))) qNil))) (qCons (quiet1 (fun _ => some (.val (.int (1)))) gNeg) qNil)))) (qCons (dispTQ (qCons (fun _ => some (.val (.str "of"))) (qCons (dispTQ (qCons (fun _ => some (.val (.int (0)))) (qCons (fun _ => some (.val (.int (1)))) qNil))) (qCons (fun _ => some (.val .none)) qNil)))) (qCons (dispTQ (qCons (fun _ => some (.val (.str "of"))) (qCons (dispTQ (qCons (fun _ => some (.val (.int (0)))) (qCons (fun _ => some (.val (.int (1)))) qNil))) qNil))) (qCons (dispTQ (qCons (fun _ => some (.val (.str "of"))) (qCons (dispTQ (qCons (fun _ => some (.val (.bool true))) (qCons (fun _ => some (.val (.int (1)))) qNil))) (qCons (fun _ => some (.val (.int (0)))) qNil)))) (qCons (dispTQ (qCons (fun _ => some (.val .none)) (qCons (fun _ => some (.val (.int (0)))) (qCons (fun _ => some (.val (.int (0)))) qNil)))) qNil)))))))))))
def bodyA : En → So := bCons b1 (bCons b2 (bCons b3 (bCons b4 (bCons (forE it5 (asgN 6) body5) (forE it6 (asgN 6) body6)))))
theorem b1_ok {S td : D} {nums x3 x4 x5 x6 x7 : Sl} {a : Int} {ds : List D} (h1 : m_law_drawn [.fz S, .fz (.int a)] = .ret (.fz td) [.fz S, .fz (.int a)]) (h2 : m_compile_tree [.fz td] = .ret (.ow (.list ds)) [.fz td]) : b1 [.fz S, nums, .fz (.int a), x3, x4, x5, x6, x7] = .nx [.fz S, nums, .fz (.int a), .ow (.list ds), x4, x5, x6, x7] := by
  simp [b1, h1, h2, fnF, bCons, bNil, setE, quiet, quiet2, rvar, gt, Oe.bindS, mv, So.bind, rd, rdI, gIx, gMod, gDiv, gSub, gAdd, gMul, gPow, gNeg, quiet1, List.set, ifE, quietT, asB, asBE, tru, truE, truth, gEq, gNe, plain0, SeqAt.shaped, PyData.eqv, PyData.eqvAll, PyData.canLay0, PyData.canLayAll0, PyData.depth, PyData.depthAll, Ot.bindS, retE, dispTQ, dispLQ, dispTE, dispLE, qCons, qNil, frzQ, frzE, frz1, mvOut, outF, asOf, line, notQ, notE, andQ, orQ, andE, orE, vAndQ, vOrQ, vAndE, vOrE, Oe.bind, Ot.bind, Oe.bindT, Ot.bindT, Oa.bind, Oa.bindA, Oe.bindA, Oa.bindS, lCons, lNil, quietA, gather, gather1, back, back1, slR, callE, quietN, loudN, rds, gLen, gLt, gLe, gGt, gGe, chainQ, gIsI, isB, gNot, gIs, gIsNot, gIsB, gIsNotB, dropE, retX, matchE, cCons, cNil, mSeq, mCons, mNil, mLit, mCap, mAny, bindE, raiseE, tryE, tryAsE, unSo, isXE, sliceQ, noO, someO, gSl, iteQ, iteE, parE, loud2, loud1, gIn, gNotIn, gAll, shapedL, inL, allB, Oe.bindI, Oa.bindI, seqI, lcE, lcL, wipeE, backE, asgN, yesE, atI_m1, atI_nn, isNone, blt_eq, ble_eq, cutD, HT.sIx, noPf, gf, rfld, subE, plR, plW, gow, gof, mtQE, mtE, isL, gAppend, methE, newE, isOb, fldE, flOf, setFl]
theorem b2_ok {S nums x2 x4 x5 x6 x7 : Sl} {ds : List D} (h : Good ds) (h1 : 1 ≤ ds.length) (h2 : ds.length ≤ 200) : b2 [S, nums, x2, .ow (.list ds), x4, x5, x6, x7] = .nx [S, nums, x2, .fz (.list ds), x4, x5, x6, x7] := by
  have hr := ref_ok (check_good (.ow ds) h h1 h2) (.inr rfl)
  have hi := is_ok (check_good (.fz ds) h h1 h2) (.inl rfl)
  simp [b2, hr, hi, fnF, bCons, bNil, setE, quiet, quiet2, rvar, gt, Oe.bindS, mv, So.bind, rd, rdI, gIx, gMod, gDiv, gSub, gAdd, gMul, gPow, gNeg, quiet1, List.set, ifE, quietT, asB, asBE, tru, truE, truth, gEq, gNe, plain0, SeqAt.shaped, PyData.eqv, PyData.eqvAll, PyData.canLay0, PyData.canLayAll0, PyData.depth, PyData.depthAll, Ot.bindS, retE, dispTQ, dispLQ, dispTE, dispLE, qCons, qNil, frzQ, frzE, frz1, mvOut, outF, asOf, line, notQ, notE, andQ, orQ, andE, orE, vAndQ, vOrQ, vAndE, vOrE, Oe.bind, Ot.bind, Oe.bindT, Ot.bindT, Oa.bind, Oa.bindA, Oe.bindA, Oa.bindS, lCons, lNil, quietA, gather, gather1, back, back1, slR, callE, quietN, loudN, rds, gLen, gLt, gLe, gGt, gGe, chainQ, gIsI, isB, gNot, gIs, gIsNot, gIsB, gIsNotB, dropE, retX, matchE, cCons, cNil, mSeq, mCons, mNil, mLit, mCap, mAny, bindE, raiseE, tryE, tryAsE, unSo, isXE, sliceQ, noO, someO, gSl, iteQ, iteE, parE, loud2, loud1, gIn, gNotIn, gAll, shapedL, inL, allB, Oe.bindI, Oa.bindI, seqI, lcE, lcL, wipeE, backE, asgN, yesE, atI_m1, atI_nn, isNone, blt_eq, ble_eq, cutD, HT.sIx, noPf, gf, rfld, subE, plR, plW, gow, gof, mtQE, mtE, isL, gAppend, methE, newE, isOb, fldE, flOf, setFl]
theorem b3_ok {S x4 x5 x6 x7 : Sl} {ds xs : List D} {a : Nat} {y : Int} {K : Nat} (hy : xs[a]? = some (.int y)) (h1 : 0 < (ds.length : Int)) (hK : y % (ds.length : Int) = (K : Int)) : b3 [S, .ow (.list xs), .fz (.int a), .fz (.list ds), x4, x5, x6, x7] = .nx [S, .ow (.list xs), .fz (.int a), .fz (.list ds), .fz (.int K), x5, x6, x7] := by
  have h1' : 0 < ds.length := by omega
  simp [b3, hy, h1, h1', hK, fnF, bCons, bNil, setE, quiet, quiet2, rvar, gt, Oe.bindS, mv, So.bind, rd, rdI, gIx, gMod, gDiv, gSub, gAdd, gMul, gPow, gNeg, quiet1, List.set, ifE, quietT, asB, asBE, tru, truE, truth, gEq, gNe, plain0, SeqAt.shaped, PyData.eqv, PyData.eqvAll, PyData.canLay0, PyData.canLayAll0, PyData.depth, PyData.depthAll, Ot.bindS, retE, dispTQ, dispLQ, dispTE, dispLE, qCons, qNil, frzQ, frzE, frz1, mvOut, outF, asOf, line, notQ, notE, andQ, orQ, andE, orE, vAndQ, vOrQ, vAndE, vOrE, Oe.bind, Ot.bind, Oe.bindT, Ot.bindT, Oa.bind, Oa.bindA, Oe.bindA, Oa.bindS, lCons, lNil, quietA, gather, gather1, back, back1, slR, callE, quietN, loudN, rds, gLen, gLt, gLe, gGt, gGe, chainQ, gIsI, isB, gNot, gIs, gIsNot, gIsB, gIsNotB, dropE, retX, matchE, cCons, cNil, mSeq, mCons, mNil, mLit, mCap, mAny, bindE, raiseE, tryE, tryAsE, unSo, isXE, sliceQ, noO, someO, gSl, iteQ, iteE, parE, loud2, loud1, gIn, gNotIn, gAll, shapedL, inL, allB, Oe.bindI, Oa.bindI, seqI, lcE, lcL, wipeE, backE, asgN, yesE, atI_m1, atI_nn, isNone, blt_eq, ble_eq, cutD, HT.sIx, noPf, gf, rfld, subE, plR, plW, gow, gof, mtQE, mtE, isL, gAppend, methE, newE, isOb, fldE, flOf, setFl]
theorem b4_ok {S nums x2 x3 x5 x6 x7 : Sl} {k : Int} : b4 [S, nums, x2, x3, .fz (.int k), x5, x6, x7] = .nx [S, nums, x2, x3, .fz (.int k), .ow (.list (odds1 k)), x6, x7] := by
  simp [b4, odds1, fnF, bCons, bNil, setE, quiet, quiet2, rvar, gt, Oe.bindS, mv, So.bind, rd, rdI, gIx, gMod, gDiv, gSub, gAdd, gMul, gPow, gNeg, quiet1, List.set, ifE, quietT, asB, asBE, tru, truE, truth, gEq, gNe, plain0, SeqAt.shaped, PyData.eqv, PyData.eqvAll, PyData.canLay0, PyData.canLayAll0, PyData.depth, PyData.depthAll, Ot.bindS, retE, dispTQ, dispLQ, dispTE, dispLE, qCons, qNil, frzQ, frzE, frz1, mvOut, outF, asOf, line, notQ, notE, andQ, orQ, andE, orE, vAndQ, vOrQ, vAndE, vOrE, Oe.bind, Ot.bind, Oe.bindT, Ot.bindT, Oa.bind, Oa.bindA, Oe.bindA, Oa.bindS, lCons, lNil, quietA, gather, gather1, back, back1, slR, callE, quietN, loudN, rds, gLen, gLt, gLe, gGt, gGe, chainQ, gIsI, isB, gNot, gIs, gIsNot, gIsB, gIsNotB, dropE, retX, matchE, cCons, cNil, mSeq, mCons, mNil, mLit, mCap, mAny, bindE, raiseE, tryE, tryAsE, unSo, isXE, sliceQ, noO, someO, gSl, iteQ, iteE, parE, loud2, loud1, gIn, gNotIn, gAll, shapedL, inL, allB, Oe.bindI, Oa.bindI, seqI, lcE, lcL, wipeE, backE, asgN, yesE, atI_m1, atI_nn, isNone, blt_eq, ble_eq, cutD, HT.sIx, noPf, gf, rfld, subE, plR, plW, gow, gof, mtQE, mtE, isL, gAppend, methE, newE, isOb, fldE, flOf, setFl]
theorem it5_ok {S nums x2 x3 x6 x7 : Sl} {k : Int} : it5 [S, nums, x2, x3, .fz (.int k), .ow (.list (odds1 k)), x6, x7] = .ok (odds1 k ++ odds2 k) [S, nums, x2, x3, .fz (.int k), .ow (.list (odds1 k)), x6, x7] := by
  simp [it5, odds1, odds2, fnF, bCons, bNil, setE, quiet, quiet2, rvar, gt, Oe.bindS, mv, So.bind, rd, rdI, gIx, gMod, gDiv, gSub, gAdd, gMul, gPow, gNeg, quiet1, List.set, ifE, quietT, asB, asBE, tru, truE, truth, gEq, gNe, plain0, SeqAt.shaped, PyData.eqv, PyData.eqvAll, PyData.canLay0, PyData.canLayAll0, PyData.depth, PyData.depthAll, Ot.bindS, retE, dispTQ, dispLQ, dispTE, dispLE, qCons, qNil, frzQ, frzE, frz1, mvOut, outF, asOf, line, notQ, notE, andQ, orQ, andE, orE, vAndQ, vOrQ, vAndE, vOrE, Oe.bind, Ot.bind, Oe.bindT, Ot.bindT, Oa.bind, Oa.bindA, Oe.bindA, Oa.bindS, lCons, lNil, quietA, gather, gather1, back, back1, slR, callE, quietN, loudN, rds, gLen, gLt, gLe, gGt, gGe, chainQ, gIsI, isB, gNot, gIs, gIsNot, gIsB, gIsNotB, dropE, retX, matchE, cCons, cNil, mSeq, mCons, mNil, mLit, mCap, mAny, bindE, raiseE, tryE, tryAsE, unSo, isXE, sliceQ, noO, someO, gSl, iteQ, iteE, parE, loud2, loud1, gIn, gNotIn, gAll, shapedL, inL, allB, Oe.bindI, Oa.bindI, seqI, lcE, lcL, wipeE, backE, asgN, yesE, atI_m1, atI_nn, isNone, blt_eq, ble_eq, cutD, HT.sIx, noPf, gf, rfld, subE, plR, plW, gow, gof, mtQE, mtE, isL, gAppend, methE, newE, isOb, fldE, flOf, setFl]
theorem it6_ok {e : En} : it6 e = .ok odds3 e := by
  simp [it6, odds3, fnF, bCons, bNil, setE, quiet, quiet2, rvar, gt, Oe.bindS, mv, So.bind, rd, rdI, gIx, gMod, gDiv, gSub, gAdd, gMul, gPow, gNeg, quiet1, List.set, ifE, quietT, asB, asBE, tru, truE, truth, gEq, gNe, plain0, SeqAt.shaped, PyData.eqv, PyData.eqvAll, PyData.canLay0, PyData.canLayAll0, PyData.depth, PyData.depthAll, Ot.bindS, retE, dispTQ, dispLQ, dispTE, dispLE, qCons, qNil, frzQ, frzE, frz1, mvOut, outF, asOf, line, notQ, notE, andQ, orQ, andE, orE, vAndQ, vOrQ, vAndE, vOrE, Oe.bind, Ot.bind, Oe.bindT, Ot.bindT, Oa.bind, Oa.bindA, Oe.bindA, Oa.bindS, lCons, lNil, quietA, gather, gather1, back, back1, slR, callE, quietN, loudN, rds, gLen, gLt, gLe, gGt, gGe, chainQ, gIsI, isB, gNot, gIs, gIsNot, gIsB, gIsNotB, dropE, retX, matchE, cCons, cNil, mSeq, mCons, mNil, mLit, mCap, mAny, bindE, raiseE, tryE, tryAsE, unSo, isXE, sliceQ, noO, someO, gSl, iteQ, iteE, parE, loud2, loud1, gIn, gNotIn, gAll, shapedL, inL, allB, Oe.bindI, Oa.bindI, seqI, lcE, lcL, wipeE, backE, asgN, yesE, atI_m1, atI_nn, isNone, blt_eq, ble_eq, cutD, HT.sIx, noPf, gf, rfld, subE, plR, plW, gow, gof, mtQE, mtE, isL, gAppend, methE, newE, isOb, fldE, flOf, setFl]
theorem bodyA_ok {S td : D} {x3 x4 x5 x6 x7 : Sl} {a : Nat} {ds xs : List D} {y : Int} (hd1 : m_law_drawn [.fz S, .fz (.int a)] = .ret (.fz td) [.fz S, .fz (.int a)]) (hd2 : m_compile_tree [.fz td] = .ret (.ow (.list ds)) [.fz td]) (h : Good ds) (h1 : 1 ≤ ds.length) (h2 : ds.length ≤ 198) (hy : xs[a]? = some (.int y)) :
    ∃ y4 y5 y6 y7 : Sl, bodyA [.fz S, .ow (.list xs), .fz (.int a), x3, x4, x5, x6, x7] = .nx [.fz S, .ow (.list xs), .fz (.int a), .fz (.list ds), y4, y5, y6, y7] := by
  have hpos : 0 < (ds.length : Int) := by omega
  have hm0 := Int.emod_nonneg y (show (ds.length : Int) ≠ 0 by omega)
  have hm1 := Int.emod_lt_of_pos y hpos
  obtain ⟨K, hK⟩ : ∃ K : Nat, y % (ds.length : Int) = (K : Int) := ⟨(y % (ds.length : Int)).toNat, by omega⟩
  have hKl : K < ds.length := by omega
  obtain ⟨y6, y7, e5⟩ := loop5 (S := .fz S) (nums := .ow (.list xs)) (x2 := .fz (.int a)) (x5 := .ow (.list (odds1 K))) h hKl (by omega) (odds1 K ++ odds2 K) x6 x7 (fun d hd => by
    rcases List.mem_append.mp hd with hd | hd
    · exact odd1 K (by omega) d hd
    · exact odd2 K (by omega) d hd)
  obtain ⟨z6, e6⟩ := loop6 (S := .fz S) (nums := .ow (.list xs)) (x2 := .fz (.int a)) (x5 := .ow (.list (odds1 K))) (x7 := y7) h hKl h2 odds3 y6 (fun d hd => odd3 K (by omega) d hd)
  refine ⟨.fz (.int K), .ow (.list (odds1 K)), z6, y7, ?_⟩
  unfold bodyA
  rw [hbc (b1_ok hd1 hd2), hbc (b2_ok h h1 (by omega)), hbc (b3_ok hy hpos hK), hbc b4_ok]
  have f5 : forE it5 (asgN 6) body5 [.fz S, .ow (.list xs), .fz (.int a), .fz (.list ds), .fz (.int K), .ow (.list (odds1 K)), x6, x7] = .nx [.fz S, .ow (.list xs), .fz (.int a), .fz (.list ds), .fz (.int K), .ow (.list (odds1 K)), y6, y7] := by
    simp only [forE, it5_ok]
    exact e5
  rw [hbc f5]
  simp only [forE, it6_ok]
  exact e6
/-! ### the whole law -/
def a1 : En → So := setE 1 (callE 3 m_law_numbers (quietA (qCons (rvar 0) (qCons (fun _ => some (.val (.int (3)))) (qCons (fun _ => some (.val (.int (4)))) qNil)))))
def itA : En → Oi := seqI (quiet (dispLQ (qCons (fun _ => some (.val (.int (0)))) (qCons (fun _ => some (.val (.int (1)))) (qCons (fun _ => some (.val (.int (2)))) qNil)))))
def itZ : En → Oi := seqI (quiet (dispLQ (qCons (fun _ => some (.val .none)) (qCons (dispLQ qNil) (qCons (dispTQ qNil) (qCons (quietN (qCons (rvar 3) qNil) gTuple) (qCons (quiet2 (dispLQ (qCons (dispTQ (qCons (fun _ => some (.val (.str "whole"))) (qCons (fun _ => some (.val (.int (1)))) qNil))) qNil)) (fun _ => some (.val (.int (201)))) gMul) (qCons (fun _ => some (.val (.str "a"))) qNil))))))))
def bodyZ : En → So := ifE (orE (asBE (loud2 (callE 1 m_law_refusal (quietA (qCons (rvar 6) qNil))) (quiet (quiet1 (fun _ => some (.val (.int (1)))) gNeg)) gNe)) (asBE (loud2 (callE 1 m_is_code (quietA (qCons (rvar 6) qNil))) (quiet (fun _ => some (.val (.bool false)))) gIsNotB)))
  (retE 1 (quiet (fun _ => some (.val (.bool false)))))
  bNil
def rZ : En → So := retE 1 (vAndE (loud2 (callE 1 m_law_refusal (quietA (qCons (quiet2 (dispLQ (qCons (dispTQ (qCons (fun _ => some (.val (.str "whole"))) (qCons (fun _ => some (.val (.int (1)))) qNil))) qNil)) (fun _ => some (.val (.int (200)))) gMul) qNil))) (quiet (fun _ => some (.val .none))) gIs) (loud2 (callE 1 m_law_refusal (quietA (qCons (dispLQ (qCons (dispTQ (qCons (fun _ => some (.val (.str "whole"))) (qCons (quiet2 (fun _ => some (.val (.int (10)))) (fun _ => some (.val (.int (50)))) gPow) qNil))) (qCons (dispTQ (qCons (fun _ => some (.val (.str "plus"))) (qCons (fun _ => some (.val (.int (0)))) (qCons (fun _ => some (.val (.int (0)))) qNil)))) qNil))) qNil))) (quiet (fun _ => some (.val .none))) gIs))
theorem law_eq : g_law = bCons a1 (bCons (forE itA (asgN 2) bodyA) (bCons (forE itZ (asgN 6) bodyZ) rZ)) := rfl
def w1 : D := .tuple [.str "whole", .int 1]
theorem good_rep (n : Nat) : Good (List.replicate n w1) := by
  intro j d hj
  rw [List.getElem?_replicate] at hj
  split at hj
  · cases hj; exact .whole _ _
  · cases hj
theorem a1_ok {S : D} {xs : List D} (h : m_law_numbers [.fz S, .fz (.int 3), .fz (.int 4)] = .ret (.ow (.list xs)) [.fz S, .fz (.int 3), .fz (.int 4)]) : a1 [.fz S, .un, .un, .un, .un, .un, .un, .un] = .nx [.fz S, .ow (.list xs), .un, .un, .un, .un, .un, .un] := by
  simp [a1, h, fnF, bCons, bNil, setE, quiet, quiet2, rvar, gt, Oe.bindS, mv, So.bind, rd, rdI, gIx, gMod, gDiv, gSub, gAdd, gMul, gPow, gNeg, quiet1, List.set, ifE, quietT, asB, asBE, tru, truE, truth, gEq, gNe, plain0, SeqAt.shaped, PyData.eqv, PyData.eqvAll, PyData.canLay0, PyData.canLayAll0, PyData.depth, PyData.depthAll, Ot.bindS, retE, dispTQ, dispLQ, dispTE, dispLE, qCons, qNil, frzQ, frzE, frz1, mvOut, outF, asOf, line, notQ, notE, andQ, orQ, andE, orE, vAndQ, vOrQ, vAndE, vOrE, Oe.bind, Ot.bind, Oe.bindT, Ot.bindT, Oa.bind, Oa.bindA, Oe.bindA, Oa.bindS, lCons, lNil, quietA, gather, gather1, back, back1, slR, callE, quietN, loudN, rds, gLen, gLt, gLe, gGt, gGe, chainQ, gIsI, isB, gNot, gIs, gIsNot, gIsB, gIsNotB, dropE, retX, matchE, cCons, cNil, mSeq, mCons, mNil, mLit, mCap, mAny, bindE, raiseE, tryE, tryAsE, unSo, isXE, sliceQ, noO, someO, gSl, iteQ, iteE, parE, loud2, loud1, gIn, gNotIn, gAll, shapedL, inL, allB, Oe.bindI, Oa.bindI, seqI, lcE, lcL, wipeE, backE, asgN, yesE, atI_m1, atI_nn, isNone, blt_eq, ble_eq, cutD, HT.sIx, noPf, gf, rfld, subE, plR, plW, gow, gof, mtQE, mtE, isL, gAppend, methE, newE, isOb, fldE, flOf, setFl]
theorem itA_ok {e : En} : itA e = .ok [.int 0, .int 1, .int 2] e := by
  simp [itA, fnF, bCons, bNil, setE, quiet, quiet2, rvar, gt, Oe.bindS, mv, So.bind, rd, rdI, gIx, gMod, gDiv, gSub, gAdd, gMul, gPow, gNeg, quiet1, List.set, ifE, quietT, asB, asBE, tru, truE, truth, gEq, gNe, plain0, SeqAt.shaped, PyData.eqv, PyData.eqvAll, PyData.canLay0, PyData.canLayAll0, PyData.depth, PyData.depthAll, Ot.bindS, retE, dispTQ, dispLQ, dispTE, dispLE, qCons, qNil, frzQ, frzE, frz1, mvOut, outF, asOf, line, notQ, notE, andQ, orQ, andE, orE, vAndQ, vOrQ, vAndE, vOrE, Oe.bind, Ot.bind, Oe.bindT, Ot.bindT, Oa.bind, Oa.bindA, Oe.bindA, Oa.bindS, lCons, lNil, quietA, gather, gather1, back, back1, slR, callE, quietN, loudN, rds, gLen, gLt, gLe, gGt, gGe, chainQ, gIsI, isB, gNot, gIs, gIsNot, gIsB, gIsNotB, dropE, retX, matchE, cCons, cNil, mSeq, mCons, mNil, mLit, mCap, mAny, bindE, raiseE, tryE, tryAsE, unSo, isXE, sliceQ, noO, someO, gSl, iteQ, iteE, parE, loud2, loud1, gIn, gNotIn, gAll, shapedL, inL, allB, Oe.bindI, Oa.bindI, seqI, lcE, lcL, wipeE, backE, asgN, yesE, atI_m1, atI_nn, isNone, blt_eq, ble_eq, cutD, HT.sIx, noPf, gf, rfld, subE, plR, plW, gow, gof, mtQE, mtE, isL, gAppend, methE, newE, isOb, fldE, flOf, setFl]
theorem rep_eq (n : Nat) : (List.replicate n [w1]).flatten = List.replicate n w1 := by
  induction n with
  | zero => rfl
  | succ n ih => rw [List.replicate_succ, List.flatten_cons, ih]; rfl
theorem itZ_ok {S x1 x2 x4 x5 x6 x7 : Sl} {ds : List D} : itZ [S, x1, x2, .fz (.list ds), x4, x5, x6, x7] = .ok [.none, .list [], .tuple [], .tuple ds, .list (List.replicate 201 w1), .str "a"] [S, x1, x2, .fz (.list ds), x4, x5, x6, x7] := by
  kernel_rfl
def Off (d : D) : Prop := m_check_code [.fz d] = .ex 1 (.int (-1)) [.fz d]
theorem turnZ {S x1 x2 x3 x4 x5 x7 : Sl} {d : D} (h : Off d) : bodyZ [S, x1, x2, x3, x4, x5, .fz d, x7] = .nx [S, x1, x2, x3, x4, x5, .fz d, x7] := by
  have hr := ref_bad (d := d) h (.inl ⟨rfl, rfl⟩)
  have hi := is_bad (d' := .none) (d := d) h (.inl ⟨rfl, rfl⟩)
  simp [bodyZ, hr, hi, fnF, bCons, bNil, setE, quiet, quiet2, rvar, gt, Oe.bindS, mv, So.bind, rd, rdI, gIx, gMod, gDiv, gSub, gAdd, gMul, gPow, gNeg, quiet1, List.set, ifE, quietT, asB, asBE, tru, truE, truth, gEq, gNe, plain0, SeqAt.shaped, PyData.eqv, PyData.eqvAll, PyData.canLay0, PyData.canLayAll0, PyData.depth, PyData.depthAll, Ot.bindS, retE, dispTQ, dispLQ, dispTE, dispLE, qCons, qNil, frzQ, frzE, frz1, mvOut, outF, asOf, line, notQ, notE, andQ, orQ, andE, orE, vAndQ, vOrQ, vAndE, vOrE, Oe.bind, Ot.bind, Oe.bindT, Ot.bindT, Oa.bind, Oa.bindA, Oe.bindA, Oa.bindS, lCons, lNil, quietA, gather, gather1, back, back1, slR, callE, quietN, loudN, rds, gLen, gLt, gLe, gGt, gGe, chainQ, gIsI, isB, gNot, gIs, gIsNot, gIsB, gIsNotB, dropE, retX, matchE, cCons, cNil, mSeq, mCons, mNil, mLit, mCap, mAny, bindE, raiseE, tryE, tryAsE, unSo, isXE, sliceQ, noO, someO, gSl, iteQ, iteE, parE, loud2, loud1, gIn, gNotIn, gAll, shapedL, inL, allB, Oe.bindI, Oa.bindI, seqI, lcE, lcL, wipeE, backE, asgN, yesE, atI_m1, atI_nn, isNone, blt_eq, ble_eq, cutD, HT.sIx, noPf, gf, rfld, subE, plR, plW, gow, gof, mtQE, mtE, isL, gAppend, methE, newE, isOb, fldE, flOf, setFl]
theorem loopZ {S x1 x2 x3 x4 x5 x7 : Sl} : ∀ (l : List D) (x6 : Sl), (∀ d ∈ l, Off d) → ∃ y6, forL (asgN 6) bodyZ l [S, x1, x2, x3, x4, x5, x6, x7] = .nx [S, x1, x2, x3, x4, x5, y6, x7]
  | [], x6, _ => ⟨x6, rfl⟩
  | d :: l, x6, hb => by
    obtain ⟨z6, e2⟩ := loopZ (S := S) (x1 := x1) (x2 := x2) (x3 := x3) (x4 := x4) (x5 := x5) (x7 := x7) l (.fz d) fun d' hd => hb d' (List.mem_cons_of_mem _ hd)
    refine ⟨z6, ?_⟩
    simp only [forL, asgN, List.set]
    rw [turnZ (hb d List.mem_cons_self)]
    exact e2
theorem offs {ds : List D} : ∀ d ∈ ([.none, .list [], .tuple [], .tuple ds, .list (List.replicate 201 w1), .str "a"] : List D), Off d := by
  intro d hd
  simp only [List.mem_cons, List.not_mem_nil, or_false] at hd
  rcases hd with rfl | rfl | rfl | rfl | rfl | rfl
  · exact check_none rfl
  · exact check_long (.fz []) (.inl rfl)
  · exact check_none rfl
  · exact check_none rfl
  · exact check_long (.fz _) (.inr (by rw [List.length_replicate]; decide))
  · exact check_none rfl
theorem ref200 : m_law_refusal [.ow (.list (List.replicate 200 w1))] = .ret (.fz .none) [.fz (.list (List.replicate 200 w1))] :=
  ref_ok (check_good (.ow _) (good_rep 200) (by rw [List.length_replicate]; decide) (by rw [List.length_replicate]; decide)) (.inr rfl)
theorem ref2 : m_law_refusal [.ow (.list [.tuple [.str "whole", .int (10 ^ 50)], .tuple [.str "plus", .int 0, .int 0]])] = .ret (.fz .none) [.fz (.list [.tuple [.str "whole", .int (10 ^ 50)], .tuple [.str "plus", .int 0, .int 0]])] := by
  refine ref_ok (check_good (.ow _) ?_ (by decide) (by decide)) (.inr rfl)
  intro j d hj
  match j, hj with
  | 0, hj => cases hj; exact .whole _ _
  | 1, hj => cases hj; exact .bin _ _ _ (.inl rfl) (by omega) (by omega)
  | j + 2, hj => simp at hj
theorem rZ_ok {S x1 x2 x3 x4 x5 x6 x7 : Sl} : rZ [S, x1, x2, x3, x4, x5, x6, x7] = .rt (.fz (.bool true)) [S, x1, x2, x3, x4, x5, x6, x7] := by
  kernel_rfl
theorem outZ {e : En} {x : Sl} {es : En} (he : e = x :: es) (g : En → So) (h : g e = .rt (.fz (.bool true)) e) : ∃ as, outF [0] 1 (g e) = .ret (.fz (.bool true)) as := by
  subst he
  rw [h]
  exact ⟨_, rfl⟩
theorem law_true : ∀ ns : List Int, ns.length ≤ 63 → (∀ z ∈ ns, Builtin.Int.intBits z ≤ 1048576) → ∃ as, m_law [.fz (.dict [(.none, .tuple (ns.map .int))])] = .ret (.fz (.bool true)) as := by
  intro ns _ hb
  obtain ⟨xs, en, hl, _⟩ := numbers_ok hb 3 4 (by decide) (by decide)
  obtain ⟨x0, x1, x2, x3, rfl⟩ : ∃ x0 x1 x2 x3 : Int, xs = [x0, x1, x2, x3] := by
    match xs, hl with
    | [x0, x1, x2, x3], _ => exact ⟨x0, x1, x2, x3, rfl⟩
  obtain ⟨t0, d0, v0, f0, s0⟩ := drawn_ok hb 0 (by decide)
  obtain ⟨t1, d1, v1, f1, s1⟩ := drawn_ok hb 1 (by decide)
  obtain ⟨t2, d2, v2, f2, s2⟩ := drawn_ok hb 2 (by decide)
  obtain ⟨c0, k0, g0, l0, m0⟩ := compile_ok t0 v0 f0 (by omega)
  obtain ⟨c1, k1, g1, l1, m1⟩ := compile_ok t1 v1 f1 (by omega)
  obtain ⟨c2, k2, g2, l2, m2⟩ := compile_ok t2 v2 f2 (by omega)
  generalize (PyData.dict [(PyData.none, PyData.tuple (ns.map PyData.int))] : D) = S at *
  simp only [List.map_cons, List.map_nil] at en
  generalize hq : ([.int x0, .int x1, .int x2, .int x3] : List D) = q at *
  have q0 : q[0]? = some (.int x0) := by subst hq; rfl
  have q1 : q[1]? = some (.int x1) := by subst hq; rfl
  have q2 : q[2]? = some (.int x2) := by subst hq; rfl
  obtain ⟨p4, p5, p6, p7, e0⟩ := bodyA_ok (x3 := .un) (x4 := .un) (x5 := .un) (x6 := .un) (x7 := .un) d0 k0 g0 l0 (by omega) q0
  obtain ⟨r4, r5, r6, r7, e1⟩ := bodyA_ok (x3 := .fz (.list c0)) (x4 := p4) (x5 := p5) (x6 := p6) (x7 := p7) d1 k1 g1 l1 (by omega) q1
  obtain ⟨u4, u5, u6, u7, e2⟩ := bodyA_ok (x3 := .fz (.list c1)) (x4 := r4) (x5 := r5) (x6 := r6) (x7 := r7) d2 k2 g2 l2 (by omega) q2
  have fA : forE itA (asgN 2) bodyA [.fz S, .ow (.list q), .un, .un, .un, .un, .un, .un] = .nx [.fz S, .ow (.list q), .fz (.int ((2 : Nat) : Int)), .fz (.list c2), u4, u5, u6, u7] := by
    simp only [forE, itA_ok, forL, asgN, List.set]
    rw [show ([Sl.fz S, .ow (.list q), .fz (.int 0), .un, .un, .un, .un, .un] : En) = [.fz S, .ow (.list q), .fz (.int ((0 : Nat) : Int)), .un, .un, .un, .un, .un] from rfl, e0]
    simp only [List.set]
    rw [show ([Sl.fz S, .ow (.list q), .fz (.int 1), .fz (.list c0), p4, p5, p6, p7] : En) = [.fz S, .ow (.list q), .fz (.int ((1 : Nat) : Int)), .fz (.list c0), p4, p5, p6, p7] from rfl, e1]
    simp only [List.set]
    rw [show ([Sl.fz S, .ow (.list q), .fz (.int 2), .fz (.list c1), r4, r5, r6, r7] : En) = [.fz S, .ow (.list q), .fz (.int ((2 : Nat) : Int)), .fz (.list c1), r4, r5, r6, r7] from rfl, e2]
  obtain ⟨y6, eZ⟩ := loopZ (S := .fz S) (x1 := .ow (.list q)) (x2 := .fz (.int ((2 : Nat) : Int))) (x3 := .fz (.list c2)) (x4 := u4) (x5 := u5) (x7 := u7) _ u6 (offs (ds := c2))
  have fZ : forE itZ (asgN 6) bodyZ [.fz S, .ow (.list q), .fz (.int ((2 : Nat) : Int)), .fz (.list c2), u4, u5, u6, u7] = .nx [.fz S, .ow (.list q), .fz (.int ((2 : Nat) : Int)), .fz (.list c2), u4, u5, y6, u7] := by
    simp only [forE, itZ_ok]
    exact eZ
  have key : g_law [.fz S, .un, .un, .un, .un, .un, .un, .un] = .rt (.fz (.bool true)) [.fz S, .ow (.list q), .fz (.int ((2 : Nat) : Int)), .fz (.list c2), u4, u5, y6, u7] := by
    rw [law_eq, hbc (a1_ok en), hbc fA, hbc fZ, rZ_ok]
  refine ⟨[.fz S], ?_⟩
  show outF [0] 1 (g_law [.fz S, .un, .un, .un, .un, .un, .un, .un]) = _
  rw [key]
  rfl
end k50
end Bv
set_option maxHeartbeats 0
namespace Bv
namespace k50
open PySem PySem.Spec L2 PyProof.Rows PySem.W
theorem all_mk {l : PySem.W.OpenLaw} {w : World} {K : PySem.W.Frag} {h : Heap} {mg : Str → Option Value} {fa C0 X0 X1 I0 I1 R_RootError f0 f1 f2 f3 f4 f5 f6 f7 f8 f9 f10 f11 f12 f13 f14 f15 f16 : Addr} (X : K.In h) (G : h.Ns mainGlobals mg) (hfa : mg "law" = some (.ref fa))
    {nmx0 qx0 : Str} {Nx0 : Addr} {bsx0 : List Value} {snx0 : List Str} {subx0 : List Value} {abx0 : Bool} {colx0 : Option Bool} {ddx0 : Option Addr} {m0x0 m1x0 m2x0 m3x0 m5x0 : Option Value} {ocx0 dcx0 pmx0 cdx0 ctx0 : Value} {odx0 anx0 : Option Addr} {slx0 : Array (Option Value)} {nmx1 qx1 : Str} {Nx1 : Addr} {bsx1 : List Value} {snx1 : List Str} {subx1 : List Value} {abx1 : Bool} {colx1 : Option Bool} {ddx1 : Option Addr} {m0x1 m1x1 m2x1 m3x1 m5x1 : Option Value} {ocx1 dcx1 pmx1 cdx1 ctx1 : Value} {odx1 anx1 : Option Addr} {slx1 : Array (Option Value)} {oc0 kV0 dc0 pm0 cd0 ct0 : Value} {od0 an0 : Option Addr} {sl0 : Array (Option Value)} {oc1 kV1 dc1 pm1 cd1 ct1 : Value} {od1 an1 : Option Addr} {sl1 : Array (Option Value)} {oc2 kV2 dc2 pm2 cd2 ct2 : Value} {od2 an2 : Option Addr} {sl2 : Array (Option Value)} {oc3 kV3 dc3 pm3 cd3 ct3 : Value} {od3 an3 : Option Addr} {sl3 : Array (Option Value)} {oc4 kV4 dc4 pm4 cd4 ct4 : Value} {od4 an4 : Option Addr} {sl4 : Array (Option Value)} {oc5 kV5 dc5 pm5 cd5 ct5 : Value} {od5 an5 : Option Addr} {sl5 : Array (Option Value)} {oc6 kV6 dc6 pm6 cd6 ct6 : Value} {od6 an6 : Option Addr} {sl6 : Array (Option Value)} {oc7 kV7 dc7 pm7 cd7 ct7 : Value} {od7 an7 : Option Addr} {sl7 : Array (Option Value)} {oc8 kV8 dc8 pm8 cd8 ct8 : Value} {od8 an8 : Option Addr} {sl8 : Array (Option Value)} {oc9 kV9 dc9 pm9 cd9 ct9 : Value} {od9 an9 : Option Addr} {sl9 : Array (Option Value)} {oc10 kV10 dc10 pm10 cd10 ct10 : Value} {od10 an10 : Option Addr} {sl10 : Array (Option Value)} {oc11 kV11 dc11 pm11 cd11 ct11 : Value} {od11 an11 : Option Addr} {sl11 : Array (Option Value)} {oc12 kV12 dc12 pm12 cd12 ct12 : Value} {od12 an12 : Option Addr} {sl12 : Array (Option Value)} {oc13 kV13 dc13 pm13 cd13 ct13 : Value} {od13 an13 : Option Addr} {sl13 : Array (Option Value)} {oc14 kV14 dc14 pm14 cd14 ct14 : Value} {od14 an14 : Option Addr} {sl14 : Array (Option Value)} {oc15 kV15 dc15 pm15 cd15 ct15 : Value} {od15 an15 : Option Addr} {sl15 : Array (Option Value)} {oc16 kV16 dc16 pm16 cd16 ct16 : Value} {od16 an16 : Option Addr} {sl16 : Array (Option Value)} {t_MOST_DEGREE : Tok} {t_MOST_COEFFICIENT : Tok} {t_MOST_CODE : Tok} {t_WRONG : Tok} {a_TWO : Addr} {od_TWO : Option Addr} {n_TWO : Nat} {sl_TWO : Array (Option Value)} {t_TWO_0 t_TWO_1 t_TWO_2 t_TWO_3 : Tok}
    (aX0 : nsIn K mainGlobals "BadText" = some (some (.ref X0)))
    (aX1 : nsIn K mainGlobals "BadCode" = some (some (.ref X1)))
    (lX0 : K.lookup X0 = some (excClassObj nmx0 qx0 X0 Nx0 bsx0 [.ref R_RootError, .type "ValueError", .type "Exception", .type "BaseException", .type "object"] true snx0 subx0 abx0 colx0 ddx0 m0x0 m1x0 m2x0 m3x0 m5x0 "ValueError.__new__"))
    (saX0 : findIn K (.ref X0) "__setattr__" = some (some (.builtin "object.__setattr__")))
    (gaX0 : findIn K (.ref X0) "__getattribute__" = some (some (.builtin "BaseException.__getattribute__")))
    (ggX0 : findIn K (.ref X0) "__getattr__" = some none)
    (nbX0 : findIn K (.ref X0) "index" = some none)
    (iX0 : findIn K (.ref X0) "__init__" = some (some (.ref I0)))
    (tiX0 : typeIn K (.ref I0) = some (.type "function"))
    (fX0 : K.lookup I0 = some ⟨ocx0, odx0, .func (fnOf "__init__" "BadText.__init__" (PySem.Exindex.iA ⟨6, 17, 6, 21⟩ ⟨6, 23, 6, 28⟩) (PySem.Exindex.iB ⟨7, 8, 7, 12⟩ ⟨7, 8, 7, 18⟩ ⟨7, 21, 7, 26⟩ ⟨7, 8, 7, 26⟩) PySem.Exindex.iS .none .none dcx0 pmx0 anx0 cdx0 ctx0), slx0⟩)
    (cX0 : codeIn K cdx0 "BadText.__init__" = true)
    (kX0 : keepIn K (.ref X0) = true)
    (eX0 : subIn K (.ref X0) (.type "BaseException") = some true)
    (tX0 : typeIn K (.ref X0) = some (.type "type"))
    (hX0 : hasDictIn K X0 = true)
    (clX0 : isClsIn K X0 = true)
    (dX0 : findIn K (.ref X0) "__class__" = some (some (.builtin "object.__class__")))
    (mX0 : mroIn K X0 (.type "object") = some true)
    (s0_0 : subIn K (.ref X0) (.ref X0) = some true)
    (s0_1 : subIn K (.ref X0) (.ref X1) = some false)
    (lX1 : K.lookup X1 = some (excClassObj nmx1 qx1 X1 Nx1 bsx1 [.ref R_RootError, .type "ValueError", .type "Exception", .type "BaseException", .type "object"] true snx1 subx1 abx1 colx1 ddx1 m0x1 m1x1 m2x1 m3x1 m5x1 "ValueError.__new__"))
    (saX1 : findIn K (.ref X1) "__setattr__" = some (some (.builtin "object.__setattr__")))
    (gaX1 : findIn K (.ref X1) "__getattribute__" = some (some (.builtin "BaseException.__getattribute__")))
    (ggX1 : findIn K (.ref X1) "__getattr__" = some none)
    (nbX1 : findIn K (.ref X1) "index" = some none)
    (iX1 : findIn K (.ref X1) "__init__" = some (some (.ref I1)))
    (tiX1 : typeIn K (.ref I1) = some (.type "function"))
    (fX1 : K.lookup I1 = some ⟨ocx1, odx1, .func (fnOf "__init__" "BadCode.__init__" (PySem.Exindex.iA ⟨10, 17, 10, 21⟩ ⟨10, 23, 10, 28⟩) (PySem.Exindex.iB ⟨11, 8, 11, 12⟩ ⟨11, 8, 11, 18⟩ ⟨11, 21, 11, 26⟩ ⟨11, 8, 11, 26⟩) PySem.Exindex.iS .none .none dcx1 pmx1 anx1 cdx1 ctx1), slx1⟩)
    (cX1 : codeIn K cdx1 "BadCode.__init__" = true)
    (kX1 : keepIn K (.ref X1) = true)
    (eX1 : subIn K (.ref X1) (.type "BaseException") = some true)
    (tX1 : typeIn K (.ref X1) = some (.type "type"))
    (hX1 : hasDictIn K X1 = true)
    (clX1 : isClsIn K X1 = true)
    (dX1 : findIn K (.ref X1) "__class__" = some (some (.builtin "object.__class__")))
    (mX1 : mroIn K X1 (.type "object") = some true)
    (s1_0 : subIn K (.ref X1) (.ref X0) = some false)
    (s1_1 : subIn K (.ref X1) (.ref X1) = some true)
    (spc : specialIn K (.builtin "object.__class__") "__get__" = some (some (.builtin "getset_descriptor.__get__")))
    (tkc : takesIn K (.builtin "object.__class__") = some true)
    (aC0 : nsIn K mainGlobals "Writer" = some (some (.ref C0)))
    (pgC0 : plainGet K C0 Str.empty = true)
    (hdC0 : hasDictIn K C0 = true)
    (poC0 : plainOver K C0 = true)
    (saC0 : findIn K (.ref C0) "__setattr__" = some (some (.builtin "object.__setattr__")))
    (mkC0 : makesIn K C0 = true)
    (kC0 : keepIn K (.ref C0) = true)
    (n0_0 : findIn K (.ref C0) "code" = some none)
    (n0_1 : findIn K (.ref C0) "known" = some none)
    (a0 : nsIn K mainGlobals "is_whole" = some (some (.ref f0)))
    (l0 : K.lookup f0 = some ⟨oc0, od0, .func (fnOf "is_whole" "is_whole" (defArgs s_is_whole) (defBody s_is_whole) (defScope s_is_whole) .none kV0 dc0 pm0 an0 cd0 ct0), sl0⟩)
    (c0 : codeIn K cd0 "is_whole" = true)
    (k0 : keepIn K (.ref f0) = true)
    (a1 : nsIn K mainGlobals "is_polynomial_form" = some (some (.ref f1)))
    (l1 : K.lookup f1 = some ⟨oc1, od1, .func (fnOf "is_polynomial_form" "is_polynomial_form" (defArgs s_is_polynomial_form) (defBody s_is_polynomial_form) (defScope s_is_polynomial_form) .none kV1 dc1 pm1 an1 cd1 ct1), sl1⟩)
    (c1 : codeIn K cd1 "is_polynomial_form" = true)
    (k1 : keepIn K (.ref f1) = true)
    (a2 : nsIn K mainGlobals "is_polynomial" = some (some (.ref f2)))
    (l2 : K.lookup f2 = some ⟨oc2, od2, .func (fnOf "is_polynomial" "is_polynomial" (defArgs s_is_polynomial) (defBody s_is_polynomial) (defScope s_is_polynomial) .none kV2 dc2 pm2 an2 cd2 ct2), sl2⟩)
    (c2 : codeIn K cd2 "is_polynomial" = true)
    (k2 : keepIn K (.ref f2) = true)
    (a3 : nsIn K mainGlobals "is_lower" = some (some (.ref f3)))
    (l3 : K.lookup f3 = some ⟨oc3, od3, .func (fnOf "is_lower" "is_lower" (defArgs s_is_lower) (defBody s_is_lower) (defScope s_is_lower) .none kV3 dc3 pm3 an3 cd3 ct3), sl3⟩)
    (c3 : codeIn K cd3 "is_lower" = true)
    (k3 : keepIn K (.ref f3) = true)
    (a4 : nsIn K mainGlobals "is_instruction" = some (some (.ref f4)))
    (l4 : K.lookup f4 = some ⟨oc4, od4, .func (fnOf "is_instruction" "is_instruction" (defArgs s_is_instruction) (defBody s_is_instruction) (defScope s_is_instruction) .none kV4 dc4 pm4 an4 cd4 ct4), sl4⟩)
    (c4 : codeIn K cd4 "is_instruction" = true)
    (k4 : keepIn K (.ref f4) = true)
    (a5 : nsIn K mainGlobals "check_code" = some (some (.ref f5)))
    (l5 : K.lookup f5 = some ⟨oc5, od5, .func (fnOf "check_code" "check_code" (defArgs s_check_code) (defBody s_check_code) (defScope s_check_code) .none kV5 dc5 pm5 an5 cd5 ct5), sl5⟩)
    (c5 : codeIn K cd5 "check_code" = true)
    (k5 : keepIn K (.ref f5) = true)
    (a6 : nsIn K mainGlobals "is_code" = some (some (.ref f6)))
    (l6 : K.lookup f6 = some ⟨oc6, od6, .func (fnOf "is_code" "is_code" (defArgs s_is_code) (defBody s_is_code) (defScope s_is_code) .none kV6 dc6 pm6 an6 cd6 ct6), sl6⟩)
    (c6 : codeIn K cd6 "is_code" = true)
    (k6 : keepIn K (.ref f6) = true)
    (a7 : findIn K (.ref C0) "__init__" = some (some (.ref f7)))
    (i7 : isFn K (.ref f7) = true)
    (l7 : K.lookup f7 = some ⟨oc7, od7, .func (fnOf "__init__" "Writer.__init__" (defArgs s_Writer_init) (defBody s_Writer_init) (defScope s_Writer_init) .none kV7 dc7 pm7 an7 cd7 ct7), sl7⟩)
    (c7 : codeIn K cd7 "Writer.__init__" = true)
    (k7 : keepIn K (.ref f7) = true)
    (a8 : findIn K (.ref C0) "told" = some (some (.ref f8)))
    (i8 : isFn K (.ref f8) = true)
    (l8 : K.lookup f8 = some ⟨oc8, od8, .func (fnOf "told" "Writer.told" (defArgs s_Writer_told) (defBody s_Writer_told) (defScope s_Writer_told) .none kV8 dc8 pm8 an8 cd8 ct8), sl8⟩)
    (c8 : codeIn K cd8 "Writer.told" = true)
    (k8 : keepIn K (.ref f8) = true)
    (a9 : findIn K (.ref C0) "write" = some (some (.ref f9)))
    (i9 : isFn K (.ref f9) = true)
    (l9 : K.lookup f9 = some ⟨oc9, od9, .func (fnOf "write" "Writer.write" (defArgs s_Writer_write) (defBody s_Writer_write) (defScope s_Writer_write) .none kV9 dc9 pm9 an9 cd9 ct9), sl9⟩)
    (c9 : codeIn K cd9 "Writer.write" = true)
    (k9 : keepIn K (.ref f9) = true)
    (a10 : findIn K (.ref C0) "write_power" = some (some (.ref f10)))
    (i10 : isFn K (.ref f10) = true)
    (l10 : K.lookup f10 = some ⟨oc10, od10, .func (fnOf "write_power" "Writer.write_power" (defArgs s_Writer_write_power) (defBody s_Writer_write_power) (defScope s_Writer_write_power) .none kV10 dc10 pm10 an10 cd10 ct10), sl10⟩)
    (c10 : codeIn K cd10 "Writer.write_power" = true)
    (k10 : keepIn K (.ref f10) = true)
    (a11 : nsIn K mainGlobals "compile_tree" = some (some (.ref f11)))
    (l11 : K.lookup f11 = some ⟨oc11, od11, .func (fnOf "compile_tree" "compile_tree" (defArgs s_compile_tree) (defBody s_compile_tree) (defScope s_compile_tree) .none kV11 dc11 pm11 an11 cd11 ct11), sl11⟩)
    (c11 : codeIn K cd11 "compile_tree" = true)
    (k11 : keepIn K (.ref f11) = true)
    (a12 : nsIn K mainGlobals "_law_numbers" = some (some (.ref f12)))
    (l12 : K.lookup f12 = some ⟨oc12, od12, .func (fnOf "_law_numbers" "_law_numbers" (defArgs s_law_numbers) (defBody s_law_numbers) (defScope s_law_numbers) .none kV12 dc12 pm12 an12 cd12 ct12), sl12⟩)
    (c12 : codeIn K cd12 "_law_numbers" = true)
    (k12 : keepIn K (.ref f12) = true)
    (a13 : nsIn K mainGlobals "_law_leaf" = some (some (.ref f13)))
    (l13 : K.lookup f13 = some ⟨oc13, od13, .func (fnOf "_law_leaf" "_law_leaf" (defArgs s_law_leaf) (defBody s_law_leaf) (defScope s_law_leaf) .none kV13 dc13 pm13 an13 cd13 ct13), sl13⟩)
    (c13 : codeIn K cd13 "_law_leaf" = true)
    (k13 : keepIn K (.ref f13) = true)
    (a14 : nsIn K mainGlobals "_law_drawn" = some (some (.ref f14)))
    (l14 : K.lookup f14 = some ⟨oc14, od14, .func (fnOf "_law_drawn" "_law_drawn" (defArgs s_law_drawn) (defBody s_law_drawn) (defScope s_law_drawn) .none kV14 dc14 pm14 an14 cd14 ct14), sl14⟩)
    (c14 : codeIn K cd14 "_law_drawn" = true)
    (k14 : keepIn K (.ref f14) = true)
    (a15 : nsIn K mainGlobals "_law_refusal" = some (some (.ref f15)))
    (l15 : K.lookup f15 = some ⟨oc15, od15, .func (fnOf "_law_refusal" "_law_refusal" (defArgs s_law_refusal) (defBody s_law_refusal) (defScope s_law_refusal) .none kV15 dc15 pm15 an15 cd15 ct15), sl15⟩)
    (c15 : codeIn K cd15 "_law_refusal" = true)
    (k15 : keepIn K (.ref f15) = true)
    (a16 : nsIn K mainGlobals "law" = some (some (.ref f16)))
    (l16 : K.lookup f16 = some ⟨oc16, od16, .func (fnOf "law" "law" (defArgs s_law) (defBody s_law) (defScope s_law) .none kV16 dc16 pm16 an16 cd16 ct16), sl16⟩)
    (c16 : codeIn K cd16 "law" = true)
    (k16 : keepIn K (.ref f16) = true)
    (z_all : nsIn K mainGlobals "all" = some none)
    (z_bool : nsIn K mainGlobals "bool" = some none)
    (z_enumerate : nsIn K mainGlobals "enumerate" = some none)
    (z_int : nsIn K mainGlobals "int" = some none)
    (z_isinstance : nsIn K mainGlobals "isinstance" = some none)
    (z_len : nsIn K mainGlobals "len" = some none)
    (z_list : nsIn K mainGlobals "list" = some none)
    (z_range : nsIn K mainGlobals "range" = some none)
    (z_str : nsIn K mainGlobals "str" = some none)
    (z_tuple : nsIn K mainGlobals "tuple" = some none)
    (q_MOST_DEGREE : nsIn K mainGlobals "MOST_DEGREE" = some (some (.int (24) t_MOST_DEGREE)))
    (q_MOST_COEFFICIENT : nsIn K mainGlobals "MOST_COEFFICIENT" = some (some (.int (10000000000000000000000000000000000000000) t_MOST_COEFFICIENT)))
    (q_MOST_CODE : nsIn K mainGlobals "MOST_CODE" = some (some (.int (200) t_MOST_CODE)))
    (q_WRONG : nsIn K mainGlobals "WRONG" = some (some (.int (-1) t_WRONG)))
    (q_TWO : nsIn K mainGlobals "TWO" = some (some (.ref a_TWO)))
    (v_TWO : K.lookup a_TWO = some ⟨.type "tuple", od_TWO, .seq #[.str "plus" t_TWO_0, .str "less" t_TWO_1, .str "by" t_TWO_2, .str "over" t_TWO_3] n_TWO, sl_TWO⟩)
    : ∃ fd : FuncData, (∀ (s : Shared) (v : Value), BindsTo s fd ⟨[v], []⟩ [("script", v)]) ∧ ∀ base : Heap, K.In base → base.Ns mainGlobals mg → FnOk l.prog w K mg base (L2.CX l.prog w) 16 fa fd ["script"] (spLaw K) := by
  have e := hfa.symm.trans (mg_of X G a16)
  cases e
  have x_BadText : PySem.Exindex.Txt K mg "BadText" "BadText.__init__" X0 I0 :=
    { gC := mg_of X G aX0, cls := ⟨_, _, _, _, _, _, _, _, _, _, _, _, _, _, _, lX0, rfl⟩, sa := saX0, ga := gaX0, gg := ggX0, noN := nbX0, iC := iX0, tC := tiX0, kC := kX0, exC := eX0, tyC := tX0, hdC := hX0,
      fn := ⟨_, _, _, _, _, _, _, _, _, _, _, _, _, _, fX0, cX0⟩ }
  have xs_0 : XsC (MM w K C0 X0 X1) K X0 := ⟨clX0, gaX0, ggX0, eX0, dX0, spc, tkc, mX0⟩
  have x_BadCode : PySem.Exindex.Txt K mg "BadCode" "BadCode.__init__" X1 I1 :=
    { gC := mg_of X G aX1, cls := ⟨_, _, _, _, _, _, _, _, _, _, _, _, _, _, _, lX1, rfl⟩, sa := saX1, ga := gaX1, gg := ggX1, noN := nbX1, iC := iX1, tC := tiX1, kC := kX1, exC := eX1, tyC := tX1, hdC := hX1,
      fn := ⟨_, _, _, _, _, _, _, _, _, _, _, _, _, _, fX1, cX1⟩ }
  have xs_1 : XsC (MM w K C0 X0 X1) K X1 := ⟨clX1, gaX1, ggX1, eX1, dX1, spc, tkc, mX1⟩
  have T : Tx w K mg C0 X0 X1 I0 I1 := {
    b_all := mg_none_of X G z_all,
    b_bool := mg_none_of X G z_bool,
    b_enumerate := mg_none_of X G z_enumerate,
    b_int := mg_none_of X G z_int,
    b_isinstance := mg_none_of X G z_isinstance,
    b_len := mg_none_of X G z_len,
    b_list := mg_none_of X G z_list,
    b_range := mg_none_of X G z_range,
    b_str := mg_none_of X G z_str,
    b_tuple := mg_none_of X G z_tuple,
    c_MOST_DEGREE := globD_int (mg_of X G q_MOST_DEGREE),
    c_MOST_COEFFICIENT := globD_int (mg_of X G q_MOST_COEFFICIENT),
    c_MOST_CODE := globD_int (mg_of X G q_MOST_CODE),
    c_WRONG := globD_int (mg_of X G q_WRONG),
    c_TWO := globD_tup (vs := [V.str "plus", V.str "less", V.str "by", V.str "over"]) rfl (mg_of X G q_TWO) v_TWO (by show 4 ≤ sizeLine; rw [sizeLine_eq]; decide) (.cons ⟨_, rfl⟩ (.cons ⟨_, rfl⟩ (.cons ⟨_, rfl⟩ (.cons ⟨_, rfl⟩ .nil)))) (fun F => (.cons (.str _) (.cons (.str _) (.cons (.str _) (.cons (.str _) .nil))))),
    k_Writer := ⟨⟨pgC0, hdC0, poC0, saC0⟩, (fun f hf => by
      have hf : f ∈ (["code", "known"] : List Str) := hf
      simp only [List.mem_cons, List.not_mem_nil, or_false] at hf
      rcases hf with rfl | rfl
      · exact n0_0
      · exact n0_1), (show (["code", "known"] : List Str).Nodup by decide +kernel), (show (["code", "known"] : List Str).length < 1000 by decide)⟩,
    x_BadText := x_BadText,
    x_BadCode := x_BadCode,
    g_BadCode := mg_of X G aX1,
    g_BadText := mg_of X G aX0,
    ct_BadCode := (fun c b h => by
      match c with
      | 0 => cases h; exact exm_ref eX1 hX1 tX1 s0_1
      | 1 => cases h; exact exm_ref eX1 hX1 tX1 s1_1
      | _ + 2 => cases h),
    is_BadText := (fun c b h => by
      match c with
      | 0 => cases h; exact ⟨xs_0, kit_of clX0 tX0 s0_0 s0_0⟩
      | 1 => cases h; exact ⟨xs_1, kit_of clX0 tX0 s1_0 s0_0⟩
      | _ + 2 => cases h) }
  have F0 := fun_mk (st := s_is_whole) l0 c0 k0
  have b0 := F0.binds (ps := ["value"]) fun _ _ _ _ _ _ us hl => match us, hl with | [_], _ => rfl
  have F1 := fun_mk (st := s_is_polynomial_form) l1 c1 k1
  have b1 := F1.binds (ps := ["value"]) fun _ _ _ _ _ _ us hl => match us, hl with | [_], _ => rfl
  have F2 := fun_mk (st := s_is_polynomial) l2 c2 k2
  have b2 := F2.binds (ps := ["value"]) fun _ _ _ _ _ _ us hl => match us, hl with | [_], _ => rfl
  have F3 := fun_mk (st := s_is_lower) l3 c3 k3
  have b3 := F3.binds (ps := ["value", "index"]) fun _ _ _ _ _ _ us hl => match us, hl with | [_, _], _ => rfl
  have F4 := fun_mk (st := s_is_instruction) l4 c4 k4
  have b4 := F4.binds (ps := ["value", "index"]) fun _ _ _ _ _ _ us hl => match us, hl with | [_, _], _ => rfl
  have F5 := fun_mk (st := s_check_code) l5 c5 k5
  have b5 := F5.binds (ps := ["value"]) fun _ _ _ _ _ _ us hl => match us, hl with | [_], _ => rfl
  have F6 := fun_mk (st := s_is_code) l6 c6 k6
  have b6 := F6.binds (ps := ["value"]) fun _ _ _ _ _ _ us hl => match us, hl with | [_], _ => rfl
  have F7 := fun_mk (st := s_Writer_init) l7 c7 k7
  have b7 := F7.binds (ps := ["self"]) fun _ _ _ _ _ _ us hl => match us, hl with | [_], _ => rfl
  have F8 := fun_mk (st := s_Writer_told) l8 c8 k8
  have b8 := F8.binds (ps := ["self", "instruction"]) fun _ _ _ _ _ _ us hl => match us, hl with | [_, _], _ => rfl
  have F9 := fun_mk (st := s_Writer_write) l9 c9 k9
  have b9 := F9.binds (ps := ["self", "tree"]) fun _ _ _ _ _ _ us hl => match us, hl with | [_, _], _ => rfl
  have F10 := fun_mk (st := s_Writer_write_power) l10 c10 k10
  have b10 := F10.binds (ps := ["self", "inner", "times"]) fun _ _ _ _ _ _ us hl => match us, hl with | [_, _, _], _ => rfl
  have F11 := fun_mk (st := s_compile_tree) l11 c11 k11
  have b11 := F11.binds (ps := ["tree"]) fun _ _ _ _ _ _ us hl => match us, hl with | [_], _ => rfl
  have F12 := fun_mk (st := s_law_numbers) l12 c12 k12
  have b12 := F12.binds (ps := ["script", "at", "many"]) fun _ _ _ _ _ _ us hl => match us, hl with | [_, _, _], _ => rfl
  have F13 := fun_mk (st := s_law_leaf) l13 c13 k13
  have b13 := F13.binds (ps := ["n", "first"]) fun _ _ _ _ _ _ us hl => match us, hl with | [_, _], _ => rfl
  have F14 := fun_mk (st := s_law_drawn) l14 c14 k14
  have b14 := F14.binds (ps := ["script", "at"]) fun _ _ _ _ _ _ us hl => match us, hl with | [_, _], _ => rfl
  have F15 := fun_mk (st := s_law_refusal) l15 c15 k15
  have b15 := F15.binds (ps := ["value"]) fun _ _ _ _ _ _ us hl => match us, hl with | [_], _ => rfl
  have F16 := fun_mk (st := s_law) l16 c16 k16
  have b16 := F16.binds (ps := ["script"]) fun _ _ _ _ _ _ us hl => match us, hl with | [_], _ => rfl
  refine ⟨fnOf "law" "law" (defArgs s_law) (defBody s_law) (defScope s_law) .none kV16 dc16 pm16 an16 cd16 ct16, fun s v => .of_eq rfl, fun base _ _ => ?_⟩
  have h_is_whole : FnIn (MM w K C0 X0 X1) l.prog w K mg base 1 1 "is_whole" m_is_whole := fnIn (M := MM w K C0 X0 X1) F0 (mg_of X G a0) b0 (ok_is_whole (base := base) (P := l.prog) F0 T )
  have h_is_polynomial_form : FnIn (MM w K C0 X0 X1) l.prog w K mg base 2 1 "is_polynomial_form" m_is_polynomial_form := fnIn (M := MM w K C0 X0 X1) F1 (mg_of X G a1) b1 (ok_is_polynomial_form (base := base) (P := l.prog) F1 T h_is_whole)
  have h_is_polynomial : FnIn (MM w K C0 X0 X1) l.prog w K mg base 3 1 "is_polynomial" m_is_polynomial := fnIn (M := MM w K C0 X0 X1) F2 (mg_of X G a2) b2 (ok_is_polynomial (base := base) (P := l.prog) F2 T h_is_polynomial_form)
  have h_is_lower : FnIn (MM w K C0 X0 X1) l.prog w K mg base 2 2 "is_lower" m_is_lower := fnIn (M := MM w K C0 X0 X1) F3 (mg_of X G a3) b3 (ok_is_lower (base := base) (P := l.prog) F3 T h_is_whole)
  have h_is_instruction : FnIn (MM w K C0 X0 X1) l.prog w K mg base 4 2 "is_instruction" m_is_instruction := fnIn (M := MM w K C0 X0 X1) F4 (mg_of X G a4) b4 (ok_is_instruction (base := base) (P := l.prog) F4 T h_is_whole h_is_lower h_is_polynomial)
  have h_check_code : FnIn (MM w K C0 X0 X1) l.prog w K mg base 5 1 "check_code" m_check_code := fnIn (M := MM w K C0 X0 X1) F5 (mg_of X G a5) b5 (ok_check_code (base := base) (P := l.prog) F5 T h_is_instruction)
  have h_is_code : FnIn (MM w K C0 X0 X1) l.prog w K mg base 6 1 "is_code" m_is_code := fnIn (M := MM w K C0 X0 X1) F6 (mg_of X G a6) b6 (ok_is_code (base := base) (P := l.prog) F6 T h_check_code)
  have h_Writer_init : NwIn (MM w K C0 X0 X1) l.prog w K mg base 1 0 0 "Writer" m_Writer_init := nwIn (M := MM w K C0 X0 X1) (x := "Writer") (c := 0) (n := 0) ⟨mkC0, a7, i7, kC0⟩ (mg_of X G aC0) b7 (ok_Writer_init (base := base) (P := l.prog) F7 T )
  have h_Writer_told : MtIn (MM w K C0 X0 X1) l.prog w K mg base 1 2 0 "told" m_Writer_told := mtIn (M := MM w K C0 X0 X1) (c := 0) F8 ⟨a8, i8, k8⟩ (show ("told" : Str) ∉ (["code", "known"] : List Str) by decide +kernel) b8 (ok_Writer_told (base := base) (P := l.prog) F8 T )
  have hrec_9 : ∀ j : Nat, MtIn (MM w K C0 X0 X1) l.prog w K mg base (2 + j) 2 0 "write" (m_Writer_write j) ∧ MtIn (MM w K C0 X0 X1) l.prog w K mg base (2 + j) 3 0 "write_power" (m_Writer_write_power j) := by
    intro j
    induction j with
    | zero => exact ⟨mtIn (M := MM w K C0 X0 X1) (c := 0) F9 ⟨a9, i9, k9⟩ (show ("write" : Str) ∉ (["code", "known"] : List Str) by decide +kernel) b9 (fn_bad F9 sc_Writer_write rfl), mtIn (M := MM w K C0 X0 X1) (c := 0) F10 ⟨a10, i10, k10⟩ (show ("write_power" : Str) ∉ (["code", "known"] : List Str) by decide +kernel) b10 (fn_bad F10 sc_Writer_write_power rfl)⟩
    | succ j ih =>
      obtain ⟨h_Writer_write, h_Writer_write_power⟩ := ih
      exact ⟨mtIn (M := MM w K C0 X0 X1) (c := 0) F9 ⟨a9, i9, k9⟩ (show ("write" : Str) ∉ (["code", "known"] : List Str) by decide +kernel) b9 (ok_Writer_write (base := base) (P := l.prog) (r := rec_9 j) (kk := 2 + j) (by omega) F9 T h_Writer_told h_Writer_write h_Writer_write_power), mtIn (M := MM w K C0 X0 X1) (c := 0) F10 ⟨a10, i10, k10⟩ (show ("write_power" : Str) ∉ (["code", "known"] : List Str) by decide +kernel) b10 (ok_Writer_write_power (base := base) (P := l.prog) (r := rec_9 j) (kk := 2 + j) (by omega) F10 T h_Writer_write h_Writer_told)⟩
  obtain ⟨h_Writer_write, h_Writer_write_power⟩ := hrec_9 12
  have h_compile_tree : FnIn (MM w K C0 X0 X1) l.prog w K mg base 15 1 "compile_tree" m_compile_tree := fnIn (M := MM w K C0 X0 X1) F11 (mg_of X G a11) b11 (ok_compile_tree (base := base) (P := l.prog) F11 T h_Writer_init h_Writer_write h_Writer_told)
  have h_law_numbers : FnIn (MM w K C0 X0 X1) l.prog w K mg base 1 3 "_law_numbers" m_law_numbers := fnIn (M := MM w K C0 X0 X1) F12 (mg_of X G a12) b12 (ok_law_numbers (base := base) (P := l.prog) F12 T )
  have h_law_leaf : FnIn (MM w K C0 X0 X1) l.prog w K mg base 1 2 "_law_leaf" m_law_leaf := fnIn (M := MM w K C0 X0 X1) F13 (mg_of X G a13) b13 (ok_law_leaf (base := base) (P := l.prog) F13 T )
  have h_law_drawn : FnIn (MM w K C0 X0 X1) l.prog w K mg base 2 2 "_law_drawn" m_law_drawn := fnIn (M := MM w K C0 X0 X1) F14 (mg_of X G a14) b14 (ok_law_drawn (base := base) (P := l.prog) F14 T h_law_numbers h_law_leaf)
  have h_law_refusal : FnIn (MM w K C0 X0 X1) l.prog w K mg base 6 1 "_law_refusal" m_law_refusal := fnIn (M := MM w K C0 X0 X1) F15 (mg_of X G a15) b15 (ok_law_refusal (base := base) (P := l.prog) F15 T h_check_code)
  exact law_ok (M := MM w K C0 X0 X1) rfl law_true (ok_law (base := base) (P := l.prog) F16 T h_law_numbers h_compile_tree h_law_drawn h_law_refusal h_is_code)
end k50
end Bv
open PySem PySem.W PyProof.Rows
set_option maxRecDepth 100000 in
set_option maxHeartbeats 0 in
theorem PySem.Challenge.cw_rootsreckon_k50_code_checked_holds : PySem.Challenge.rw_rootsreckon_k50_code_checked.Holds := by
  w_on; o_law; k_head; (case hw => w_witness2)
  k_fill
  refine Bv.walk_bv (l := PySem.Challenge.rw_rootsreckon_k50_code_checked) (k := 16) rfl rfl ⟨rfl, by decide, by decide⟩ (fun w h Y => PySem.W.kIn_of Y) ?F
  case F =>
    intro w mg fa h KX G XX hmg
    refine' Bv.k50.all_mk (l := PySem.Challenge.rw_rootsreckon_k50_code_checked) KX G hmg ?aX0 ?aX1 ?lX0 ?saX0 ?gaX0 ?ggX0 ?nbX0 ?iX0 ?tiX0 ?fX0 ?cX0 ?kX0 ?eX0 ?tX0 ?hX0 ?clX0 ?dX0 ?mX0 ?s0_0 ?s0_1 ?lX1 ?saX1 ?gaX1 ?ggX1 ?nbX1 ?iX1 ?tiX1 ?fX1 ?cX1 ?kX1 ?eX1 ?tX1 ?hX1 ?clX1 ?dX1 ?mX1 ?s1_0 ?s1_1 ?spc ?tkc ?aC0 ?pgC0 ?hdC0 ?poC0 ?saC0 ?mkC0 ?kC0 ?n0_0 ?n0_1 ?a0 ?l0 ?c0 ?k0 ?a1 ?l1 ?c1 ?k1 ?a2 ?l2 ?c2 ?k2 ?a3 ?l3 ?c3 ?k3 ?a4 ?l4 ?c4 ?k4 ?a5 ?l5 ?c5 ?k5 ?a6 ?l6 ?c6 ?k6 ?a7 ?i7 ?l7 ?c7 ?k7 ?a8 ?i8 ?l8 ?c8 ?k8 ?a9 ?i9 ?l9 ?c9 ?k9 ?a10 ?i10 ?l10 ?c10 ?k10 ?a11 ?l11 ?c11 ?k11 ?a12 ?l12 ?c12 ?k12 ?a13 ?l13 ?c13 ?k13 ?a14 ?l14 ?c14 ?k14 ?a15 ?l15 ?c15 ?k15 ?a16 ?l16 ?c16 ?k16 ?z_all ?z_bool ?z_enumerate ?z_int ?z_isinstance ?z_len ?z_list ?z_range ?z_str ?z_tuple ?q_MOST_DEGREE ?q_MOST_COEFFICIENT ?q_MOST_CODE ?q_WRONG ?q_TWO ?v_TWO
    (case aX0 => first | k_is | rfl)
    (case aX1 => first | k_is | rfl)
    (case lX0 => first | k_is | rfl)
    (case saX0 => first | k_is | rfl)
    (case gaX0 => first | k_is | rfl)
    (case ggX0 => first | k_is | rfl)
    (case nbX0 => first | k_is | rfl)
    (case iX0 => first | k_is | rfl)
    (case tiX0 => first | k_is | rfl)
    (case fX0 => first | k_is | rfl)
    (case cX0 => first | k_is | rfl)
    (case kX0 => first | k_is | rfl)
    (case eX0 => first | k_is | rfl)
    (case tX0 => first | k_is | rfl)
    (case hX0 => first | k_is | rfl)
    (case clX0 => first | k_is | rfl)
    (case dX0 => first | k_is | rfl)
    (case mX0 => first | k_is | rfl)
    (case s0_0 => first | k_is | rfl)
    (case s0_1 => first | k_is | rfl)
    (case lX1 => first | k_is | rfl)
    (case saX1 => first | k_is | rfl)
    (case gaX1 => first | k_is | rfl)
    (case ggX1 => first | k_is | rfl)
    (case nbX1 => first | k_is | rfl)
    (case iX1 => first | k_is | rfl)
    (case tiX1 => first | k_is | rfl)
    (case fX1 => first | k_is | rfl)
    (case cX1 => first | k_is | rfl)
    (case kX1 => first | k_is | rfl)
    (case eX1 => first | k_is | rfl)
    (case tX1 => first | k_is | rfl)
    (case hX1 => first | k_is | rfl)
    (case clX1 => first | k_is | rfl)
    (case dX1 => first | k_is | rfl)
    (case mX1 => first | k_is | rfl)
    (case s1_0 => first | k_is | rfl)
    (case s1_1 => first | k_is | rfl)
    (case spc => first | k_is | rfl)
    (case tkc => first | k_is | rfl)
    (case aC0 => first | k_is | rfl)
    (case pgC0 => first | k_is | rfl)
    (case hdC0 => first | k_is | rfl)
    (case poC0 => first | k_is | rfl)
    (case saC0 => first | k_is | rfl)
    (case mkC0 => first | k_is | rfl)
    (case kC0 => first | k_is | rfl)
    (case n0_0 => first | k_is | rfl)
    (case n0_1 => first | k_is | rfl)
    (case a0 => first | k_is | rfl)
    (case l0 => first | k_is | rfl)
    (case c0 => first | k_is | rfl)
    (case k0 => first | k_is | rfl)
    (case a1 => first | k_is | rfl)
    (case l1 => first | k_is | rfl)
    (case c1 => first | k_is | rfl)
    (case k1 => first | k_is | rfl)
    (case a2 => first | k_is | rfl)
    (case l2 => first | k_is | rfl)
    (case c2 => first | k_is | rfl)
    (case k2 => first | k_is | rfl)
    (case a3 => first | k_is | rfl)
    (case l3 => first | k_is | rfl)
    (case c3 => first | k_is | rfl)
    (case k3 => first | k_is | rfl)
    (case a4 => first | k_is | rfl)
    (case l4 => first | k_is | rfl)
    (case c4 => first | k_is | rfl)
    (case k4 => first | k_is | rfl)
    (case a5 => first | k_is | rfl)
    (case l5 => first | k_is | rfl)
    (case c5 => first | k_is | rfl)
    (case k5 => first | k_is | rfl)
    (case a6 => first | k_is | rfl)
    (case l6 => first | k_is | rfl)
    (case c6 => first | k_is | rfl)
    (case k6 => first | k_is | rfl)
    (case a7 => first | k_is | rfl)
    (case i7 => first | k_is | rfl)
    (case l7 => first | k_is | rfl)
    (case c7 => first | k_is | rfl)
    (case k7 => first | k_is | rfl)
    (case a8 => first | k_is | rfl)
    (case i8 => first | k_is | rfl)
    (case l8 => first | k_is | rfl)
    (case c8 => first | k_is | rfl)
    (case k8 => first | k_is | rfl)
    (case a9 => first | k_is | rfl)
    (case i9 => first | k_is | rfl)
    (case l9 => first | k_is | rfl)
    (case c9 => first | k_is | rfl)
    (case k9 => first | k_is | rfl)
    (case a10 => first | k_is | rfl)
    (case i10 => first | k_is | rfl)
    (case l10 => first | k_is | rfl)
    (case c10 => first | k_is | rfl)
    (case k10 => first | k_is | rfl)
    (case a11 => first | k_is | rfl)
    (case l11 => first | k_is | rfl)
    (case c11 => first | k_is | rfl)
    (case k11 => first | k_is | rfl)
    (case a12 => first | k_is | rfl)
    (case l12 => first | k_is | rfl)
    (case c12 => first | k_is | rfl)
    (case k12 => first | k_is | rfl)
    (case a13 => first | k_is | rfl)
    (case l13 => first | k_is | rfl)
    (case c13 => first | k_is | rfl)
    (case k13 => first | k_is | rfl)
    (case a14 => first | k_is | rfl)
    (case l14 => first | k_is | rfl)
    (case c14 => first | k_is | rfl)
    (case k14 => first | k_is | rfl)
    (case a15 => first | k_is | rfl)
    (case l15 => first | k_is | rfl)
    (case c15 => first | k_is | rfl)
    (case k15 => first | k_is | rfl)
    (case a16 => first | k_is | rfl)
    (case l16 => first | k_is | rfl)
    (case c16 => first | k_is | rfl)
    (case k16 => first | k_is | rfl)
    (case z_all => first | k_is | rfl)
    (case z_bool => first | k_is | rfl)
    (case z_enumerate => first | k_is | rfl)
    (case z_int => first | k_is | rfl)
    (case z_isinstance => first | k_is | rfl)
    (case z_len => first | k_is | rfl)
    (case z_list => first | k_is | rfl)
    (case z_range => first | k_is | rfl)
    (case z_str => first | k_is | rfl)
    (case z_tuple => first | k_is | rfl)
    (case q_MOST_DEGREE => first | k_is | rfl)
    (case q_MOST_COEFFICIENT => first | k_is | rfl)
    (case q_MOST_CODE => first | k_is | rfl)
    (case q_WRONG => first | k_is | rfl)
    (case q_TWO => first | k_is | rfl)
    (case v_TWO => first | k_is | rfl)
