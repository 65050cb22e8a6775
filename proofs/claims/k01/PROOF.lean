import PyProof.Rows.All
import Wide.All
import OpenK.AllK
import Wide.FinOn
import HandS.ForMost
import HandS.Exc
import HandS.ExcOwn
import HandS.ExcInit
import HandS.WordsExc
import HandS.TupAny
import HandS.Wide
import HandS.Text
import HandS.Flow
import HandS.IsInst
import HandS.Walk
import HandS.Rev
import HandS.ExcCtx
import HandS.HotCalls
import HandS.ExcField
import HandS.ExcIs
import KE.KExcIs
import HandS.More
import HandS.Replace
import HandS.StrMore
import HandS.CallSlots
import KE.GoesMore
import KE.GoesEnum
import PySem.Challenge.RW_trunkcall_k01_check_shape
set_option Elab.async false
set_option linter.all false
set_option maxRecDepth 100000
set_option maxHeartbeats 4000000
section
set_option autoImplicit false
/-! FL: a def of the program as a plain Lean function of data and a store; one lemma for each construct. -/
namespace FL
open PySem L2

/-- data without addresses; fz: a list that nobody writes (the script); ref: the n-th object of the store -/
inductive D where
  | non
  | bl (b : Bool)
  | int (i : Int)
  | str (s : Str)
  | tup (ds : List D)
  | fz (ds : List D)
  | ref (n : Nat)
  deriving Inhabited
/-- an object of the store -/
inductive O where
  | lst (ds : List D)
  | dct (kvs : List (Key × D))
  | ins (c : Nat) (fs : List (Str × D))
abbrev Store := List O
/-- a slot: forgotten, data, a caught exception -/
inductive Sl where
  | un
  | dat (d : D)
  | exc (c : Nat) (ds : List D)
abbrev Rho := List Sl
/-- the classes by number -/
structure G where
  K : PySem.W.Frag
  ec : Nat → Addr
  fnm : Nat → List Str
  ic : Nat → Addr
/-- the exception that a suite holds: its address, its class, its own dict -/
abbrev HX := Option (Addr × Value × Option Addr)

def FzL (K : PySem.W.Frag) (H : Hp) (a : Addr) (xs : List V) : Prop :=
  (∃ o, H a = some (.frz o (.lst xs))) ∨
    ∃ (o : Obj) (its : Array Value) (n : Nat), K.lookup a = some o ∧ o.cls = .type "list" ∧ o.dict = none ∧ o.data = .seq its n ∧ its.size ≤ sizeLine ∧ Vals xs its.toList
theorem FzL.sq {K : PySem.W.Frag} {H : Hp} {a : Addr} {xs : List V} (h : FzL K H a xs) : SqL K H a xs := by
  rcases h with ⟨o, h⟩ | h
  · exact .inl (.inr ⟨o, h⟩)
  · exact .inr h
mutual
inductive Is (K : PySem.W.Frag) (H : Hp) (As : List Addr) : D → V → Prop
  | non : Is K H As .non .non
  | bl (b : Bool) : Is K H As (.bl b) (.bl b)
  | int (i : Int) : Is K H As (.int i) (.int i)
  | str (s : Str) : Is K H As (.str s) (.str s)
  | tup {a : Addr} {xs : List V} {ds : List D} : SqT K H a xs → IsL K H As ds xs → Is K H As (.tup ds) (.ref a)
  | fz {a : Addr} {xs : List V} {ds : List D} : FzL K H a xs → IsL K H As ds xs → Is K H As (.fz ds) (.ref a)
  | ref {n : Nat} {a : Addr} : As[n]? = some a → Is K H As (.ref n) (.ref a)
inductive IsL (K : PySem.W.Frag) (H : Hp) (As : List Addr) : List D → List V → Prop
  | nil : IsL K H As [] []
  | cons {d : D} {v : V} {ds : List D} {vs : List V} : Is K H As d v → IsL K H As ds vs → IsL K H As (d :: ds) (v :: vs)
end
/-- the heap has grown: only the store's own objects have changed -/
structure Ext (H : Hp) (As : List Addr) (H' : Hp) (As' : List Addr) : Prop where
  pre : As <+: As'
  fresh : ∀ a, a ∈ As' → a ∉ As → H a = none
  keep : ∀ a o, H a = some o → a ∉ As → H' a = some o
  tup : ∀ a xs, H a = some (.tup xs) → H' a = some (.tup xs)
  frz : ∀ a o u, H a = some (.frz o u) → H' a = some (.frz o u)
section
variable {K : PySem.W.Frag} {H H1 H2 : Hp} {As As1 As2 : List Addr} {d : D} {v : V}
theorem Ext.refl (H : Hp) (As : List Addr) : Ext H As H As := ⟨List.prefix_refl _, fun _ h n => absurd h n, fun _ _ h _ => h, fun _ _ h => h, fun _ _ _ h => h⟩
theorem Ext.trans (a : Ext H As H1 As1) (b : Ext H1 As1 H2 As2) : Ext H As H2 As2 where
  pre := List.IsPrefix.trans a.pre b.pre
  fresh := fun x h n => by
    by_cases h1 : x ∈ As1
    · exact a.fresh x h1 n
    · have z := b.fresh x h h1
      cases e : H x with
      | none => rfl
      | some o => rw [a.keep x o e n] at z; cases z
  keep := fun x o e n => by
    refine b.keep x o (a.keep x o e n) fun h => ?_
    rw [a.fresh x h n] at e; cases e
  tup := fun x xs e => b.tup x xs (a.tup x xs e)
  frz := fun x o u e => b.frz x o u (a.frz x o u e)
theorem Ext.get (e : Ext H As H1 As1) {n : Nat} {a : Addr} (h : As[n]? = some a) : As1[n]? = some a := by
  obtain ⟨t, rfl⟩ := e.pre
  rw [List.getElem?_append_left (List.getElem?_eq_some_iff.mp h).1]
  exact h
theorem Ext.sqT (e : Ext H As H1 As1) {a : Addr} {xs : List V} (h : SqT K H a xs) : SqT K H1 a xs := by
  rcases h with (h | ⟨o, h⟩) | h
  · exact .inl (.inl (e.tup _ _ h))
  · exact .inl (.inr ⟨o, e.frz _ _ _ h⟩)
  · exact .inr h
theorem Ext.fzl (e : Ext H As H1 As1) {a : Addr} {xs : List V} (h : FzL K H a xs) : FzL K H1 a xs := by
  rcases h with ⟨o, h⟩ | h
  · exact .inl ⟨o, e.frz _ _ _ h⟩
  · exact .inr h
mutual
theorem Is.mono (e : Ext H As H1 As1) : ∀ (d : D) (v : V), Is K H As d v → Is K H1 As1 d v
  | .non, _, h => by cases h; exact .non
  | .bl b, _, h => by cases h; exact .bl b
  | .int b, _, h => by cases h; exact .int b
  | .str b, _, h => by cases h; exact .str b
  | .ref n, _, h => by cases h with | ref h => exact .ref (e.get h)
  | .tup ds, _, h => by cases h with | tup h r => exact .tup (e.sqT h) (IsL.mono e ds _ r)
  | .fz ds, _, h => by cases h with | fz h r => exact .fz (e.fzl h) (IsL.mono e ds _ r)
theorem IsL.mono (e : Ext H As H1 As1) : ∀ (ds : List D) (vs : List V), IsL K H As ds vs → IsL K H1 As1 ds vs
  | [], _, h => by cases h; exact .nil
  | d :: ds, _, h => by cases h with | cons a b => exact .cons (Is.mono e d _ a) (IsL.mono e ds _ b)
end
theorem Is.up (h : Is K H As d v) (e : Ext H As H1 As1) : Is K H1 As1 d v := Is.mono e d v h
theorem IsL.up {ds : List D} {vs : List V} (h : IsL K H As ds vs) (e : Ext H As H1 As1) : IsL K H1 As1 ds vs := IsL.mono e ds vs h
theorem IsL.len : ∀ {ds : List D} {vs : List V}, IsL K H As ds vs → ds.length = vs.length
  | _, _, .nil => rfl
  | _, _, .cons _ r => congrArg (· + 1) (IsL.len r)
theorem IsL.get : ∀ {ds : List D} {vs : List V} {i : Nat} {d : D}, IsL K H As ds vs → ds[i]? = some d → ∃ v, vs[i]? = some v ∧ Is K H As d v
  | _, _, _, _, .nil, e => by simp at e
  | _, _, 0, _, .cons a _, e => by simp at e; subst e; exact ⟨_, rfl, a⟩
  | _, _, i + 1, d, .cons _ r, e => by
    obtain ⟨v, h1, h2⟩ := IsL.get (i := i) (d := d) r (by simpa using e)
    exact ⟨v, by simpa using h1, h2⟩
theorem IsL.getV : ∀ {ds : List D} {vs : List V} {i : Nat} {v : V}, IsL K H As ds vs → vs[i]? = some v → ∃ d, ds[i]? = some d ∧ Is K H As d v
  | _, _, _, _, .nil, e => by simp at e
  | _, _, 0, _, .cons a _, e => by simp at e; subst e; exact ⟨_, rfl, a⟩
  | _, _, i + 1, d, .cons _ r, e => by
    obtain ⟨v, h1, h2⟩ := IsL.getV (i := i) (v := d) r (by simpa using e)
    exact ⟨v, by simpa using h1, h2⟩
theorem IsL.app : ∀ {ds es : List D} {vs ws : List V}, IsL K H As ds vs → IsL K H As es ws → IsL K H As (ds ++ es) (vs ++ ws)
  | _, _, _, _, .nil, s => s
  | _, _, _, _, .cons a r, s => .cons a (IsL.app r s)
theorem IsL.take : ∀ {ds : List D} {vs : List V} (n : Nat), IsL K H As ds vs → IsL K H As (ds.take n) (vs.take n)
  | _, _, 0, _ => .nil
  | _, _, _ + 1, .nil => .nil
  | _, _, n + 1, .cons r t => .cons r (IsL.take n t)
theorem IsL.drop : ∀ {ds : List D} {vs : List V} (n : Nat), IsL K H As ds vs → IsL K H As (ds.drop n) (vs.drop n)
  | _, _, 0, r => r
  | _, _, _ + 1, .nil => .nil
  | _, _, n + 1, .cons _ t => IsL.drop n t
theorem IsL.set : ∀ {ds : List D} {vs : List V} (n : Nat) {d : D} {v : V}, IsL K H As ds vs → Is K H As d v → IsL K H As (ds.set n d) (vs.set n v)
  | _, _, _, _, _, .nil, _ => .nil
  | _, _, 0, _, _, .cons _ t, h => .cons h t
  | _, _, n + 1, _, _, .cons r t, h => .cons r (IsL.set n t h)
theorem IsL.split : ∀ {ds es : List D} {ws : List V}, IsL K H As (ds ++ es) ws → ∃ us vs, ws = us ++ vs ∧ IsL K H As ds us ∧ IsL K H As es vs
  | [], es, ws, h => ⟨[], ws, rfl, .nil, h⟩
  | d :: ds, es, _, .cons a r => by
    obtain ⟨us, vs, e, h1, h2⟩ := IsL.split (ds := ds) r
    exact ⟨_ :: us, vs, by rw [e]; rfl, .cons a h1, h2⟩
theorem IsL.rev {ds : List D} {vs : List V} (h : IsL K H As ds vs) : IsL K H As ds.reverse vs.reverse := by
  induction ds generalizing vs with
  | nil => cases h; exact .nil
  | cons d ds ih =>
    cases h with
    | cons a r => rw [List.reverse_cons, List.reverse_cons]; exact (ih r).app (.cons a .nil)
theorem IsL.ints : ∀ (ns : List Int), IsL K H As (ns.map D.int) (ns.map V.int)
  | [] => .nil
  | n :: ns => .cons (.int n) (IsL.ints ns)
theorem IsL.intsV : ∀ {ns : List Int} {vs : List V}, IsL K H As (ns.map D.int) vs → vs = ns.map V.int
  | [], _, .nil => rfl
  | n :: ns, _, .cons a r => by cases a; rw [IsL.intsV r]; rfl
theorem IsL.strsV : ∀ {ns : List Str} {vs : List V}, IsL K H As (ns.map D.str) vs → vs = ns.map V.str
  | [], _, .nil => rfl
  | n :: ns, _, .cons a r => by cases a; rw [IsL.strsV r]; rfl
theorem IsL.blsV : ∀ {ns : List Bool} {vs : List V}, IsL K H As (ns.map D.bl) vs → vs = ns.map V.bl
  | [], _, .nil => rfl
  | n :: ns, _, .cons a r => by cases a; rw [IsL.blsV r]; rfl
end
/-! ### references below n -/
mutual
def Bel (n : Nat) : D → Prop
  | .tup ds => BelL n ds
  | .fz ds => BelL n ds
  | .ref m => m < n
  | _ => True
def BelL (n : Nat) : List D → Prop
  | [] => True
  | d :: ds => Bel n d ∧ BelL n ds
end
def BelO (n : Nat) : O → Prop
  | .lst ds => BelL n ds
  | .dct kvs => BelL n (kvs.map (·.2))
  | .ins _ fs => BelL n (fs.map (·.2))
section
variable {K : PySem.W.Frag} {H : Hp} {As As' : List Addr} {n : Nat}
mutual
theorem Bel.of : ∀ (d : D) (v : V), Is K H As d v → Bel As.length d
  | .non, _, _ => trivial
  | .bl b, _, _ => trivial
  | .int b, _, _ => trivial
  | .str b, _, _ => trivial
  | .ref n, _, h => by cases h with | ref h => exact (List.getElem?_eq_some_iff.mp h).1
  | .tup ds, _, h => by cases h with | tup h r => exact BelL.of ds _ r
  | .fz ds, _, h => by cases h with | fz h r => exact BelL.of ds _ r
theorem BelL.of : ∀ (ds : List D) (vs : List V), IsL K H As ds vs → BelL As.length ds
  | [], _, _ => trivial
  | d :: ds, _, h => by cases h with | cons a b => exact ⟨Bel.of d _ a, BelL.of ds _ b⟩
end
mutual
theorem Is.cut (hp : As <+: As') : ∀ (d : D) (v : V), Is K H As' d v → Bel As.length d → Is K H As d v
  | .non, _, h, _ => by cases h; exact .non
  | .bl b, _, h, _ => by cases h; exact .bl b
  | .int b, _, h, _ => by cases h; exact .int b
  | .str b, _, h, _ => by cases h; exact .str b
  | .ref n, _, h, b => by
    cases h with
    | ref h =>
      have b' : n < As.length := b
      obtain ⟨t, rfl⟩ := hp
      rw [List.getElem?_append_left b'] at h
      exact .ref h
  | .tup ds, _, h, b => by cases h with | tup h r => exact .tup h (IsL.cut hp ds _ r b)
  | .fz ds, _, h, b => by cases h with | fz h r => exact .fz h (IsL.cut hp ds _ r b)
theorem IsL.cut (hp : As <+: As') : ∀ (ds : List D) (vs : List V), IsL K H As' ds vs → BelL As.length ds → IsL K H As ds vs
  | [], _, h, _ => by cases h; exact .nil
  | d :: ds, _, h, b => by cases h with | cons h r => exact .cons (Is.cut hp d _ h b.1) (IsL.cut hp ds _ r b.2)
end
end
/-! ### the store -/
def ObjRel (g : G) (H : Hp) (As : List Addr) : O → Addr → Prop
  | .lst ds, a => ∃ xs, H a = some (.lst xs) ∧ IsL g.K H As ds xs
  | .dct kvs, a => ∃ kxs : List (Key × V), H a = some (.dK kxs) ∧ kvs.map (·.1) = kxs.map (·.1) ∧ IsL g.K H As (kvs.map (·.2)) (kxs.map (·.2))
  | .ins c fs, a => ∃ (dx : Addr) (xs : List (Str × V)), H a = some (.ins (g.ic c) dx xs) ∧ fs.map (·.1) = xs.map (·.1) ∧ IsL g.K H As (fs.map (·.2)) (xs.map (·.2))
def MutO : HO → Prop
  | .lst _ => True
  | .dK _ => True
  | .ins _ _ _ => True
  | _ => False
structure StOk (g : G) (H : Hp) (As : List Addr) (S : Store) : Prop where
  len : As.length = S.length
  nd : As.Nodup
  obj : ∀ (n : Nat) (o : O) (a : Addr), S[n]? = some o → As[n]? = some a → ObjRel g H As o a
section
variable {g : G} {H H1 : Hp} {As As1 : List Addr} {S S1 : Store} {o : O} {a : Addr} {n : Nat}
theorem ObjRel.trk (h : ObjRel g H As o a) : ∃ u, H a = some u ∧ MutO u := by
  cases o with
  | lst ds => obtain ⟨xs, h, _⟩ := h; exact ⟨_, h, trivial⟩
  | dct ds => obtain ⟨xs, h, _⟩ := h; exact ⟨_, h, trivial⟩
  | ins c ds => obtain ⟨_, xs, h, _⟩ := h; exact ⟨_, h, trivial⟩
/-- its cell is as it was -/
theorem ObjRel.up (h : ObjRel g H As o a) (e : Ext H As H1 As1) (ha : H1 a = H a) : ObjRel g H1 As1 o a := by
  cases o with
  | lst ds => obtain ⟨xs, h, r⟩ := h; exact ⟨xs, ha.trans h, r.up e⟩
  | dct ds => obtain ⟨xs, h, k, r⟩ := h; exact ⟨xs, ha.trans h, k, r.up e⟩
  | ins c ds => obtain ⟨dx, xs, h, k, r⟩ := h; exact ⟨dx, xs, ha.trans h, k, r.up e⟩
theorem ObjRel.bel (h : ObjRel g H As o a) : BelO As.length o := by
  cases o with
  | lst ds => obtain ⟨xs, h, r⟩ := h; exact BelL.of _ _ r
  | dct ds => obtain ⟨xs, h, k, r⟩ := h; exact BelL.of _ _ r
  | ins c ds => obtain ⟨dx, xs, h, k, r⟩ := h; exact BelL.of _ _ r
theorem ObjRel.cut (hp : As <+: As1) (h : ObjRel g H As1 o a) (b : BelO As.length o) : ObjRel g H As o a := by
  cases o with
  | lst ds => obtain ⟨xs, h, r⟩ := h; exact ⟨xs, h, IsL.cut hp _ _ r b⟩
  | dct ds => obtain ⟨xs, h, k, r⟩ := h; exact ⟨xs, h, k, IsL.cut hp _ _ r b⟩
  | ins c ds => obtain ⟨dx, xs, h, k, r⟩ := h; exact ⟨dx, xs, h, k, IsL.cut hp _ _ r b⟩
theorem StOk.at (s : StOk g H As S) (h : S[n]? = some o) : ∃ a, As[n]? = some a ∧ ObjRel g H As o a := by
  have hn : n < As.length := by rw [s.len]; exact (List.getElem?_eq_some_iff.mp h).1
  exact ⟨As[n], List.getElem?_eq_getElem hn, s.obj n o _ h (List.getElem?_eq_getElem hn)⟩
theorem StOk.atA (s : StOk g H As S) (h : As[n]? = some a) : ∃ o, S[n]? = some o ∧ ObjRel g H As o a := by
  have hn : n < S.length := by rw [← s.len]; exact (List.getElem?_eq_some_iff.mp h).1
  exact ⟨S[n], List.getElem?_eq_getElem hn, s.obj n _ a (List.getElem?_eq_getElem hn) h⟩
theorem StOk.trk (s : StOk g H As S) (h : a ∈ As) : ∃ u, H a = some u ∧ MutO u := by
  obtain ⟨n, hn⟩ := List.mem_iff_getElem?.mp h
  obtain ⟨o, _, r⟩ := s.atA hn
  exact r.trk
theorem StOk.notMem (s : StOk g H As S) (h : H a = none) : a ∉ As := fun m => by
  obtain ⟨u, e, _⟩ := s.trk m
  rw [h] at e; cases e
theorem StOk.notMemO (s : StOk g H As S) {u : HO} (h : H a = some u) (n : ¬ MutO u) : a ∉ As := fun m => by
  obtain ⟨u', e, k⟩ := s.trk m
  rw [h] at e; cases e; exact n k
/-- a new thing that is no object of the store -/
theorem Ext.side {p : Addr} {u : HO} (s : StOk g H As S) (hp : H p = none) : Ext H As (upd H p u) As where
  pre := List.prefix_refl _
  fresh := fun _ h n => absurd h n
  keep := fun a o e _ => by rw [upd_ne (ne_of_none e hp)]; exact e
  tup := fun a xs e => by rw [upd_ne (ne_of_none e hp)]; exact e
  frz := fun a o xs e => by rw [upd_ne (ne_of_none e hp)]; exact e
theorem StOk.side {p : Addr} {u : HO} (s : StOk g H As S) (hp : H p = none) : StOk g (upd H p u) As S :=
  ⟨s.len, s.nd, fun n o a h1 h2 => (s.obj n o a h1 h2).up (Ext.side s hp) (by
    obtain ⟨u', e, _⟩ := (s.obj n o a h1 h2).trk
    rw [upd_ne (ne_of_none e hp)])⟩
/-- a new object of the store -/
theorem Ext.new {p : Addr} {u : HO} (hp : H p = none) : Ext H As (upd H p u) (As ++ [p]) where
  pre := List.prefix_append _ _
  fresh := fun a h n => by
    rcases List.mem_append.mp h with h | h
    · exact absurd h n
    · rw [List.mem_singleton.mp h]; exact hp
  keep := fun a o e _ => by rw [upd_ne (ne_of_none e hp)]; exact e
  tup := fun a xs e => by rw [upd_ne (ne_of_none e hp)]; exact e
  frz := fun a o xs e => by rw [upd_ne (ne_of_none e hp)]; exact e
theorem StOk.new {p : Addr} {u : HO} (s : StOk g H As S) (hp : H p = none) (r : ObjRel g (upd H p u) (As ++ [p]) o p) : StOk g (upd H p u) (As ++ [p]) (S ++ [o]) where
  len := by rw [List.length_append, List.length_append, s.len]; rfl
  nd := by
    refine List.nodup_append.mpr ⟨s.nd, by simp, fun a ha b hb e => ?_⟩
    rw [List.mem_singleton.mp hb] at e
    exact s.notMem hp (e ▸ ha)
  obj := fun n o' a h1 h2 => by
    by_cases hn : n < S.length
    · rw [List.getElem?_append_left hn] at h1
      rw [List.getElem?_append_left (by rw [s.len]; exact hn)] at h2
      have q := s.obj n o' a h1 h2
      obtain ⟨u', e, _⟩ := q.trk
      exact q.up (Ext.new hp) (by rw [upd_ne (ne_of_none e hp)])
    · have hl : n = S.length := by
        have z := (List.getElem?_eq_some_iff.mp h1).1
        rw [List.length_append] at z
        have : n < S.length + 1 := z
        omega
      subst hl
      rw [List.getElem?_concat_length] at h1
      rw [← s.len, List.getElem?_concat_length] at h2
      cases h1; cases h2
      exact r
/-- an object of the store is written -/
theorem Ext.write {u : HO} (s : StOk g H As S) (ha : As[n]? = some a) : Ext H As (upd H a u) As :=
  have hm : a ∈ As := List.mem_of_getElem? ha
  { pre := List.prefix_refl _
    fresh := fun _ h n => absurd h n
    keep := fun b o e nb => (upd_ne (fun z : b = a => nb (by rw [z]; exact hm))).trans e
    tup := fun b xs e => (upd_ne (fun z : b = a => s.notMemO e (fun k => k) (by rw [z]; exact hm))).trans e
    frz := fun b o xs e => (upd_ne (fun z : b = a => s.notMemO e (fun k => k) (by rw [z]; exact hm))).trans e }
theorem StOk.write {u : HO} (s : StOk g H As S) (ha : As[n]? = some a) (r : ObjRel g (upd H a u) As o a) : StOk g (upd H a u) As (S.set n o) where
  len := by rw [List.length_set, s.len]
  nd := s.nd
  obj := fun m o' b h1 h2 => by
    by_cases hm : m = n
    · subst hm
      rw [ha] at h2; cases h2
      have hl : m < S.length := by rw [← s.len]; exact (List.getElem?_eq_some_iff.mp ha).1
      rw [List.getElem?_set_self hl] at h1
      cases h1
      exact r
    · rw [List.getElem?_set_ne (Ne.symm hm)] at h1
      have q := s.obj m o' b h1 h2
      refine q.up (Ext.write s ha) (upd_ne fun z => hm ?_)
      subst z
      obtain ⟨l3, e3⟩ := List.getElem?_eq_some_iff.mp h2
      obtain ⟨l4, e4⟩ := List.getElem?_eq_some_iff.mp ha
      exact (List.getElem_inj s.nd).mp (e3.trans e4.symm)
end
end FL
end

section
set_option autoImplicit false
namespace FL
open PySem L2

/-! ### answers -/
inductive R (α : Type) where
  | ok (a : α) (S : Store)
  | err (c : Nat) (ds : List D) (S : Store)
  | bad
inductive RS where
  | nx (ρ : Rho) (S : Store)
  | rt (d : D) (S : Store)
  | bk (ρ : Rho) (S : Store)
  | ct (ρ : Rho) (S : Store)
  | err (c : Nat) (ds : List D) (ρ : Rho) (S : Store)
  | bad
abbrev ME := Rho → Store → R D
abbrev MT := Rho → Store → R Bool
abbrev MA := Rho → Store → R (List D)
abbrev MS := Rho → Store → RS
/-- a def's function -/
abbrev MF := List D → Store → R D
def R.bind {α β : Type} : R α → (α → Store → R β) → R β
  | .ok a S, k => k a S
  | .err c ds S, _ => .err c ds S
  | .bad, _ => .bad
@[simp] theorem bind_ok {α β : Type} (a : α) (S : Store) (k : α → Store → R β) : (R.ok a S).bind k = k a S := rfl
@[simp] theorem bind_err {α β : Type} (c : Nat) (ds : List D) (S : Store) (k : α → Store → R β) : (R.err c ds S : R α).bind k = .err c ds S := rfl
@[simp] theorem bind_bad {α β : Type} (k : α → Store → R β) : (R.bad : R α).bind k = .bad := rfl
def R.stm {α : Type} : R α → Rho → (α → Store → RS) → RS
  | .ok a S, _, k => k a S
  | .err c ds S, ρ, _ => .err c ds ρ S
  | .bad, _, _ => .bad
@[simp] theorem stm_ok {α : Type} (a : α) (S : Store) (ρ : Rho) (k : α → Store → RS) : (R.ok a S).stm ρ k = k a S := rfl
@[simp] theorem stm_err {α : Type} (c : Nat) (ds : List D) (S : Store) (ρ : Rho) (k : α → Store → RS) : (R.err c ds S : R α).stm ρ k = .err c ds ρ S := rfl
@[simp] theorem stm_bad {α : Type} (ρ : Rho) (k : α → Store → RS) : (R.bad : R α).stm ρ k = .bad := rfl

/-! ### slots -/
/-- an exception of class c with the fields ds lies with its dict at dd -/
def ExcOk (g : G) (H : Hp) (As : List Addr) (c : Nat) (ds : List D) (dd : Option Addr) : Prop :=
  (ds = [] ∧ g.fnm c = [] ∧ dd = none) ∨ ∃ (d : Addr) (fs : List (Str × V)), dd = some d ∧ H d = some (.xd fs) ∧ d ∉ As ∧ fs.map (·.1) = g.fnm c ∧ IsL g.K H As ds (fs.map (·.2))
def SlOk (g : G) (hx : HX) (H : Hp) (As : List Addr) : Sl → Option (Option V) → Prop
  | .un, _ => True
  | .dat d, o => ∃ v, o = some (some v) ∧ Is g.K H As d v
  | .exc c ds, o => ∃ (a : Addr) (dd : Option Addr), hx = some (a, .ref (g.ec c), dd) ∧ o = some (some (.ref a)) ∧ ExcOk g H As c ds dd
structure EnvOk (g : G) (hx : HX) (H : Hp) (As : List Addr) (ρ : Rho) (σ : L2.St) : Prop where
  len : ρ.length = σ.length
  at_ : ∀ (i : Nat) (s : Sl), ρ[i]? = some s → SlOk g hx H As s σ[i]?
section
variable {g : G} {hx : HX} {H H1 : Hp} {As As1 : List Addr} {ρ : Rho} {σ : L2.St} {S : Store}
theorem ExcOk.up {c : Nat} {ds : List D} {dd : Option Addr} (h : ExcOk g H As c ds dd) (e : Ext H As H1 As1) : ExcOk g H1 As1 c ds dd := by
  rcases h with h | ⟨d, fs, h1, h2, h3, h4, h5⟩
  · exact .inl h
  · refine .inr ⟨d, fs, h1, e.keep _ _ h2 h3, fun m => ?_, h4, h5.up e⟩
    have z := e.fresh d m h3
    rw [h2] at z; cases z
theorem EnvOk.up (h : EnvOk g hx H As ρ σ) (e : Ext H As H1 As1) : EnvOk g hx H1 As1 ρ σ := ⟨h.len, fun i s q => by
  have z := h.at_ i s q
  cases s with
  | un => trivial
  | dat d => obtain ⟨v, e1, r⟩ := z; exact ⟨v, e1, r.up e⟩
  | exc c ds => obtain ⟨a, dd, e0, e1, r⟩ := z; exact ⟨a, dd, e0, e1, r.up e⟩⟩
theorem EnvOk.set (h : EnvOk g hx H As ρ σ) (i : Nat) {s : Sl} {o : Option V} (r : SlOk g hx H As s (some o)) : EnvOk g hx H As (ρ.set i s) (σ.set i o) := ⟨by rw [List.length_set, List.length_set, h.len], fun j s' q => by
  by_cases hj : i = j
  · subst hj
    have hl : i < ρ.length := by
      have z := (List.getElem?_eq_some_iff.mp q).1
      rw [List.length_set] at z
      exact z
    rw [List.getElem?_set_self hl] at q
    cases q
    rw [List.getElem?_set_self (by rw [← h.len]; exact hl)]
    exact r
  · rw [List.getElem?_set_ne hj] at q
    rw [List.getElem?_set_ne hj]
    exact h.at_ j s' q⟩
theorem EnvOk.setD (h : EnvOk g hx H As ρ σ) (i : Nat) {d : D} {v : V} (r : Is g.K H As d v) : EnvOk g hx H As (ρ.set i (.dat d)) (σ.set i (some v)) := h.set i ⟨v, rfl, r⟩
theorem EnvOk.setU (h : EnvOk g hx H As ρ σ) (i : Nat) (o : Option V) : EnvOk g hx H As (ρ.set i .un) (σ.set i o) := h.set i trivial
end

/-! ### what is wanted of an answer -/
section
variable (g : G) (hx : HX) (W : WX)
def Post (σ : L2.St) (H : Hp) (As : List Addr) (r : R D) (Q : VK) : Prop := match r with
  | .ok d S' => ∀ v H' As', Ext H As H' As' → StOk g H' As' S' → Is g.K H' As' d v → Q v H'
  | .err c ds S' => ∀ dd H' As', Ext H As H' As' → StOk g H' As' S' → ExcOk g H' As' c ds dd → W (.ref (g.ec c)) dd σ H'
  | .bad => False
def PostT (σ : L2.St) (H : Hp) (As : List Addr) (r : R Bool) (Q : Bool → Hp → Prop) : Prop := match r with
  | .ok b S' => ∀ H' As', Ext H As H' As' → StOk g H' As' S' → Q b H'
  | .err c ds S' => ∀ dd H' As', Ext H As H' As' → StOk g H' As' S' → ExcOk g H' As' c ds dd → W (.ref (g.ec c)) dd σ H'
  | .bad => False
def PostA (σ : L2.St) (H : Hp) (As : List Addr) (r : R (List D)) (Q : List V → Hp → Prop) : Prop := match r with
  | .ok ds S' => ∀ vs H' As', Ext H As H' As' → StOk g H' As' S' → IsL g.K H' As' ds vs → Q vs H'
  | .err c ds S' => ∀ dd H' As', Ext H As H' As' → StOk g H' As' S' → ExcOk g H' As' c ds dd → W (.ref (g.ec c)) dd σ H'
  | .bad => False
def PostS (H : Hp) (As : List Addr) (r : RS) (E : Ends) : Prop := match r with
  | .nx ρ' S' => ∀ σ' H' As', Ext H As H' As' → StOk g H' As' S' → EnvOk g hx H' As' ρ' σ' → E.nx σ' H'
  | .rt d S' => ∀ v H' As', Ext H As H' As' → StOk g H' As' S' → Is g.K H' As' d v → E.rt v H'
  | .bk ρ' S' => ∀ σ' H' As', Ext H As H' As' → StOk g H' As' S' → EnvOk g hx H' As' ρ' σ' → E.bk σ' H'
  | .ct ρ' S' => ∀ σ' H' As', Ext H As H' As' → StOk g H' As' S' → EnvOk g hx H' As' ρ' σ' → E.ct σ' H'
  | .err c ds ρ' S' => ∀ σ' dd H' As', Ext H As H' As' → StOk g H' As' S' → EnvOk g hx H' As' ρ' σ' → ExcOk g H' As' c ds dd → W (.ref (g.ec c)) dd σ' H'
  | .bad => False
/-- the reading t is answered by m -/
def Sn (t : TE) (m : ME) : Prop := ∀ σ H As ρ S, EnvOk g hx H As ρ σ → StOk g H As S → ∀ Q : VK, Post g W σ H As (m ρ S) Q → t σ H Q
def SnT (t : TT) (m : MT) : Prop := ∀ σ H As ρ S, EnvOk g hx H As ρ σ → StOk g H As S → ∀ Q : Bool → Hp → Prop, PostT g W σ H As (m ρ S) Q → t σ H Q
def SnA (t : TA) (m : MA) : Prop := ∀ σ H As ρ S, EnvOk g hx H As ρ σ → StOk g H As S → ∀ Q : List V → Hp → Prop, PostA g W σ H As (m ρ S) Q → t σ H Q
def SnS (t : TS) (m : MS) : Prop := ∀ σ H As ρ S, EnvOk g hx H As ρ σ → StOk g H As S → ∀ E : Ends, PostS g hx W H As (m ρ S) E → t E σ H
end
section
variable {g : G} {hx : HX} {W : WX} {σ : L2.St} {H H1 : Hp} {As As1 : List Addr} {Q : VK}
/-- later is as good -/
theorem Post.up {r : R D} (h : Post g W σ H As r Q) (e : Ext H As H1 As1) : Post g W σ H1 As1 r Q := by
  cases r with
  | ok d S' => exact fun v H' As' e' => h v H' As' (e.trans e')
  | err c ds S' => exact fun dd H' As' e' => h dd H' As' (e.trans e')
  | bad => exact h
theorem PostT.up {r : R Bool} {Q : Bool → Hp → Prop} (h : PostT g W σ H As r Q) (e : Ext H As H1 As1) : PostT g W σ H1 As1 r Q := by
  cases r with
  | ok d S' => exact fun H' As' e' => h H' As' (e.trans e')
  | err c ds S' => exact fun dd H' As' e' => h dd H' As' (e.trans e')
  | bad => exact h
theorem PostA.up {r : R (List D)} {Q : List V → Hp → Prop} (h : PostA g W σ H As r Q) (e : Ext H As H1 As1) : PostA g W σ H1 As1 r Q := by
  cases r with
  | ok d S' => exact fun v H' As' e' => h v H' As' (e.trans e')
  | err c ds S' => exact fun dd H' As' e' => h dd H' As' (e.trans e')
  | bad => exact h
theorem PostS.up {r : RS} {E : Ends} (h : PostS g hx W H As r E) (e : Ext H As H1 As1) : PostS g hx W H1 As1 r E := by
  cases r with
  | nx ρ S' => exact fun v H' As' e' => h v H' As' (e.trans e')
  | bk ρ S' => exact fun v H' As' e' => h v H' As' (e.trans e')
  | ct ρ S' => exact fun v H' As' e' => h v H' As' (e.trans e')
  | rt d S' => exact fun v H' As' e' => h v H' As' (e.trans e')
  | err c ds ρ S' => exact fun σ' dd H' As' e' => h σ' dd H' As' (e.trans e')
  | bad => exact h
/-- an answer's first half -/
theorem Post.bind {β : Type} {P : R β → Prop} {r : R D} {k : D → Store → R β} (h : P (r.bind k))
    (hok : ∀ d S', P (k d S') → ∀ v H' As', Ext H As H' As' → StOk g H' As' S' → Is g.K H' As' d v → Q v H')
    (herr : ∀ c ds S', P (.err c ds S') → ∀ dd H' As', Ext H As H' As' → StOk g H' As' S' → ExcOk g H' As' c ds dd → W (.ref (g.ec c)) dd σ H') (hbad : ¬ P .bad) : Post g W σ H As r Q := by
  cases r with
  | ok d S' => exact hok d S' h
  | err c ds S' => exact herr c ds S' h
  | bad => exact hbad h
theorem PostT.bind {β : Type} {P : R β → Prop} {r : R Bool} {Q : Bool → Hp → Prop} {k : Bool → Store → R β} (h : P (r.bind k))
    (hok : ∀ d S', P (k d S') → ∀ H' As', Ext H As H' As' → StOk g H' As' S' → Q d H')
    (herr : ∀ c ds S', P (.err c ds S') → ∀ dd H' As', Ext H As H' As' → StOk g H' As' S' → ExcOk g H' As' c ds dd → W (.ref (g.ec c)) dd σ H') (hbad : ¬ P .bad) : PostT g W σ H As r Q := by
  cases r with
  | ok d S' => exact hok d S' h
  | err c ds S' => exact herr c ds S' h
  | bad => exact hbad h
theorem PostA.bind {β : Type} {P : R β → Prop} {r : R (List D)} {Q : List V → Hp → Prop} {k : List D → Store → R β} (h : P (r.bind k))
    (hok : ∀ d S', P (k d S') → ∀ v H' As', Ext H As H' As' → StOk g H' As' S' → IsL g.K H' As' d v → Q v H')
    (herr : ∀ c ds S', P (.err c ds S') → ∀ dd H' As', Ext H As H' As' → StOk g H' As' S' → ExcOk g H' As' c ds dd → W (.ref (g.ec c)) dd σ H') (hbad : ¬ P .bad) : PostA g W σ H As r Q := by
  cases r with
  | ok d S' => exact hok d S' h
  | err c ds S' => exact herr c ds S' h
  | bad => exact hbad h
theorem Post.stm {P : RS → Prop} {r : R D} {ρ : Rho} {k : D → Store → RS} (h : P (r.stm ρ k))
    (hok : ∀ d S', P (k d S') → ∀ v H' As', Ext H As H' As' → StOk g H' As' S' → Is g.K H' As' d v → Q v H')
    (herr : ∀ c ds S', P (.err c ds ρ S') → ∀ dd H' As', Ext H As H' As' → StOk g H' As' S' → ExcOk g H' As' c ds dd → W (.ref (g.ec c)) dd σ H') (hbad : ¬ P .bad) : Post g W σ H As r Q := by
  cases r with
  | ok d S' => exact hok d S' h
  | err c ds S' => exact herr c ds S' h
  | bad => exact hbad h
theorem PostT.stm {P : RS → Prop} {r : R Bool} {Q : Bool → Hp → Prop} {ρ : Rho} {k : Bool → Store → RS} (h : P (r.stm ρ k))
    (hok : ∀ d S', P (k d S') → ∀ H' As', Ext H As H' As' → StOk g H' As' S' → Q d H')
    (herr : ∀ c ds S', P (.err c ds ρ S') → ∀ dd H' As', Ext H As H' As' → StOk g H' As' S' → ExcOk g H' As' c ds dd → W (.ref (g.ec c)) dd σ H') (hbad : ¬ P .bad) : PostT g W σ H As r Q := by
  cases r with
  | ok d S' => exact hok d S' h
  | err c ds S' => exact herr c ds S' h
  | bad => exact hbad h
theorem PostA.stm {P : RS → Prop} {r : R (List D)} {Q : List V → Hp → Prop} {ρ : Rho} {k : List D → Store → RS} (h : P (r.stm ρ k))
    (hok : ∀ d S', P (k d S') → ∀ v H' As', Ext H As H' As' → StOk g H' As' S' → IsL g.K H' As' d v → Q v H')
    (herr : ∀ c ds S', P (.err c ds ρ S') → ∀ dd H' As', Ext H As H' As' → StOk g H' As' S' → ExcOk g H' As' c ds dd → W (.ref (g.ec c)) dd σ H') (hbad : ¬ P .bad) : PostA g W σ H As r Q := by
  cases r with
  | ok d S' => exact hok d S' h
  | err c ds S' => exact herr c ds S' h
  | bad => exact hbad h
end

/-! ### the judgements: a piece of syntax, answered by a function -/
structure FE (X : Cx) (g : G) (hx : HX) (W : WX) (e : Expr) (m : ME) : Prop where
  ex : X.K = g.K ∧ ∃ t, PE X e t ∧ Sn g hx W t m
structure FT (X : Cx) (g : G) (hx : HX) (W : WX) (e : Expr) (m : MT) : Prop where
  ex : X.K = g.K ∧ ∃ t, PT X e t ∧ SnT g hx W t m
structure FW (X : Cx) (g : G) (hx : HX) (W : WX) (e : Expr) (m : MT) : Prop where
  ex : X.K = g.K ∧ ∃ t, PW X e t ∧ SnT g hx W t m
structure FA (X : Cx) (g : G) (hx : HX) (W : WX) (es : List Expr) (m : MA) : Prop where
  ex : X.K = g.K ∧ ∃ t, PA X es t ∧ SnA g hx W t m
structure FS (X : Cx) (g : G) (hx : HX) (W : WX) (st : Stmt) (m : MS) : Prop where
  ex : X.K = g.K ∧ ∃ t, PS X st t ∧ SnS g hx W t m
structure FSs (X : Cx) (g : G) (hx : HX) (W : WX) (st : List Stmt) (m : MS) : Prop where
  ex : X.K = g.K ∧ ∃ t, PSs X st t ∧ SnS g hx W t m

/-! ### names, constants -/
def mVar (i : Nat) : ME := fun ρ S => match ρ[i]? with
  | some (.dat d) => .ok d S
  | _ => .bad
def mC (d : D) : ME := fun _ S => .ok d S
section
variable {X : Cx} {g : G} {hx : HX} {W : WX}
theorem Sn.c {d : D} {v : V} (h : ∀ K H As, Is K H As d v) : Sn g hx W (tC v) (mC d) := fun σ H As ρ S he hs Q hp => hp v H As (Ext.refl _ _) hs (h _ _ _)
theorem f_var (hk : X.K = g.K) (i : Nat) {x : Str} {pos : Pos} (hN : X.N[i]? = some x := by rfl) (hv : Vis X.env.scope x := by first | exact Or.inl rfl | exact Or.inr (Or.inl rfl) | exact Or.inr (Or.inr rfl)) (hd : (x == ("__debug__" : Str)) = false := by decide)
    (hcd : (x == ("__classdict__" : Str)) = false := by decide) : FE X g hx W (.Name x pos) (mVar i) := ⟨hk, _, pe_var hN hv hd hcd, fun σ H As ρ S he hs Q hp => by
  unfold mVar at hp
  cases q : ρ[i]? with
  | none => rw [q] at hp; exact False.elim hp
  | some s =>
    rw [q] at hp
    cases s with
    | un => exact False.elim hp
    | exc c ds => exact False.elim hp
    | dat d =>
      obtain ⟨v, e, r⟩ := he.at_ i _ q
      exact ⟨v, e, hp v H As (Ext.refl _ _) hs r⟩⟩
theorem f_int (hk : X.K = g.K) {i j pos} : FE X g hx W (.Constant (.int i) j pos) (mC (.int i)) := ⟨hk, _, pe_int, Sn.c fun _ _ _ => .int _⟩
theorem f_bl (hk : X.K = g.K) {b j pos} : FE X g hx W (.Constant (.bool b) j pos) (mC (.bl b)) := ⟨hk, _, pe_bl, Sn.c fun _ _ _ => .bl _⟩
theorem f_non (hk : X.K = g.K) {j pos} : FE X g hx W (.Constant .none j pos) (mC .non) := ⟨hk, _, pe_non, Sn.c fun _ _ _ => .non⟩
theorem f_str (hk : X.K = g.K) {x j pos} : FE X g hx W (.Constant (.str x) j pos) (mC (.str x)) := ⟨hk, _, pe_str, Sn.c fun _ _ _ => .str _⟩
/-- a module's constant int or text -/
theorem f_gint (hk : X.K = g.K) {i : Int} {x : Str} {pos : Pos} (hm : ∃ t, X.mg x = some (.int i t)) (hg : Gl X x := by rfl) (hd : (x == ("__debug__" : Str)) = false := by decide) : FE X g hx W (.Name x pos) (mC (.int i)) :=
  let ⟨t, h⟩ := hm
  ⟨hk, _, pe_glob hg h (v := .int i) ⟨t, rfl⟩ hd, Sn.c fun _ _ _ => .int _⟩
theorem f_gstr (hk : X.K = g.K) {z : Str} {x : Str} {pos : Pos} (hm : ∃ t, X.mg x = some (.str z t)) (hg : Gl X x := by rfl) (hd : (x == ("__debug__" : Str)) = false := by decide) : FE X g hx W (.Name x pos) (mC (.str z)) :=
  let ⟨t, h⟩ := hm
  ⟨hk, _, pe_glob hg h (v := .str z) ⟨t, rfl⟩ hd, Sn.c fun _ _ _ => .str _⟩

/-! ### arguments -/
def mNil : MA := fun _ S => .ok [] S
def mCons (ma : ME) (mr : MA) : MA := fun ρ S => (ma ρ S).bind fun d S1 => (mr ρ S1).bind fun ds S2 => .ok (d :: ds) S2
theorem fa_nil (hk : X.K = g.K) : FA X g hx W [] mNil := ⟨hk, _, pa_nil, fun σ H As ρ S he hs Q hp => hp [] H As (Ext.refl _ _) hs .nil⟩
theorem fa_cons {e : Expr} {es : List Expr} {ma : ME} {mr : MA} (ha : FE X g hx W e ma) (hr : FA X g hx W es mr) (hs : starEach (e :: es) X.env = (false, eval e X.env) :: starEach es X.env := by rfl) : FA X g hx W (e :: es) (mCons ma mr) := by
  obtain ⟨hk, ta, pa, sa⟩ := ha.ex
  obtain ⟨_, tr, pr, sr⟩ := hr.ex
  refine ⟨hk, _, pa_cons pa pr hs, fun σ H As ρ S he hs Q hp => ?_⟩
  refine sa σ H As ρ S he hs _ (Post.bind (P := fun r => PostA g W σ H As r Q) hp (fun d S1 hp1 v H1 As1 e1 s1 i1 => ?_) (fun _ _ _ q => q) id)
  refine sr σ H1 As1 ρ S1 (he.up e1) s1 _ (PostA.bind (P := fun r => PostA g W σ H1 As1 r Q) (hp1.up e1) (fun ds S2 hp2 vs H2 As2 e2 s2 i2 => ?_) (fun _ _ _ q => q) id)
  exact hp2 (v :: vs) H2 As2 e2 s2 (.cons (i1.up e2) i2)

/-! ### operations on values -/
/-- r is answered by f -/
def RSn (g : G) (r : R2) (f : D → D → Store → R D) : Prop := ∀ (H : Hp) (As : List Addr) (S : Store) (x y : V) (d e : D), StOk g H As S → Is g.K H As d x → Is g.K H As e y → ∀ Q : VK,
  (∀ z S', f d e S = .ok z S' → ∀ v H' As', Ext H As H' As' → StOk g H' As' S' → Is g.K H' As' z v → Q v H') → (∃ z S', f d e S = .ok z S') → r x y H Q
def mOp (f : D → D → Store → R D) (ma mb : ME) : ME := fun ρ S => (ma ρ S).bind fun d S1 => (mb ρ S1).bind fun e S2 => f d e S2
/-- f never raises -/
def NoErr (f : D → D → Store → R D) : Prop := ∀ d e S c ds S', f d e S ≠ .err c ds S'
theorem Sn.op {ta tb : TE} {ma mb : ME} {r : R2} {f : D → D → Store → R D} (sa : Sn g hx W ta ma) (sb : Sn g hx W tb mb) (hr : RSn g r f) (hn : NoErr f) : Sn g hx W (tOp r ta tb) (mOp f ma mb) := fun σ H As ρ S he hs Q hp => by
  refine sa σ H As ρ S he hs _ (Post.bind (P := fun r => Post g W σ H As r Q) hp (fun d S1 hp1 v H1 As1 e1 s1 i1 => ?_) (fun _ _ _ q => q) id)
  refine sb σ H1 As1 ρ S1 (he.up e1) s1 _ (Post.bind (P := fun r => Post g W σ H1 As1 r Q) (hp1.up e1) (fun e S2 hp2 u H2 As2 e2 s2 i2 => ?_) (fun _ _ _ q => q) id)
  have hp3 := hp2.up e2
  cases q : f d e S2 with
  | ok z S3 =>
    rw [q] at hp3
    exact hr H2 As2 S2 v u d e s2 (i1.up e2) i2 Q (fun z' S' q' => by rw [q] at q'; cases q'; exact hp3) ⟨z, S3, q⟩
  | err c ds S3 => exact absurd q (hn d e S2 c ds S3)
  | bad => rw [q] at hp3; exact False.elim hp3
theorem f_op {a b : Expr} {op : Operator} {pos : Pos} {ma mb : ME} {r : R2} {f : D → D → Store → R D} (ho : OpR X (binaryOp op) r) (hr : RSn g r f) (hn : NoErr f) (ha : FE X g hx W a ma) (hb : FE X g hx W b mb) : FE X g hx W (.BinOp a op b pos) (mOp f ma mb) := by
  obtain ⟨hk, ta, pa, sa⟩ := ha.ex
  obtain ⟨_, tb, pb, sb⟩ := hb.ex
  exact ⟨hk, _, pe_op ho pa pb, Sn.op sa sb hr hn⟩
theorem f_cmp {a b : Expr} {op : CmpOp} {pos : Pos} {ma mb : ME} {r : R2} {f : D → D → Store → R D} (ho : OpR X (compareOp op) r) (hr : RSn g r f) (hn : NoErr f) (ha : FE X g hx W a ma) (hb : FE X g hx W b mb) (hm : behindInMarks op b = false) : FE X g hx W (.Compare a [op] [b] pos) (mOp f ma mb) := by
  obtain ⟨hk, ta, pa, sa⟩ := ha.ex
  obtain ⟨_, tb, pb, sb⟩ := hb.ex
  exact ⟨hk, _, pe_cmpR ho pa pb hm, Sn.op sa sb hr hn⟩
end
end FL
end

section
set_option autoImplicit false
namespace FL
open PySem L2

theorem szle {n : Nat} (h : n ≤ 16777216) : n ≤ sizeLine := by rw [sizeLine_eq]; exact h
theorem szlt {n : Nat} (h : n < 16777216) : n < sizeLine := by rw [sizeLine_eq]; exact h
def getL (S : Store) (n : Nat) : Option (List D) := match S[n]? with
  | some (.lst ds) => some ds
  | _ => none
theorem getL_some {S : Store} {n : Nat} {ds : List D} (h : getL S n = some ds) : S[n]? = some (.lst ds) := by
  unfold getL at h
  split at h
  · rename_i q; cases h; exact q
  · cases h
section
variable {X : Cx} {g : G} {hx : HX} {W : WX} {H : Hp} {As : List Addr} {S : Store}
theorem StOk.lst (s : StOk g H As S) {n : Nat} {ds : List D} (h : S[n]? = some (.lst ds)) : ∃ a xs, As[n]? = some a ∧ H a = some (.lst xs) ∧ IsL g.K H As ds xs := by
  obtain ⟨a, ha, xs, h1, h2⟩ := s.at h
  exact ⟨a, xs, ha, h1, h2⟩
theorem IsRef {n : Nat} {v : V} (h : Is g.K H As (.ref n) v) : ∃ a, v = .ref a ∧ As[n]? = some a := by
  cases h with | ref h => exact ⟨_, rfl, h⟩

/-! ### operators -/
def bAdd : D → D → Store → R D
  | .int i, .int j, S => .ok (.int (i + j)) S
  | .str x, .str y, S => if x.length + y.length ≤ 16777216 then .ok (.str (x ++ y)) S else .bad
  | .tup xs, .tup ys, S => if xs.length + ys.length ≤ 16777216 then .ok (.tup (xs ++ ys)) S else .bad
  | .ref n, .ref m, S => match getL S n, getL S m with
    | some xs, some ys => if xs.length + ys.length ≤ 16777216 then .ok (.ref S.length) (S ++ [.lst (xs ++ ys)]) else .bad
    | _, _ => .bad
  | _, _, _ => .bad
def bSub : D → D → Store → R D
  | .int i, .int j, S => .ok (.int (i - j)) S
  | _, _, _ => .bad
def bMul : D → D → Store → R D
  | .int i, .int j, S => if (i.natAbs < 2 ^ 64 ∨ j.natAbs < 2 ^ 64) ∨ (i.natAbs < 2 ^ 9000 ∧ j.natAbs < 2 ^ 9000) then .ok (.int (i * j)) S else .bad
  | _, _, _ => .bad
def bMod : D → D → Store → R D
  | .int i, .int j, S => if 0 < j then .ok (.int (i % j)) S else .bad
  | _, _, _ => .bad
def bDiv : D → D → Store → R D
  | .int i, .int j, S => if 0 < j ∧ j.natAbs < 2 ^ 300 then .ok (.int (i / j)) S else .bad
  | _, _, _ => .bad
def bPow : D → D → Store → R D
  | .int i, .int j, S => if 0 ≤ j ∧ j ≤ 1000000 ∧ i.natAbs < 2 ^ 64 then .ok (.int (i ^ j.toNat)) S else .bad
  | _, _, _ => .bad
theorem ne_add : NoErr bAdd := by
  intro d e S c ds S' h
  unfold bAdd at h
  split at h <;> (try cases h) <;> (try (split at h <;> (try cases h))) <;> (try (split at h <;> cases h))
theorem ne_sub : NoErr bSub := by intro d e S c ds S' h; unfold bSub at h; split at h <;> cases h
theorem ne_mul : NoErr bMul := by intro d e S c ds S' h; unfold bMul at h; split at h <;> (try cases h); split at h <;> cases h
theorem ne_mod : NoErr bMod := by intro d e S c ds S' h; unfold bMod at h; split at h <;> (try cases h); split at h <;> cases h
theorem ne_div : NoErr bDiv := by intro d e S c ds S' h; unfold bDiv at h; split at h <;> (try cases h); split at h <;> cases h
theorem ne_pow : NoErr bPow := by intro d e S c ds S' h; unfold bPow at h; split at h <;> (try cases h); split at h <;> cases h
/-- a rule that leaves the heap as it is -/
theorem RSn.pure {H : Hp} {As : List Addr} {S : Store} {z : D} {v : V} {Q : VK} {r : R D} (hs : StOk g H As S) (he : r = .ok z S) (k : ∀ z S', r = .ok z S' → ∀ v H' As', Ext H As H' As' → StOk g H' As' S' → Is g.K H' As' z v → Q v H') (i : Is g.K H As z v) : Q v H := k z S he v H As (Ext.refl _ _) hs i
def rAdd4 (K : PySem.W.Frag) : R2 := fun x y H Q => (rI0 fun i j => .int (i + j)) x y H Q ∨ (∃ i j, x = .str i ∧ y = .str j ∧ i.length + j.length ≤ sizeLine ∧ Q (.str (i ++ j)) H) ∨ rCatA K x y H Q ∨ rCat x y H Q
theorem op_add4 : OpR X (binaryOp .Add) (rAdd4 X.K) := op_add.or (op_add_str.or (op_catA.or op_cat))
theorem rs_add : RSn g (rAdd4 g.K) bAdd := by
  intro H As S x y d e hs ix iy Q k ⟨z, S', he⟩
  have hz := he
  unfold bAdd at he
  split at he
  · cases he; cases ix; cases iy
    exact .inl ⟨_, _, rfl, rfl, RSn.pure hs hz k (.int _)⟩
  · cases ix; cases iy
    split at he
    · rename_i hl
      cases he
      exact .inr (.inl ⟨_, _, rfl, rfl, szle hl, RSn.pure hs hz k (.str _)⟩)
    · cases he
  · cases ix with
    | tup h1 i1 =>
      cases iy with
      | tup h2 i2 =>
        split at he
        · rename_i hl
          cases he
          refine .inr (.inr (.inl ⟨_, _, _, _, rfl, rfl, h1, h2, szle (by rw [← i1.len, ← i2.len]; exact hl), fun e1 => ?_, fun e1 e2 => ?_, fun e1 e2 p hp => ?_⟩))
          · refine RSn.pure hs hz k (.tup h2 ?_)
            subst e1
            cases i1
            exact i2
          · refine RSn.pure hs hz k (.tup h1 ?_)
            subst e2
            cases i2
            rw [List.append_nil]
            exact i1
          · exact k _ _ hz (.ref p) _ As (Ext.side hs hp) (hs.side hp) (.tup (SqT.of upd_same) ((i1.app i2).up (Ext.side hs hp)))
        · cases he
  · obtain ⟨a, rfl, ha⟩ := IsRef ix
    obtain ⟨b, rfl, hb⟩ := IsRef iy
    split at he
    · rename_i xs ys q1 q2
      split at he
      · rename_i hl
        cases he
        obtain ⟨a', us, ha', h1, i1⟩ := hs.lst (getL_some q1)
        obtain ⟨b', vs, hb', h2, i2⟩ := hs.lst (getL_some q2)
        rw [ha] at ha'; cases ha'
        rw [hb] at hb'; cases hb'
        refine .inr (.inr (.inr ⟨a, b, us, vs, rfl, rfl, h1, h2, szle (by rw [← i1.len, ← i2.len]; exact hl), fun p hp => ?_⟩))
        have ex : Ext H As (upd H p (.lst (us ++ vs))) (As ++ [p]) := Ext.new hp
        exact k _ _ hz (.ref p) _ _ ex (hs.new hp ⟨_, upd_same, (i1.app i2).up ex⟩) (.ref (by rw [← hs.len]; exact List.getElem?_concat_length))
      · cases he
    · cases he
  · cases he
theorem rs_sub : RSn g (rI0 fun i j => .int (i - j)) bSub := by
  intro H As S x y d e hs ix iy Q k ⟨z, S', he⟩
  have hz := he
  unfold bSub at he
  split at he
  · cases he; cases ix; cases iy
    exact ⟨_, _, rfl, rfl, RSn.pure hs hz k (.int _)⟩
  · cases he
theorem CMul.of {i j : Int} (h : i.natAbs < 2 ^ 64 ∨ j.natAbs < 2 ^ 64) : CMul i j := by
  rcases h with h | h
  · left; omega
  · right; omega
def rMul2 : R2 := fun x y H Q => (rI CMul fun i j => .int (i * j)) x y H Q ∨ (rI CMulW fun i j => .int (i * j)) x y H Q
theorem op_mul2 : OpR X (binaryOp .Mult) rMul2 := op_mul.or op_mulW
theorem rs_mul : RSn g rMul2 bMul := by
  intro H As S x y d e hs ix iy Q k ⟨z, S', he⟩
  have hz := he
  unfold bMul at he
  split at he
  · cases ix; cases iy
    split at he
    · rename_i hc
      cases he
      rcases hc with hc | hc
      · exact .inl ⟨_, _, rfl, rfl, CMul.of hc, RSn.pure hs hz k (.int _)⟩
      · exact .inr ⟨_, _, rfl, rfl, wide_mul hc.1 hc.2 (by decide) (by decide) (by decide), RSn.pure hs hz k (.int _)⟩
    · cases he
  · cases he
theorem rs_mod : RSn g (rI (fun _ j => 0 < j) fun i j => .int (i % j)) bMod := by
  intro H As S x y d e hs ix iy Q k ⟨z, S', he⟩
  have hz := he
  unfold bMod at he
  split at he
  · cases ix; cases iy
    split at he
    · rename_i hc
      cases he
      exact ⟨_, _, rfl, rfl, hc, RSn.pure hs hz k (.int _)⟩
    · cases he
  · cases he
theorem rs_div : RSn g (rI CDivW fun i j => .int (i / j)) bDiv := by
  intro H As S x y d e hs ix iy Q k ⟨z, S', he⟩
  have hz := he
  unfold bDiv at he
  split at he
  · cases ix; cases iy
    split at he
    · rename_i hc
      cases he
      exact ⟨_, _, rfl, rfl, wide_div (i := 0) hc.1 hc.2 (by decide) (by decide), RSn.pure hs hz k (.int _)⟩
    · cases he
  · cases he
theorem rs_pow : RSn g (rI CPow fun i j => .int (i ^ j.toNat)) bPow := by
  intro H As S x y d e hs ix iy Q k ⟨z, S', he⟩
  have hz := he
  unfold bPow at he
  split at he
  · cases ix; cases iy
    split at he
    · rename_i hc
      cases he
      exact ⟨_, _, rfl, rfl, hc, RSn.pure hs hz k (.int _)⟩
    · cases he
  · cases he
variable {a b c : Expr} {ma mb mc : ME} {pos : Pos}
theorem f_add (ha : FE X g hx W a ma) (hb : FE X g hx W b mb) : FE X g hx W (.BinOp a .Add b pos) (mOp bAdd ma mb) := f_op (by have := ha.ex.1; rw [← this]; exact op_add4) rs_add ne_add ha hb
theorem f_sub (ha : FE X g hx W a ma) (hb : FE X g hx W b mb) : FE X g hx W (.BinOp a .Sub b pos) (mOp bSub ma mb) := f_op op_sub rs_sub ne_sub ha hb
theorem f_mul (ha : FE X g hx W a ma) (hb : FE X g hx W b mb) : FE X g hx W (.BinOp a .Mult b pos) (mOp bMul ma mb) := f_op op_mul2 rs_mul ne_mul ha hb
theorem f_mod (ha : FE X g hx W a ma) (hb : FE X g hx W b mb) : FE X g hx W (.BinOp a .Mod b pos) (mOp bMod ma mb) := f_op op_mod rs_mod ne_mod ha hb
theorem f_div (ha : FE X g hx W a ma) (hb : FE X g hx W b mb) : FE X g hx W (.BinOp a .FloorDiv b pos) (mOp bDiv ma mb) := f_op op_fdivW rs_div ne_div ha hb
theorem f_pow (ha : FE X g hx W a ma) (hb : FE X g hx W b mb) : FE X g hx W (.BinOp a .Pow b pos) (mOp bPow ma mb) := f_op op_pow rs_pow ne_pow ha hb
/-! ### unary minus -/
def mNeg (ma : ME) : ME := fun ρ S => (ma ρ S).bind fun d S1 => match d with
  | .int i => .ok (.int (-i)) S1
  | _ => .bad
theorem f_neg (ha : FE X g hx W a ma) : FE X g hx W (.UnaryOp .USub a pos) (mNeg ma) := by
  obtain ⟨hk, ta, pa, sa⟩ := ha.ex
  refine ⟨hk, _, pe_un un_neg pa, fun σ H As ρ S he hs Q hp => ?_⟩
  refine sa σ H As ρ S he hs _ (Post.bind (P := fun r => Post g W σ H As r Q) hp (fun d S1 hp1 v H1 As1 e1 s1 i1 => ?_) (fun _ _ _ q => q) id)
  cases i1 with
  | int i => exact ⟨i, rfl, hp1 (.int (-i)) H1 As1 e1 s1 (.int _)⟩
  | _ => exact False.elim hp1
end
end FL
end

section
set_option autoImplicit false
namespace FL
open PySem L2

/-! ### == of data -/
mutual
def pyD : D → PyData
  | .non => .none
  | .bl b => .bool b
  | .int i => .int i
  | .str s => .str s
  | .tup ds => .tuple (pyL ds)
  | .fz ds => .list (pyL ds)
  | .ref _ => .dict []
def pyL : List D → List PyData
  | [] => []
  | d :: ds => pyD d :: pyL ds
end
section
variable {K : PySem.W.Frag} {H : Hp} {As : List Addr}
mutual
theorem Is.dp : ∀ (d : D) (v : V), Is K H As d v → (pyD d).canLay0 = true → Dp K H v (pyD d)
  | .non, _, h, _ => by cases h; exact .non
  | .bl b, _, h, _ => by cases h; exact .bl b
  | .int b, _, h, _ => by cases h; exact .int b
  | .str b, _, h, _ => by cases h; exact .str b
  | .ref n, _, h, b => absurd (show (PyData.dict []).canLay0 = true from b) (by simp [PyData.canLay0])
  | .tup ds, _, h, b => by
    cases h with
    | tup h r => exact .tup h (IsL.dp ds _ r (by simpa [pyD, PyData.canLay0] using b))
  | .fz ds, _, h, b => by
    cases h with
    | fz h r => exact .lst h.sq (IsL.dp ds _ r (by simpa [pyD, PyData.canLay0] using b))
theorem IsL.dp : ∀ (ds : List D) (vs : List V), IsL K H As ds vs → PyData.canLayAll0 (pyL ds) = true → DpAll K H vs (pyL ds)
  | [], _, h, _ => by cases h; exact .nil
  | d :: ds, _, h, b => by
    cases h with
    | cons h r =>
      have b' : PyData.canLay0 (pyD d) = true ∧ PyData.canLayAll0 (pyL ds) = true := by simpa [pyL, PyData.canLayAll0, Bool.and_eq_true] using b
      exact .cons (Is.dp d _ h b'.1) (IsL.dp ds _ r b'.2)
end
end
/-- == of two scalars -/
def eqS : D → D → Option Bool
  | .non, .non => some true
  | .int i, .int j => some (decide (i = j))
  | .bl i, .bl j => some (decide (i = j))
  | .str i, .str j => some (decide (i = j))
  | .non, .int _ => some false
  | .int _, .non => some false
  | .non, .bl _ => some false
  | .bl _, .non => some false
  | .non, .str _ => some false
  | .str _, .non => some false
  | .int _, .str _ => some false
  | .str _, .int _ => some false
  | .bl _, .str _ => some false
  | .str _, .bl _ => some false
  | _, _ => none
def eqD (d e : D) : Option Bool := match eqS d e with
  | some b => some b
  | none => if SeqAt.shaped (pyD d) = true ∧ SeqAt.shaped (pyD e) = true then some (PyData.eqv (pyD d) (pyD e)) else none
def bEq (d e : D) (S : Store) : R D := match eqD d e with
  | some b => .ok (.bl b) S
  | none => .bad
def bNe (d e : D) (S : Store) : R D := match eqD d e with
  | some b => .ok (.bl (!b)) S
  | none => .bad
def bLt : D → D → Store → R D
  | .int i, .int j, S => .ok (.bl (decide (i < j))) S
  | _, _, _ => .bad
def bLe : D → D → Store → R D
  | .int i, .int j, S => .ok (.bl (decide (i ≤ j))) S
  | _, _, _ => .bad
def bGt : D → D → Store → R D
  | .int i, .int j, S => .ok (.bl (decide (j < i))) S
  | _, _, _ => .bad
def bGe : D → D → Store → R D
  | .int i, .int j, S => .ok (.bl (decide (j ≤ i))) S
  | _, _, _ => .bad
def isNonD : D → Bool
  | .non => true
  | _ => false
def bIsN : D → D → Store → R D
  | d, .non, S => .ok (.bl (isNonD d)) S
  | _, _, _ => .bad
def bNotN : D → D → Store → R D
  | d, .non, S => .ok (.bl (!isNonD d)) S
  | _, _, _ => .bad
theorem ne_eq : NoErr bEq := by intro d e S c ds S' h; unfold bEq at h; split at h <;> cases h
theorem ne_ne : NoErr bNe := by intro d e S c ds S' h; unfold bNe at h; split at h <;> cases h
theorem ne_lt : NoErr bLt := by intro d e S c ds S' h; unfold bLt at h; split at h <;> cases h
theorem ne_le : NoErr bLe := by intro d e S c ds S' h; unfold bLe at h; split at h <;> cases h
theorem ne_gt : NoErr bGt := by intro d e S c ds S' h; unfold bGt at h; split at h <;> cases h
theorem ne_ge : NoErr bGe := by intro d e S c ds S' h; unfold bGe at h; split at h <;> cases h
theorem ne_isN : NoErr bIsN := by intro d e S c ds S' h; unfold bIsN at h; split at h <;> cases h
theorem ne_notN : NoErr bNotN := by intro d e S c ds S' h; unfold bNotN at h; split at h <;> cases h
section
variable {X : Cx} {g : G} {hx : HX} {W : WX} {H : Hp} {As : List Addr} {S : Store}
def rEq2 (K : PySem.W.Frag) : R2 := fun x y H Q => rEq x y H Q ∨ rEqD K x y H Q
def rNe2 (K : PySem.W.Frag) : R2 := fun x y H Q => rNe x y H Q ∨ rNeD K x y H Q
theorem op_eq2 (hu : X.A.units + 64 < cLine) : OpR X (compareOp .Eq) (rEq2 X.K) := op_eq.or (op_eqD hu)
theorem op_ne2 (hu : X.A.units + 64 < cLine) : OpR X (compareOp .NotEq) (rNe2 X.K) := op_ne.or (op_neD hu)
theorem scalD {x y : V} {d e : D} {b : Bool} (h : eqS d e = some b) (ix : Is g.K H As d x) (iy : Is g.K H As e y) : scal x y = true ∧ decide (x = y) = b := by
  cases ix <;> cases iy <;> first
    | (simp only [eqS, Option.some.injEq] at h; subst h; refine ⟨rfl, ?_⟩; simp)
    | (simp [eqS] at h)
theorem rs_eq : RSn g (rEq2 g.K) bEq := by
  intro H As S x y d e hs ix iy Q k ⟨z, S', he⟩
  have hz := he
  unfold bEq at he
  split at he
  · rename_i b q
    cases he
    unfold eqD at q
    split at q
    · rename_i b' q'
      cases q
      obtain ⟨h1, h2⟩ := scalD q' ix iy
      refine .inl ⟨h1, ?_⟩
      rw [h2]
      exact RSn.pure hs hz k (.bl _)
    · split at q
      · rename_i hc
        cases q
        exact .inr ⟨_, _, Is.dp d x ix (SeqAt.canLay_of_shaped hc.1), Is.dp e y iy (SeqAt.canLay_of_shaped hc.2), hc.1, hc.2, RSn.pure hs hz k (.bl _)⟩
      · cases q
  · cases he
theorem rs_ne : RSn g (rNe2 g.K) bNe := by
  intro H As S x y d e hs ix iy Q k ⟨z, S', he⟩
  have hz := he
  unfold bNe at he
  split at he
  · rename_i b q
    cases he
    unfold eqD at q
    split at q
    · rename_i b' q'
      cases q
      obtain ⟨h1, h2⟩ := scalD q' ix iy
      refine .inl ⟨h1, ?_⟩
      rw [h2]
      exact RSn.pure hs hz k (.bl _)
    · split at q
      · rename_i hc
        cases q
        exact .inr ⟨_, _, Is.dp d x ix (SeqAt.canLay_of_shaped hc.1), Is.dp e y iy (SeqAt.canLay_of_shaped hc.2), hc.1, hc.2, RSn.pure hs hz k (.bl _)⟩
      · cases q
  · cases he
theorem rs_lt : RSn g (rI0 fun i j => .bl (decide (i < j))) bLt := by
  intro H As S x y d e hs ix iy Q k ⟨z, S', he⟩
  have hz := he
  unfold bLt at he
  split at he
  · cases he; cases ix; cases iy; exact ⟨_, _, rfl, rfl, RSn.pure hs hz k (.bl _)⟩
  · cases he
theorem rs_le : RSn g (rI0 fun i j => .bl (decide (i ≤ j))) bLe := by
  intro H As S x y d e hs ix iy Q k ⟨z, S', he⟩
  have hz := he
  unfold bLe at he
  split at he
  · cases he; cases ix; cases iy; exact ⟨_, _, rfl, rfl, RSn.pure hs hz k (.bl _)⟩
  · cases he
theorem rs_gt : RSn g (rI0 fun i j => .bl (decide (j < i))) bGt := by
  intro H As S x y d e hs ix iy Q k ⟨z, S', he⟩
  have hz := he
  unfold bGt at he
  split at he
  · cases he; cases ix; cases iy; exact ⟨_, _, rfl, rfl, RSn.pure hs hz k (.bl _)⟩
  · cases he
theorem rs_ge : RSn g (rI0 fun i j => .bl (decide (j ≤ i))) bGe := by
  intro H As S x y d e hs ix iy Q k ⟨z, S', he⟩
  have hz := he
  unfold bGe at he
  split at he
  · cases he; cases ix; cases iy; exact ⟨_, _, rfl, rfl, RSn.pure hs hz k (.bl _)⟩
  · cases he
theorem isNonV {x : V} {d : D} (ix : Is g.K H As d x) : decide (x = .non) = isNonD d := by
  cases ix <;> simp [isNonD]
theorem rs_isN : RSn g (fun x y H Q => y = .non ∧ Q (.bl (decide (x = .non))) H) bIsN := by
  intro H As S x y d e hs ix iy Q k ⟨z, S', he⟩
  have hz := he
  unfold bIsN at he
  split at he
  · cases he; cases iy; refine ⟨rfl, ?_⟩; rw [isNonV ix]; exact RSn.pure hs hz k (.bl _)
  · cases he
theorem rs_notN : RSn g (fun x y H Q => y = .non ∧ Q (.bl (!decide (x = .non))) H) bNotN := by
  intro H As S x y d e hs ix iy Q k ⟨z, S', he⟩
  have hz := he
  unfold bNotN at he
  split at he
  · cases he; cases iy; refine ⟨rfl, ?_⟩; rw [isNonV ix]; exact RSn.pure hs hz k (.bl _)
  · cases he
/-- x in y: one sign in a text; flat things in a row -/
def flatD : D → Bool
  | .non => true
  | .bl _ => true
  | .int _ => true
  | .str _ => true
  | _ => false
def eqF : D → D → Bool
  | .non, .non => true
  | .bl a, .bl b => a == b
  | .bl a, .int b => (if a then 1 else 0) == b
  | .int a, .bl b => a == (if b then 1 else 0)
  | .int a, .int b => a == b
  | .str a, .str b => a == b
  | _, _ => false
def inD (x : D) (ds : List D) : Bool := ds.any fun y => eqF y x
def rowOf (S : Store) : D → Option (List D)
  | .tup ds => some ds
  | .fz ds => some ds
  | .ref n => getL S n
  | _ => none
def inB (d e : D) (S : Store) : Option Bool := match d, e with
  | .str x, .str z => if x.cps.size = 1 then some (decide (x.cps.getD 0 0 ∈ z.cps.toList)) else none
  | d, e => match rowOf S e with
    | some ds => if flatD d = true ∧ ds.all flatD = true then some (inD d ds) else none
    | none => none
def bIn (d e : D) (S : Store) : R D := match inB d e S with
  | some b => .ok (.bl b) S
  | none => .bad
def bNotIn (d e : D) (S : Store) : R D := match inB d e S with
  | some b => .ok (.bl (!b)) S
  | none => .bad
theorem ne_in : NoErr bIn := by intro d e S c ds S' h; unfold bIn at h; split at h <;> cases h
theorem ne_notIn : NoErr bNotIn := by intro d e S c ds S' h; unfold bNotIn at h; split at h <;> cases h
theorem flatIs {d : D} {x : V} (h : Is g.K H As d x) (f : flatD d = true) : flatV x = true := by
  cases h <;> first | rfl | (simp [flatD] at f)
theorem flatIsL : ∀ {ds : List D} {xs : List V}, IsL g.K H As ds xs → ds.all flatD = true → xs.all flatV = true
  | _, _, .nil, _ => rfl
  | d :: ds, x :: xs, .cons h r, f => by
    rw [List.all_cons, Bool.and_eq_true] at f ⊢
    exact ⟨flatIs h f.1, flatIsL r f.2⟩
theorem eqFV {d e : D} {x y : V} (h : Is g.K H As d x) (h2 : Is g.K H As e y) (f : flatD d = true) (f2 : flatD e = true) : eqV x y = eqF d e := by
  cases h <;> cases h2 <;> first | rfl | (simp [flatD] at f f2)
theorem inDV {d : D} {x : V} (h : Is g.K H As d x) (f : flatD d = true) : ∀ {ds : List D} {xs : List V}, IsL g.K H As ds xs → ds.all flatD = true → inV x xs = inD d ds
  | _, _, .nil, _ => rfl
  | e :: ds, y :: xs, .cons h2 r, f2 => by
    rw [List.all_cons, Bool.and_eq_true] at f2
    have ih := inDV h f r f2.2
    unfold inV inD at ih ⊢
    rw [List.any_cons, List.any_cons, ih, eqFV h2 h f2.1 f]
theorem StOk.row (s : StOk g H As S) {e : D} {y : V} {ds : List D} (h : rowOf S e = some ds) (iy : Is g.K H As e y) : ∃ p xs, y = .ref p ∧ (SqL g.K H p xs ∨ SqT g.K H p xs) ∧ IsL g.K H As ds xs := by
  cases iy with
  | tup h1 r => cases h; exact ⟨_, _, rfl, .inr h1, r⟩
  | fz h1 r => cases h; exact ⟨_, _, rfl, .inl h1.sq, r⟩
  | ref ha =>
    obtain ⟨a, xs, ha', h1, r⟩ := s.lst (getL_some h)
    rw [ha] at ha'; cases ha'
    exact ⟨_, _, rfl, .inl (SqL.of h1), r⟩
  | _ => cases h
def rIn2 (K : PySem.W.Frag) : R2 := fun x y H Q => (∃ (c : Nat) (z : Str), x = .str ⟨#[c]⟩ ∧ y = .str z ∧ Q (.bl (decide (c ∈ z.cps.toList))) H) ∨ rIn K false x y H Q
def rNotIn2 (K : PySem.W.Frag) : R2 := fun x y H Q => (∃ (c : Nat) (z : Str), x = .str ⟨#[c]⟩ ∧ y = .str z ∧ Q (.bl (!decide (c ∈ z.cps.toList))) H) ∨ rIn K true x y H Q
theorem op_in2 : OpR X (compareOp .In) (rIn2 X.K) := op_in_sign.or op_in_seq
theorem op_notIn2 : OpR X (compareOp .NotIn) (rNotIn2 X.K) := op_notIn_sign.or op_notIn_seq
theorem str1 {x : Str} (h : x.cps.size = 1) : x = ⟨#[x.cps.getD 0 0]⟩ := by
  obtain ⟨⟨l⟩⟩ := x
  match l, h with
  | [c], _ => rfl
theorem rs_in : RSn g (rIn2 g.K) bIn := by
  intro H As S x y d e hs ix iy Q k ⟨z, S', he⟩
  have hz := he
  unfold bIn at he
  split at he
  · rename_i b q
    cases he
    unfold inB at q
    split at q
    · cases ix; cases iy
      split at q
      · rename_i h1
        cases q
        exact .inl ⟨_, _, congrArg V.str (str1 h1), rfl, RSn.pure hs hz k (.bl _)⟩
      · cases q
    · split at q
      · rename_i ds q2
        split at q
        · rename_i hf
          cases q
          obtain ⟨p, xs, rfl, hq, r⟩ := hs.row q2 iy
          refine .inr ⟨p, xs, rfl, hq, flatIs ix hf.1, flatIsL r hf.2, ?_⟩
          rw [if_neg Bool.false_ne_true, inDV ix hf.1 r hf.2]
          exact RSn.pure hs hz k (.bl _)
        · cases q
      · cases q
  · cases he
theorem rs_notIn : RSn g (rNotIn2 g.K) bNotIn := by
  intro H As S x y d e hs ix iy Q k ⟨z, S', he⟩
  have hz := he
  unfold bNotIn at he
  split at he
  · rename_i b q
    cases he
    unfold inB at q
    split at q
    · cases ix; cases iy
      split at q
      · rename_i h1
        cases q
        exact .inl ⟨_, _, congrArg V.str (str1 h1), rfl, RSn.pure hs hz k (.bl _)⟩
      · cases q
    · split at q
      · rename_i ds q2
        split at q
        · rename_i hf
          cases q
          obtain ⟨p, xs, rfl, hq, r⟩ := hs.row q2 iy
          refine .inr ⟨p, xs, rfl, hq, flatIs ix hf.1, flatIsL r hf.2, ?_⟩
          rw [if_pos rfl, inDV ix hf.1 r hf.2]
          exact RSn.pure hs hz k (.bl _)
        · cases q
      · cases q
  · cases he
end
section
variable {X : Cx} {g : G} {hx : HX} {W : WX} {a b c : Expr} {ma mb mc : ME} {pos : Pos}
theorem kEq {e : Expr} {m : ME} {f : PySem.W.Frag → Prop} (ha : FE X g hx W e m) (h : f X.K) : f g.K := by rw [← ha.ex.1]; exact h
theorem f_eq (hu : X.A.units + 64 < cLine) (ha : FE X g hx W a ma) (hb : FE X g hx W b mb) : FE X g hx W (.Compare a [.Eq] [b] pos) (mOp bEq ma mb) := f_cmp (kEq (f := fun K => OpR X (compareOp .Eq) (rEq2 K)) ha (op_eq2 hu)) rs_eq ne_eq ha hb (nomark b)
theorem f_ne (hu : X.A.units + 64 < cLine) (ha : FE X g hx W a ma) (hb : FE X g hx W b mb) : FE X g hx W (.Compare a [.NotEq] [b] pos) (mOp bNe ma mb) := f_cmp (kEq (f := fun K => OpR X (compareOp .NotEq) (rNe2 K)) ha (op_ne2 hu)) rs_ne ne_ne ha hb (nomark b)
theorem f_lt (ha : FE X g hx W a ma) (hb : FE X g hx W b mb) : FE X g hx W (.Compare a [.Lt] [b] pos) (mOp bLt ma mb) := f_cmp op_lt rs_lt ne_lt ha hb (nomark b)
theorem f_le (ha : FE X g hx W a ma) (hb : FE X g hx W b mb) : FE X g hx W (.Compare a [.LtE] [b] pos) (mOp bLe ma mb) := f_cmp op_le rs_le ne_le ha hb (nomark b)
theorem f_gt (ha : FE X g hx W a ma) (hb : FE X g hx W b mb) : FE X g hx W (.Compare a [.Gt] [b] pos) (mOp bGt ma mb) := f_cmp op_gt rs_gt ne_gt ha hb (nomark b)
theorem f_ge (ha : FE X g hx W a ma) (hb : FE X g hx W b mb) : FE X g hx W (.Compare a [.GtE] [b] pos) (mOp bGe ma mb) := f_cmp op_ge rs_ge ne_ge ha hb (nomark b)
theorem f_isN (ha : FE X g hx W a ma) (hb : FE X g hx W b mb) : FE X g hx W (.Compare a [.Is] [b] pos) (mOp bIsN ma mb) := f_cmp op_isN rs_isN ne_isN ha hb (nomark b)
theorem f_notN (ha : FE X g hx W a ma) (hb : FE X g hx W b mb) : FE X g hx W (.Compare a [.IsNot] [b] pos) (mOp bNotN ma mb) := f_cmp op_notN rs_notN ne_notN ha hb (nomark b)
theorem f_in (ha : FE X g hx W a ma) (hb : FE X g hx W b mb) (hm : behindInMarks .In b = false := by rfl) : FE X g hx W (.Compare a [.In] [b] pos) (mOp bIn ma mb) := f_cmp (kEq (f := fun K => OpR X (compareOp .In) (rIn2 K)) ha op_in2) rs_in ne_in ha hb hm
theorem f_notIn (ha : FE X g hx W a ma) (hb : FE X g hx W b mb) (hm : behindInMarks .NotIn b = false := by rfl) : FE X g hx W (.Compare a [.NotIn] [b] pos) (mOp bNotIn ma mb) := f_cmp (kEq (f := fun K => OpR X (compareOp .NotIn) (rNotIn2 K)) ha op_notIn2) rs_notIn ne_notIn ha hb hm
end
end FL
end

section
set_option autoImplicit false
namespace FL
open PySem L2

/-! ### comparisons, by their rules -/
structure CmpR (X : Cx) (g : G) (op : CmpOp) (f : D → D → Store → R D) : Prop where
  ex : ∃ r, OpR X (compareOp op) r ∧ RSn g r f ∧ NoErr f
section
variable {X : Cx} {g : G} {hx : HX} {W : WX} {a b c e : Expr} {ma mb mc m : ME} {pos : Pos} {op op' : CmpOp} {f f' : D → D → Store → R D} {t u : MT}
theorem cr_eq (hk : X.K = g.K) (hu : X.A.units + 64 < cLine) : CmpR X g .Eq bEq := ⟨_, by rw [← hk]; exact op_eq2 hu, rs_eq, ne_eq⟩
theorem cr_ne (hk : X.K = g.K) (hu : X.A.units + 64 < cLine) : CmpR X g .NotEq bNe := ⟨_, by rw [← hk]; exact op_ne2 hu, rs_ne, ne_ne⟩
theorem cr_lt : CmpR X g .Lt bLt := ⟨_, op_lt, rs_lt, ne_lt⟩
theorem cr_le : CmpR X g .LtE bLe := ⟨_, op_le, rs_le, ne_le⟩
theorem cr_gt : CmpR X g .Gt bGt := ⟨_, op_gt, rs_gt, ne_gt⟩
theorem cr_ge : CmpR X g .GtE bGe := ⟨_, op_ge, rs_ge, ne_ge⟩
theorem cr_isN : CmpR X g .Is bIsN := ⟨_, op_isN, rs_isN, ne_isN⟩
theorem cr_notN : CmpR X g .IsNot bNotN := ⟨_, op_notN, rs_notN, ne_notN⟩
theorem cr_in (hk : X.K = g.K) : CmpR X g .In bIn := ⟨_, by rw [← hk]; exact op_in2, rs_in, ne_in⟩
theorem cr_notIn (hk : X.K = g.K) : CmpR X g .NotIn bNotIn := ⟨_, by rw [← hk]; exact op_notIn2, rs_notIn, ne_notIn⟩
theorem fe_cmp (cr : CmpR X g op f) (ha : FE X g hx W a ma) (hb : FE X g hx W b mb) (hm : behindInMarks op b = false := by first | exact nomark _ | rfl) : FE X g hx W (.Compare a [op] [b] pos) (mOp f ma mb) :=
  let ⟨_, ho, hr, hn⟩ := cr.ex
  f_cmp ho hr hn ha hb hm
/-- a value as a test, where it is True or False -/
def mB (m : ME) : MT := fun ρ S => (m ρ S).bind fun d S1 => match d with
  | .bl b => .ok b S1
  | _ => .bad
theorem SnT.B {te : TE} (s : Sn g hx W te m) : SnT g hx W (fun σ H Q => te σ H fun x H' => ∃ k, x = .bl k ∧ Q k H') (mB m) := fun σ H As ρ S he hs Q hp => by
  refine s σ H As ρ S he hs _ (Post.bind (P := fun r => PostT g W σ H As r Q) hp (fun d S1 hp1 v H1 As1 e1 s1 i1 => ?_) (fun _ _ _ q => q) id)
  cases i1 with
  | bl b => exact ⟨b, rfl, hp1 H1 As1 e1 s1⟩
  | _ => exact False.elim hp1
theorem ft_cmp (cr : CmpR X g op f) (ha : FE X g hx W a ma) (hb : FE X g hx W b mb) (hm : behindInMarks op b = false := by first | exact nomark _ | rfl) : FT X g hx W (.Compare a [op] [b] pos) (mB (mOp f ma mb)) := by
  obtain ⟨_, ho, hr, hn⟩ := cr.ex
  obtain ⟨hk, ta, pa, sa⟩ := ha.ex
  obtain ⟨_, tb, pb, sb⟩ := hb.ex
  exact ⟨hk, _, pt_cmpR ho pa pb hm, SnT.B (Sn.op sa sb hr hn)⟩
def mChain (f f' : D → D → Store → R D) (ma mb mc : ME) : ME := fun ρ S => (ma ρ S).bind fun d S1 => (mb ρ S1).bind fun e S2 => (f d e S2).bind fun z S3 => match z with
  | .bl true => (mc ρ S3).bind fun h S4 => f' e h S4
  | .bl false => .ok (.bl false) S3
  | _ => .bad
theorem Sn.chain {ta tb tc : TE} {r r' : R2} (sa : Sn g hx W ta ma) (sb : Sn g hx W tb mb) (sc : Sn g hx W tc mc) (hr : RSn g r f) (hn : NoErr f) (hr' : RSn g r' f') (hn' : NoErr f') : Sn g hx W (tChain r r' ta tb tc) (mChain f f' ma mb mc) := fun σ H As ρ S he hs Q hp => by
  refine sa σ H As ρ S he hs _ (Post.bind (P := fun r => Post g W σ H As r Q) hp (fun d S1 hp1 v H1 As1 e1 s1 i1 => ?_) (fun _ _ _ q => q) id)
  refine sb σ H1 As1 ρ S1 (he.up e1) s1 _ (Post.bind (P := fun r => Post g W σ H1 As1 r Q) (hp1.up e1) (fun e S2 hp2 u H2 As2 e2 s2 i2 => ?_) (fun _ _ _ q => q) id)
  have hp3 := hp2.up e2
  cases q : f d e S2 with
  | err c ds S3 => exact absurd q (hn d e S2 c ds S3)
  | bad => rw [q] at hp3; exact False.elim hp3
  | ok z S3 =>
    rw [q] at hp3
    refine hr H2 As2 S2 v u d e s2 (i1.up e2) i2 _ (fun z' S' q' => ?_) ⟨z, S3, q⟩
    rw [q] at q'; cases q'
    intro zv H3 As3 e3 s3 i3
    have hp4 : Post g W σ H2 As2 ((R.ok z S3).bind fun z S3 => match z with
      | .bl true => (mc ρ S3).bind fun h S4 => f' e h S4
      | .bl false => .ok (.bl false) S3
      | _ => .bad) Q := hp3
    rw [bind_ok] at hp4
    cases i3 with
    | bl k =>
      refine ⟨k, rfl, ?_⟩
      cases k with
      | false =>
        rw [if_neg Bool.false_ne_true]
        exact hp4 (.bl false) H3 As3 e3 s3 (.bl _)
      | true =>
        rw [if_pos rfl]
        have he3 := ((he.up e1).up e2).up e3
        refine sc σ H3 As3 ρ S3 he3 s3 _ (Post.bind (P := fun r => Post g W σ H3 As3 r Q) (Post.up hp4 e3) (fun h S4 hp5 hv H4 As4 e4 s4 i4 => ?_) (fun _ _ _ q => q) id)
        have hp6 := hp5.up e4
        cases q2 : f' e h S4 with
        | ok z S5 =>
          rw [q2] at hp6
          exact hr' H4 As4 S4 u hv e h s4 ((i2.up e3).up e4) i4 Q (fun z' S' q' => by rw [q2] at q'; cases q'; exact hp6) ⟨z, S5, q2⟩
        | err c ds S3 => exact absurd q2 (hn' e h S4 c ds S3)
        | bad => rw [q2] at hp6; exact False.elim hp6
    | _ => exact False.elim hp4
theorem fe_chain (cr : CmpR X g op f) (cr' : CmpR X g op' f') (ha : FE X g hx W a ma) (hb : FE X g hx W b mb) (hc : FE X g hx W c mc) (hm : lastMarks [op, op'] [b, c] = false := by with_unfolding_all rfl) : FE X g hx W (.Compare a [op, op'] [b, c] pos) (mChain f f' ma mb mc) := by
  obtain ⟨_, ho, hr, hn⟩ := cr.ex
  obtain ⟨_, ho', hr', hn'⟩ := cr'.ex
  obtain ⟨hk, ta, pa, sa⟩ := ha.ex
  obtain ⟨_, tb, pb, sb⟩ := hb.ex
  obtain ⟨_, tc, pc, sc⟩ := hc.ex
  exact ⟨hk, _, pe_chain ho ho' pa pb pc hm, Sn.chain sa sb sc hr hn hr' hn'⟩
theorem ft_chain (cr : CmpR X g op f) (cr' : CmpR X g op' f') (ha : FE X g hx W a ma) (hb : FE X g hx W b mb) (hc : FE X g hx W c mc) (hm : lastMarks [op, op'] [b, c] = false := by with_unfolding_all rfl) : FT X g hx W (.Compare a [op, op'] [b, c] pos) (mB (mChain f f' ma mb mc)) := by
  obtain ⟨_, ho, hr, hn⟩ := cr.ex
  obtain ⟨_, ho', hr', hn'⟩ := cr'.ex
  obtain ⟨hk, ta, pa, sa⟩ := ha.ex
  obtain ⟨_, tb, pb, sb⟩ := hb.ex
  obtain ⟨_, tc, pc, sc⟩ := hc.ex
  exact ⟨hk, _, pt_chain ho ho' pa pb pc hm, SnT.B (Sn.chain sa sb sc hr hn hr' hn')⟩

/-! ### truth -/
def truD (d : D) (S : Store) : Option Bool := match d with
  | .non => some false
  | .bl b => some b
  | .int i => some (i != 0)
  | .str s => if s.length ≤ 16777216 then some ((s.length : Int) != 0) else none
  | .tup ds => some (!ds.isEmpty)
  | .fz ds => some (!ds.isEmpty)
  | .ref n => match S[n]? with
    | some (.lst ds) => some (!ds.isEmpty)
    | some (.dct kvs) => some (!kvs.isEmpty)
    | _ => none
def mTru (m : ME) : MT := fun ρ S => (m ρ S).bind fun d S1 => match truD d S1 with
  | some b => .ok b S1
  | none => .bad
theorem emp_of {H : Hp} {As : List Addr} {ds : List D} {xs : List V} (h : IsL g.K H As ds xs) : (!ds.isEmpty) = !xs.isEmpty := by
  cases h <;> rfl
theorem truV_of {H : Hp} {As : List Addr} {S : Store} {d : D} {x : V} {k : Bool} (hs : StOk g H As S) (i : Is g.K H As d x) (h : truD d S = some k) : TruV g.K x H k := by
  cases i with
  | non => cases h; rfl
  | bl b => cases h; rfl
  | int b => cases h; rfl
  | str s =>
    unfold truD at h
    dsimp only at h
    split at h
    · rename_i hl; cases h; exact ⟨szle hl, rfl⟩
    · cases h
  | tup h1 r => cases h; exact .inr (.inl ⟨_, h1, emp_of r⟩)
  | fz h1 r => cases h; exact .inl ⟨_, h1.sq, emp_of r⟩
  | ref ha =>
    unfold truD at h
    dsimp only at h
    split at h
    · rename_i ds q
      cases h
      obtain ⟨a, xs, ha', h1, r⟩ := hs.lst q
      rw [ha] at ha'; cases ha'
      exact .inl ⟨xs, SqL.of h1, emp_of r⟩
    · rename_i kvs q
      cases h
      obtain ⟨a, ha', kxs, h1, r, _⟩ := hs.at q
      rw [ha] at ha'; cases ha'
      refine .inr (.inr ⟨kxs, h1, ?_⟩)
      have e : kvs.length = kxs.length := by have := congrArg List.length r; simpa using this
      cases kvs <;> cases kxs <;> first | rfl | (simp at e)
    · cases h
theorem ft_tru (ha : FE X g hx W a ma) (he : ∀ whole, isTrue a X.env whole = (do let v ← whole; standAt a.pos; holding [v] (truthy v)) := by intro _; rfl) : FT X g hx W a (mTru ma) := by
  obtain ⟨hk, ta, pa, sa⟩ := ha.ex
  refine ⟨hk, _, pt_truth pa he, fun σ H As ρ S he hs Q hp => ?_⟩
  refine sa σ H As ρ S he hs _ (Post.bind (P := fun r => PostT g W σ H As r Q) hp (fun d S1 hp1 v H1 As1 e1 s1 i1 => ?_) (fun _ _ _ q => q) id)
  cases q : truD d S1 with
  | none => rw [q] at hp1; exact False.elim hp1
  | some k =>
    rw [q] at hp1
    refine ⟨k, ?_, hp1 H1 As1 e1 s1⟩
    rw [hk]
    exact truV_of s1 i1 q
/-! ### and, or, not, if else -/
def mAnd (t u : MT) : MT := fun ρ S => (t ρ S).bind fun b S1 => match b with
  | true => u ρ S1
  | false => .ok false S1
def mOr (t u : MT) : MT := fun ρ S => (t ρ S).bind fun b S1 => match b with
  | true => .ok true S1
  | false => u ρ S1
def mNot (t : MT) : MT := fun ρ S => (t ρ S).bind fun b S1 => .ok (!b) S1
variable {rest : List Expr}
theorem fw_and1 (ha : FT X g hx W a t) : FW X g hx W (.BoolOp .And [a] pos) t := let ⟨hk, ta, pa, sa⟩ := ha.ex; ⟨hk, ta, pw_and1 pa, sa⟩
theorem fw_or1 (ha : FT X g hx W a t) : FW X g hx W (.BoolOp .Or [a] pos) t := let ⟨hk, ta, pa, sa⟩ := ha.ex; ⟨hk, ta, pw_or1 pa, sa⟩
theorem fw_and (ha : FT X g hx W a t) (hb : FW X g hx W (.BoolOp .And (b :: rest) pos) u) : FW X g hx W (.BoolOp .And (a :: b :: rest) pos) (mAnd t u) := by
  obtain ⟨hk, ta, pa, sa⟩ := ha.ex
  obtain ⟨_, tb, pb, sb⟩ := hb.ex
  refine ⟨hk, _, pw_and pa pb, fun σ H As ρ S he hs Q hp => ?_⟩
  refine sa σ H As ρ S he hs _ (PostT.bind (P := fun r => PostT g W σ H As r Q) hp (fun d S1 hp1 H1 As1 e1 s1 => ?_) (fun _ _ _ q => q) id)
  cases d with
  | true => rw [if_pos rfl]; exact sb σ H1 As1 ρ S1 (he.up e1) s1 Q (hp1.up e1)
  | false => rw [if_neg Bool.false_ne_true]; exact hp1 H1 As1 e1 s1
theorem fw_or (ha : FT X g hx W a t) (hb : FW X g hx W (.BoolOp .Or (b :: rest) pos) u) : FW X g hx W (.BoolOp .Or (a :: b :: rest) pos) (mOr t u) := by
  obtain ⟨hk, ta, pa, sa⟩ := ha.ex
  obtain ⟨_, tb, pb, sb⟩ := hb.ex
  refine ⟨hk, _, pw_or pa pb, fun σ H As ρ S he hs Q hp => ?_⟩
  refine sa σ H As ρ S he hs _ (PostT.bind (P := fun r => PostT g W σ H As r Q) hp (fun d S1 hp1 H1 As1 e1 s1 => ?_) (fun _ _ _ q => q) id)
  cases d with
  | false => rw [if_neg Bool.false_ne_true]; exact sb σ H1 As1 ρ S1 (he.up e1) s1 Q (hp1.up e1)
  | true => rw [if_pos rfl]; exact hp1 H1 As1 e1 s1
theorem ft_w (h : FW X g hx W a t) : FT X g hx W a t := let ⟨hk, ta, pa, sa⟩ := h.ex; ⟨hk, ta, pa.pt, sa⟩
theorem ft_not (ha : FT X g hx W a t) : FT X g hx W (.UnaryOp .Not a pos) (mNot t) := by
  obtain ⟨hk, ta, pa, sa⟩ := ha.ex
  refine ⟨hk, _, pt_not pa, fun σ H As ρ S he hs Q hp => ?_⟩
  exact sa σ H As ρ S he hs _ (PostT.bind (P := fun r => PostT g W σ H As r Q) hp (fun d S1 hp1 H1 As1 e1 s1 => hp1 H1 As1 e1 s1) (fun _ _ _ q => q) id)
def mAndV (ma mb : ME) : ME := fun ρ S => (ma ρ S).bind fun d S1 => match d with
  | .bl true => mb ρ S1
  | .bl false => .ok (.bl false) S1
  | _ => .bad
def mOrV (ma mb : ME) : ME := fun ρ S => (ma ρ S).bind fun d S1 => match d with
  | .bl true => .ok (.bl true) S1
  | .bl false => mb ρ S1
  | _ => .bad
def mNotV (ma : ME) : ME := fun ρ S => (ma ρ S).bind fun d S1 => match d with
  | .bl b => .ok (.bl (!b)) S1
  | _ => .bad
theorem fe_one {o} (ha : FE X g hx W a ma) : FE X g hx W (.BoolOp o [a] pos) ma := let ⟨hk, ta, pa, sa⟩ := ha.ex; ⟨hk, ta, pe_one pa, sa⟩
theorem fe_and (ha : FE X g hx W a ma) (hb : FE X g hx W (.BoolOp .And (b :: rest) pos) mb) : FE X g hx W (.BoolOp .And (a :: b :: rest) pos) (mAndV ma mb) := by
  obtain ⟨hk, ta, pa, sa⟩ := ha.ex
  obtain ⟨_, tb, pb, sb⟩ := hb.ex
  refine ⟨hk, _, pe_and pa pb, fun σ H As ρ S he hs Q hp => ?_⟩
  refine sa σ H As ρ S he hs _ (Post.bind (P := fun r => Post g W σ H As r Q) hp (fun d S1 hp1 v H1 As1 e1 s1 i1 => ?_) (fun _ _ _ q => q) id)
  cases i1 with
  | bl k =>
    refine ⟨k, rfl, ?_⟩
    cases k with
    | true => rw [if_pos rfl]; exact sb σ H1 As1 ρ S1 (he.up e1) s1 Q (Post.up hp1 e1)
    | false => rw [if_neg Bool.false_ne_true]; exact hp1 _ H1 As1 e1 s1 (.bl _)
  | _ => exact False.elim hp1
theorem fe_or (ha : FE X g hx W a ma) (hb : FE X g hx W (.BoolOp .Or (b :: rest) pos) mb) : FE X g hx W (.BoolOp .Or (a :: b :: rest) pos) (mOrV ma mb) := by
  obtain ⟨hk, ta, pa, sa⟩ := ha.ex
  obtain ⟨_, tb, pb, sb⟩ := hb.ex
  refine ⟨hk, _, pe_or pa pb, fun σ H As ρ S he hs Q hp => ?_⟩
  refine sa σ H As ρ S he hs _ (Post.bind (P := fun r => Post g W σ H As r Q) hp (fun d S1 hp1 v H1 As1 e1 s1 i1 => ?_) (fun _ _ _ q => q) id)
  cases i1 with
  | bl k =>
    refine ⟨k, rfl, ?_⟩
    cases k with
    | false => rw [if_neg Bool.false_ne_true]; exact sb σ H1 As1 ρ S1 (he.up e1) s1 Q (Post.up hp1 e1)
    | true => rw [if_pos rfl]; exact hp1 _ H1 As1 e1 s1 (.bl _)
  | _ => exact False.elim hp1
theorem fe_not (ha : FE X g hx W a ma) : FE X g hx W (.UnaryOp .Not a pos) (mNotV ma) := by
  obtain ⟨hk, ta, pa, sa⟩ := ha.ex
  refine ⟨hk, _, pe_not pa, fun σ H As ρ S he hs Q hp => ?_⟩
  refine sa σ H As ρ S he hs _ (Post.bind (P := fun r => Post g W σ H As r Q) hp (fun d S1 hp1 v H1 As1 e1 s1 i1 => ?_) (fun _ _ _ q => q) id)
  cases i1 with
  | bl k => exact ⟨k, rfl, hp1 _ H1 As1 e1 s1 (.bl _)⟩
  | _ => exact False.elim hp1
def mIfE (t : MT) (ma mb : ME) : ME := fun ρ S => (t ρ S).bind fun b S1 => match b with
  | true => ma ρ S1
  | false => mb ρ S1
theorem fe_if (hc : FT X g hx W c t) (ha : FE X g hx W a ma) (hb : FE X g hx W b mb) : FE X g hx W (.IfExp c a b pos) (mIfE t ma mb) := by
  obtain ⟨hk, tc, pc, sc⟩ := hc.ex
  obtain ⟨_, ta, pa, sa⟩ := ha.ex
  obtain ⟨_, tb, pb, sb⟩ := hb.ex
  refine ⟨hk, _, pe_ifExp pc pa pb, fun σ H As ρ S he hs Q hp => ?_⟩
  refine sc σ H As ρ S he hs _ (PostT.bind (P := fun r => Post g W σ H As r Q) hp (fun d S1 hp1 H1 As1 e1 s1 => ?_) (fun _ _ _ q => q) id)
  cases d with
  | true => rw [if_pos rfl]; exact sa σ H1 As1 ρ S1 (he.up e1) s1 Q (Post.up hp1 e1)
  | false => rw [if_neg Bool.false_ne_true]; exact sb σ H1 As1 ρ S1 (he.up e1) s1 Q (Post.up hp1 e1)
/-! ### displays -/
variable {es : List Expr} {mas : MA}
def mTup (ma : MA) : ME := fun ρ S => (ma ρ S).bind fun ds S1 => if ds.length ≤ 16777216 then .ok (.tup ds) S1 else .bad
def mLst (ma : MA) : ME := fun ρ S => (ma ρ S).bind fun ds S1 => if ds.length ≤ 16777216 then .ok (.ref S1.length) (S1 ++ [.lst ds]) else .bad
theorem fe_tup {x1} (h : FA X g hx W es mas) : FE X g hx W (.Tuple es x1 pos) (mTup mas) := by
  obtain ⟨hk, ta, pa, sa⟩ := h.ex
  refine ⟨hk, _, pe_tup pa, fun σ H As ρ S he hs Q hp => ?_⟩
  refine sa σ H As ρ S he hs _ (PostA.bind (P := fun r => Post g W σ H As r Q) hp (fun ds S1 hp1 vs H1 As1 e1 s1 i1 => ?_) (fun _ _ _ q => q) id)
  split at hp1
  · rename_i hl
    refine ⟨szle (by rw [← i1.len]; exact hl), fun p hn => ?_⟩
    have ex := Ext.side (u := .tup vs) s1 hn
    exact hp1 (.ref p) _ As1 (e1.trans ex) (s1.side hn) (.tup (SqT.of upd_same) (i1.up ex))
  · exact False.elim hp1
theorem fe_lst (h : FA X g hx W es mas) : FE X g hx W (.List es pos) (mLst mas) := by
  obtain ⟨hk, ta, pa, sa⟩ := h.ex
  refine ⟨hk, _, pe_lst pa, fun σ H As ρ S he hs Q hp => ?_⟩
  refine sa σ H As ρ S he hs _ (PostA.bind (P := fun r => Post g W σ H As r Q) hp (fun ds S1 hp1 vs H1 As1 e1 s1 i1 => ?_) (fun _ _ _ q => q) id)
  split at hp1
  · rename_i hl
    refine ⟨szle (by rw [← i1.len]; exact hl), fun p hn => ?_⟩
    have ex : Ext H1 As1 (upd H1 p (.lst vs)) (As1 ++ [p]) := Ext.new hn
    exact hp1 (.ref p) _ _ (e1.trans ex) (s1.new hn ⟨_, upd_same, i1.up ex⟩) (.ref (by rw [← s1.len]; exact List.getElem?_concat_length))
  · exact False.elim hp1
end
end FL
end

section
set_option autoImplicit false
namespace FL
open PySem L2

/-! ### items, slices -/
def bIx (d e : D) (S : Store) : R D := match e with
  | .int i => match d with
    | .str s => if s.length ≤ 16777216 then (match atI s.cps.toList i with
      | some c => .ok (.str ⟨#[c]⟩) S
      | none => .bad) else .bad
    | d => match rowOf S d with
      | some ds => (match atI ds i with
        | some z => .ok z S
        | none => .bad)
      | none => .bad
  | _ => .bad
theorem ne_ix : NoErr bIx := by
  intro d e S c ds S' h
  unfold bIx at h
  split at h
  · split at h
    · split at h
      · split at h <;> cases h
      · cases h
    · split at h
      · split at h <;> cases h
      · cases h
  · cases h
section
variable {X : Cx} {g : G} {hx : HX} {W : WX} {a b c e : Expr} {ma mb mc m : ME} {pos : Pos} {es : List Expr} {mas : MA} {H : Hp} {As : List Addr} {S : Store}
theorem IsL.at {ds : List D} {xs : List V} {i : Int} {d : D} (h : IsL g.K H As ds xs) (e : atI ds i = some d) : ∃ v, atI xs i = some v ∧ Is g.K H As d v := by
  unfold atI at e ⊢
  rw [← h.len]
  cases q : ixN ds.length i with
  | none => rw [q] at e; cases e
  | some j =>
    rw [q] at e
    obtain ⟨v, h1, h2⟩ := h.get (i := j) (d := d) e
    exact ⟨v, h1, h2⟩
theorem rs_ix : RSn g (rIx g.K) bIx := by
  intro H As S x y d e hs ix iy Q k ⟨z, S', he⟩
  have hz := he
  unfold bIx at he
  split at he
  · cases iy
    split at he
    · cases ix
      split at he
      · rename_i hl
        split at he
        · rename_i c q
          cases he
          exact .inr (.inr ⟨_, _, c, rfl, rfl, szle hl, q, RSn.pure hs hz k (.str _)⟩)
        · cases he
      · cases he
    · split at he
      · rename_i ds q
        split at he
        · rename_i z' q'
          cases he
          obtain ⟨p, xs, rfl, hq, r⟩ := hs.row q ix
          obtain ⟨v, h1, h2⟩ := r.at q'
          rcases hq with hq | hq
          · exact .inl ⟨p, xs, _, v, rfl, rfl, hq, h1, RSn.pure hs hz k h2⟩
          · exact .inr (.inl ⟨p, xs, _, v, rfl, rfl, hq, h1, RSn.pure hs hz k h2⟩)
        · cases he
      · cases he
  · cases he
theorem fe_ix (ha : FE X g hx W a ma) (hb : FE X g hx W b mb) (hs : PlainIx b := by exact fun _ _ => rfl) : FE X g hx W (.Subscript a b pos) (mOp bIx ma mb) := by
  obtain ⟨hk, ta, pa, sa⟩ := ha.ex
  obtain ⟨_, tb, pb, sb⟩ := hb.ex
  exact ⟨hk, _, pe_ix ix_seq pa pb hs, by rw [hk]; exact Sn.op sa sb rs_ix ne_ix⟩
/-- the part from lo to hi -/
def cutD {α : Type} (ds : List α) (lo hi : Option Int) : List α := (ds.drop (HT.sIx ds.length 0 lo)).take (HT.sIx ds.length ds.length hi - HT.sIx ds.length 0 lo)
abbrev MO := Rho → Store → R (Option Int)
def mNoP : MO := fun _ S => .ok none S
def mP (m : ME) : MO := fun ρ S => (m ρ S).bind fun d S1 => match d with
  | .int i => .ok (some i) S1
  | _ => .bad
def PostO (g : G) (W : WX) (σ : L2.St) (H : Hp) (As : List Addr) (r : R (Option Int)) (Q : Option Int → Hp → Prop) : Prop := match r with
  | .ok b S' => ∀ H' As', Ext H As H' As' → StOk g H' As' S' → Q b H'
  | .err c ds S' => ∀ dd H' As', Ext H As H' As' → StOk g H' As' S' → ExcOk g H' As' c ds dd → W (.ref (g.ec c)) dd σ H'
  | .bad => False
def SnO (g : G) (hx : HX) (W : WX) (t : TO) (m : MO) : Prop := ∀ σ H As ρ S, EnvOk g hx H As ρ σ → StOk g H As S → ∀ Q : Option Int → Hp → Prop, PostO g W σ H As (m ρ S) Q → t σ H Q
structure FO (X : Cx) (g : G) (hx : HX) (W : WX) (e : Option Expr) (m : MO) : Prop where
  ex : ∃ t, PO X e t ∧ SnO g hx W t m
theorem fo_none : FO X g hx W none mNoP := ⟨_, po_none, fun σ H As ρ S he hs Q hp => hp H As (Ext.refl _ _) hs⟩
theorem fo_some (h : FE X g hx W e m) : FO X g hx W (some e) (mP m) := by
  obtain ⟨hk, t, p, s⟩ := h.ex
  refine ⟨_, po_some p, fun σ H As ρ S he hs Q hp => ?_⟩
  refine s σ H As ρ S he hs _ (Post.bind (P := fun r => PostO g W σ H As r Q) hp (fun d S1 hp1 v H1 As1 e1 s1 i1 => ?_) (fun _ _ _ q => q) id)
  cases i1 with
  | int i => exact ⟨i, rfl, hp1 H1 As1 e1 s1⟩
  | _ => exact False.elim hp1
theorem PostO.bind {β : Type} {σ : L2.St} {P : R β → Prop} {r : R (Option Int)} {Q : Option Int → Hp → Prop} {k : Option Int → Store → R β} (h : P (r.bind k))
    (hok : ∀ d S', P (k d S') → ∀ H' As', Ext H As H' As' → StOk g H' As' S' → Q d H')
    (herr : ∀ c ds S', P (.err c ds S') → ∀ dd H' As', Ext H As H' As' → StOk g H' As' S' → ExcOk g H' As' c ds dd → W (.ref (g.ec c)) dd σ H') (hbad : ¬ P .bad) : PostO g W σ H As r Q := by
  cases r with
  | ok d S' => exact hok d S' h
  | err c ds S' => exact herr c ds S' h
  | bad => exact hbad h
def slD (d : D) (lo hi : Option Int) (S : Store) : R D := match d with
  | .str s => if s.length ≤ 16777216 then .ok (.str (cutS s lo hi)) S else .bad
  | .tup ds => .ok (.tup (cutD ds lo hi)) S
  | d => match rowOf S d with
    | some ds => .ok (.ref S.length) (S ++ [.lst (cutD ds lo hi)])
    | none => .bad
def mSl (m : ME) (lo hi : MO) : ME := fun ρ S => (m ρ S).bind fun d S1 => (lo ρ S1).bind fun l S2 => (hi ρ S2).bind fun h S3 => slD d l h S3
def rSl3 (K : PySem.W.Frag) : V → Option Int → Option Int → Hp → VK → Prop := fun x lo hi H Q => rSlL K x lo hi H Q ∨ rSlA K x lo hi H Q ∨ (∃ z, x = .str z ∧ z.length ≤ sizeLine ∧ Q (.str (cutS z lo hi)) H)
theorem IsL.cutD {ds : List D} {xs : List V} (lo hi : Option Int) (h : IsL g.K H As ds xs) : IsL g.K H As (cutD ds lo hi) (cutV xs lo hi) := by
  unfold FL.cutD cutV
  rw [h.len]
  exact (h.drop _).take _
theorem cutD_whole {α : Type} {ds : List α} {lo hi : Option Int} (h : HT.sIx ds.length 0 lo = 0 ∧ HT.sIx ds.length ds.length hi = ds.length) : cutD ds lo hi = ds := by
  unfold cutD
  rw [h.1, h.2, List.drop_zero, Nat.sub_zero, List.take_length]
theorem sl3 (hs : SlR X fun x lo hi H Q => ∃ z, x = .str z ∧ z.length ≤ sizeLine ∧ Q (.str (cutS z lo hi)) H) : SlR X (rSl3 X.K) := sl_list.or (sl_tupA.or hs)
theorem fe_slice {lo hi : Option Expr} {ml mh : MO} {p2 : Pos} (hss : SlR X fun x lo hi H Q => ∃ z, x = .str z ∧ z.length ≤ sizeLine ∧ Q (.str (cutS z lo hi)) H) (he : FE X g hx W e m) (hl : FO X g hx W lo ml) (hh : FO X g hx W hi mh) : FE X g hx W (.Subscript e (.Slice lo hi none p2) pos) (mSl m ml mh) := by
  obtain ⟨hk, t, p, s⟩ := he.ex
  obtain ⟨tl, pl, sl⟩ := hl.ex
  obtain ⟨th, ph, sh⟩ := hh.ex
  refine ⟨hk, _, pe_slice (sl3 hss) p pl ph, fun σ H As ρ S he hs Q hp => ?_⟩
  refine s σ H As ρ S he hs _ (Post.bind (P := fun r => Post g W σ H As r Q) hp (fun d S1 hp1 v H1 As1 e1 s1 i1 => ?_) (fun _ _ _ q => q) id)
  refine sl σ H1 As1 ρ S1 (he.up e1) s1 _ (PostO.bind (P := fun r => Post g W σ H1 As1 r Q) (Post.up hp1 e1) (fun l S2 hp2 H2 As2 e2 s2 => ?_) (fun _ _ _ q => q) id)
  refine sh σ H2 As2 ρ S2 ((he.up e1).up e2) s2 _ (PostO.bind (P := fun r => Post g W σ H2 As2 r Q) (Post.up hp2 e2) (fun h S3 hp3 H3 As3 e3 s3 => ?_) (fun _ _ _ q => q) id)
  have i3 := (i1.up e2).up e3
  have hp4 := Post.up hp3 e3
  unfold slD at hp4
  rw [hk]
  cases i3 with
  | str z =>
    dsimp only at hp4
    split at hp4
    · rename_i hz
      exact .inr (.inr ⟨z, rfl, szle hz, hp4 _ H3 As3 (Ext.refl _ _) s3 (.str _)⟩)
    · exact False.elim hp4
  | tup h1 r =>
    refine .inr (.inl ⟨_, _, rfl, h1, fun hw => ?_, fun hw p hn => ?_⟩)
    · refine hp4 _ H3 As3 (Ext.refl _ _) s3 (.tup h1 ?_)
      rw [cutD_whole (by rw [r.len]; exact hw)]
      exact r
    · exact hp4 _ _ As3 (Ext.side s3 hn) (s3.side hn) (.tup (SqT.of upd_same) ((r.cutD l h).up (Ext.side s3 hn)))
  | fz h1 r =>
    refine .inl ⟨_, _, rfl, h1.sq, fun p hn => ?_⟩
    exact hp4 _ _ _ (Ext.new hn) (s3.new hn ⟨_, upd_same, (r.cutD l h).up (Ext.new hn)⟩) (.ref (by rw [← s3.len]; exact List.getElem?_concat_length))
  | ref ha =>
    dsimp only at hp4
    split at hp4
    · rename_i ds q
      obtain ⟨a, xs, ha', h1, r⟩ := s3.lst (getL_some q)
      rw [ha] at ha'; cases ha'
      refine .inl ⟨_, _, rfl, SqL.of h1, fun p hn => ?_⟩
      exact hp4 _ _ _ (Ext.new hn) (s3.new hn ⟨_, upd_same, (r.cutD l h).up (Ext.new hn)⟩) (.ref (by rw [← s3.len]; exact List.getElem?_concat_length))
    · exact False.elim hp4
  | _ => exact False.elim hp4

/-! ### calls of what is built in -/
def CSn (g : G) (r : List V → Hp → VK → Prop) (f : MF) : Prop := ∀ (H : Hp) (As : List Addr) (S : Store) (xs : List V) (ds : List D), StOk g H As S → IsL g.K H As ds xs → ∀ Q : VK,
  (∀ z S', f ds S = .ok z S' → ∀ v H' As', Ext H As H' As' → StOk g H' As' S' → Is g.K H' As' z v → Q v H') → (∃ z S', f ds S = .ok z S') → r xs H Q
def NoErrF (f : MF) : Prop := ∀ d S c ds S', f d S ≠ .err c ds S'
def mCB (f : MF) (ma : MA) : ME := fun ρ S => (ma ρ S).bind fun ds S1 => f ds S1
theorem Sn.cb {t : TA} {r : List V → Hp → VK → Prop} {f : MF} (s : SnA g hx W t mas) (hr : CSn g r f) (hn : NoErrF f) : Sn g hx W (tCB r t) (mCB f mas) := fun σ H As ρ S he hs Q hp => by
  refine s σ H As ρ S he hs _ (PostA.bind (P := fun r => Post g W σ H As r Q) hp (fun ds S1 hp1 vs H1 As1 e1 s1 i1 => ?_) (fun _ _ _ q => q) id)
  have hp2 := Post.up hp1 e1
  cases q : f ds S1 with
  | err c ds' S3 => exact absurd q (hn ds S1 c ds' S3)
  | bad => rw [q] at hp2; exact False.elim hp2
  | ok z S3 =>
    rw [q] at hp2
    exact hr H1 As1 S1 vs ds s1 i1 Q (fun z' S' q' => by rw [q] at q'; cases q'; exact hp2) ⟨z, S3, q⟩
/-- the facts of a call of a built-in by its name -/
structure BltR (X : Cx) (g : G) (x : Str) (f : MF) : Prop where
  ex : ∃ id r, CallR X (.builtin id) r ∧ bootBuiltins x = some (.builtin id) ∧ CSn g r f ∧ NoErrF f
structure BltT (X : Cx) (g : G) (x : Str) (f : MF) : Prop where
  ex : ∃ T r, CallR X (.type T) r ∧ bootBuiltins x = some (.type T) ∧ CSn g r f ∧ NoErrF f
theorem fe_blt {x : Str} {p : Pos} {f : MF} (br : BltR X g x f) (hm : X.mg x = none) (ha : FA X g hx W (e :: es) mas) (hg : Gl X x := by rfl) (hn : x ≠ "__name__" := by decide) (hdb : (x == ("__debug__" : Str)) = false := by decide)
    (he : starEach (e :: es) X.env = (false, eval e X.env) :: starEach es X.env := by rfl) (hpl : (backTo pos (starEach es X.env)).any (·.1) = false := by rfl) : FE X g hx W (.Call (.Name x p) (e :: es) [] pos) (mCB f mas) := by
  obtain ⟨id, r, h1, h2, h3, h4⟩ := br.ex
  obtain ⟨hk, t, pa, s⟩ := ha.ex
  exact ⟨hk, _, pe_callB h1 hg hm h2 pa hn hdb he hpl, Sn.cb s h3 h4⟩
theorem fe_bltT {x : Str} {p : Pos} {f : MF} (br : BltT X g x f) (hm : X.mg x = none) (ha : FA X g hx W (e :: es) mas) (hg : Gl X x := by rfl) (hn : x ≠ "__name__" := by decide) (hdb : (x == ("__debug__" : Str)) = false := by decide)
    (he : starEach (e :: es) X.env = (false, eval e X.env) :: starEach es X.env := by rfl) (hpl : (backTo pos (starEach es X.env)).any (·.1) = false := by rfl) : FE X g hx W (.Call (.Name x p) (e :: es) [] pos) (mCB f mas) := by
  obtain ⟨id, r, h1, h2, h3, h4⟩ := br.ex
  obtain ⟨hk, t, pa, s⟩ := ha.ex
  exact ⟨hk, _, pe_callTy h1 hg hm h2 pa hn hdb he hpl, Sn.cb s h3 h4⟩
theorem CSn.pure {H : Hp} {As : List Addr} {S : Store} {z : D} {v : V} {Q : VK} {r : R D} (hs : StOk g H As S) (he : r = .ok z S) (k : ∀ z S', r = .ok z S' → ∀ v H' As', Ext H As H' As' → StOk g H' As' S' → Is g.K H' As' z v → Q v H') (i : Is g.K H As z v) : Q v H := k z S he v H As (Ext.refl _ _) hs i
def fLen : MF := fun ds S => match ds with
  | [.str s] => if s.length ≤ 16777216 then .ok (.int (s.length : Nat)) S else .bad
  | [d] => match rowOf S d with
    | some ds => .ok (.int (ds.length : Nat)) S
    | none => .bad
  | _ => .bad
theorem br_len (hk : X.K = g.K) : BltR X g "len" fLen := ⟨_, _, call_len, PySem.boot_len, (by
  intro H As S xs ds hs il Q k ⟨z, S', he⟩
  have hz := he
  unfold fLen at he
  split at he
  · cases il with
    | cons i1 i2 =>
      cases i2; cases i1
      split at he
      · rename_i hl
        cases he
        exact ⟨_, _, rfl, ⟨szle hl, rfl⟩, CSn.pure hs hz k (.int _)⟩
      · cases he
  · cases il with
    | cons i1 i2 =>
      cases i2
      split at he
      · rename_i ds q
        cases he
        obtain ⟨p, xs, rfl, hq, r⟩ := hs.row q i1
        refine ⟨_, ds.length, rfl, ?_, CSn.pure hs hz k (.int _)⟩
        rw [hk]
        rcases hq with hq | hq
        · exact .inl ⟨xs, hq, r.len⟩
        · exact .inr ⟨xs, hq, r.len⟩
      · cases he
  · cases he), (by
  intro d S c ds S' h
  unfold fLen at h
  split at h
  · split at h <;> cases h
  · split at h <;> cases h
  · cases h)⟩
def fAbs : MF := fun ds S => match ds with
  | [.int i] => .ok (.int (if i < 0 then -i else i)) S
  | _ => .bad
theorem br_abs : BltR X g "abs" fAbs := ⟨_, _, call_abs, by decide +kernel, (by
  intro H As S xs ds hs il Q k ⟨z, S', he⟩
  have hz := he
  unfold fAbs at he
  split at he
  · cases he
    cases il with
    | cons i1 i2 => cases i2; cases i1; exact ⟨_, rfl, CSn.pure hs hz k (.int _)⟩
  · cases he), (by intro d S c ds S' h; unfold fAbs at h; split at h <;> cases h)⟩
def fMin2 : MF := fun ds S => match ds with
  | [.int i, .int j] => .ok (.int (if j < i then j else i)) S
  | _ => .bad
theorem br_min2 (hc : X.calm = true) : BltR X g "min" fMin2 := ⟨_, _, call_min2 hc, by decide +kernel, (by
  intro H As S xs ds hs il Q k ⟨z, S', he⟩
  have hz := he
  unfold fMin2 at he
  split at he
  · cases he
    cases il with
    | cons i1 i2 =>
      cases i2 with
      | cons i2 i3 => cases i3; cases i2; cases i1; exact ⟨_, _, rfl, CSn.pure hs hz k (.int _)⟩
  · cases he), (by intro d S c ds S' h; unfold fMin2 at h; split at h <;> cases h)⟩
def fMax2 : MF := fun ds S => match ds with
  | [.int i, .int j] => .ok (.int (if j > i then j else i)) S
  | _ => .bad
theorem br_max2 (hc : X.calm = true) : BltR X g "max" fMax2 := ⟨_, _, call_max2 hc, by decide +kernel, (by
  intro H As S xs ds hs il Q k ⟨z, S', he⟩
  have hz := he
  unfold fMax2 at he
  split at he
  · cases he
    cases il with
    | cons i1 i2 =>
      cases i2 with
      | cons i2 i3 => cases i3; cases i2; cases i1; exact ⟨_, _, rfl, CSn.pure hs hz k (.int _)⟩
  · cases he), (by intro d S c ds S' h; unfold fMax2 at h; split at h <;> cases h)⟩
def fOrd : MF := fun ds S => match ds with
  | [.str s] => if s.length = 1 then .ok (.int (s.cps.getD 0 0 : Nat)) S else .bad
  | _ => .bad
theorem br_ord : BltR X g "ord" fOrd := ⟨_, _, call_ord, by decide +kernel, (by
  intro H As S xs ds hs il Q k ⟨z, S', he⟩
  have hz := he
  unfold fOrd at he
  split at he
  · split at he
    · rename_i hl
      cases he
      cases il with
      | cons i1 i2 => cases i2; cases i1; exact ⟨_, rfl, hl, CSn.pure hs hz k (.int _)⟩
    · cases he
  · cases he), (by intro d S c ds S' h; unfold fOrd at h; split at h <;> (try cases h); split at h <;> cases h)⟩
def fInt : MF := fun ds S => match ds with
  | [.int i] => .ok (.int i) S
  | [.bl b] => .ok (.int (if b then 1 else 0)) S
  | _ => .bad
theorem br_int : BltT X g "int" fInt := ⟨_, _, call_int1, by decide +kernel, (by
  intro H As S xs ds hs il Q k ⟨z, S', he⟩
  have hz := he
  unfold fInt at he
  split at he
  · cases he
    cases il with
    | cons i1 i2 => cases i2; cases i1; exact .inl ⟨_, rfl, CSn.pure hs hz k (.int _)⟩
  · cases he
    cases il with
    | cons i1 i2 => cases i2; cases i1; exact .inr ⟨_, rfl, CSn.pure hs hz k (.int _)⟩
  · cases he), (by intro d S c ds S' h; unfold fInt at h; split at h <;> cases h)⟩
def fTup : MF := fun ds S => match ds with
  | [d] => match rowOf S d with
    | some ds => .ok (.tup ds) S
    | none => .bad
  | _ => .bad
theorem br_tup (hk : X.K = g.K) : BltT X g "tuple" fTup := ⟨_, _, call_tuple_of, by decide +kernel, (by
  intro H As S xs ds hs il Q k ⟨z, S', he⟩
  have hz := he
  unfold fTup at he
  split at he
  · cases il with
    | cons i1 i2 =>
      cases i2
      split at he
      · rename_i ds q
        cases he
        obtain ⟨p, xs, rfl, hq, r⟩ := hs.row q i1
        refine ⟨_, xs, rfl, ?_⟩
        rw [hk]
        rcases hq with hq | hq
        · exact .inl ⟨hq, fun l hl => k _ _ hz _ _ As (Ext.side hs hl) (hs.side hl) (.tup (SqT.of upd_same) (r.up (Ext.side hs hl)))⟩
        · exact .inr ⟨hq, CSn.pure hs hz k (.tup hq r)⟩
      · cases he
  · cases he), (by
  intro d S c ds S' h
  unfold fTup at h
  split at h
  · split at h <;> cases h
  · cases h)⟩
def fList : MF := fun ds S => match ds with
  | [d] => match rowOf S d with
    | some ds => .ok (.ref S.length) (S ++ [.lst ds])
    | none => .bad
  | _ => .bad
theorem br_list (hk : X.K = g.K) : BltT X g "list" fList := ⟨_, _, call_list_of, by decide +kernel, (by
  intro H As S xs ds hs il Q k ⟨z, S', he⟩
  have hz := he
  unfold fList at he
  split at he
  · cases il with
    | cons i1 i2 =>
      cases i2
      split at he
      · rename_i ds q
        cases he
        obtain ⟨p, xs, rfl, hq, r⟩ := hs.row q i1
        refine ⟨_, xs, rfl, ?_, fun l hl => k _ _ hz _ _ _ (Ext.new hl) (hs.new hl ⟨_, upd_same, r.up (Ext.new hl)⟩) (.ref (by rw [← hs.len]; exact List.getElem?_concat_length))⟩
        rw [hk]
        exact hq
      · cases he
  · cases he), (by
  intro d S c ds S' h
  unfold fList at h
  split at h
  · split at h <;> cases h
  · cases h)⟩
/-- isinstance(x, T), T a built-in class -/
def tyD (S : Store) : D → Option String
  | .non => some "NoneType"
  | .bl _ => some "bool"
  | .int _ => some "int"
  | .str _ => some "str"
  | .tup _ => some "tuple"
  | .fz _ => some "list"
  | .ref n => match S[n]? with
    | some (.lst _) => some "list"
    | some (.dct _) => some "dict"
    | _ => none
def mIsi (T : String) (m : ME) : ME := fun ρ S => (m ρ S).bind fun d S1 => match (tyD S1 d).bind fun t => kitB t T with
  | some b => .ok (.bl b) S1
  | none => .bad
theorem tyX_of {d : D} {x : V} {t : String} (hs : StOk g H As S) (i : Is g.K H As d x) (h : tyD S d = some t) : TyX g.K H x (.type t) := by
  cases i with
  | non => cases h; exact .base .non
  | bl b => cases h; exact .base (.bl _)
  | int b => cases h; exact .base (.int _)
  | str b => cases h; exact .base (.str _)
  | tup h1 r =>
    cases h
    rcases h1 with (h1 | ⟨o, h1⟩) | ⟨o, its, n, h1, h2, _⟩
    · exact .base (.tup h1)
    · exact .fTuple h1
    · exact .kTuple h1 h2
  | fz h1 r =>
    cases h
    rcases h1 with ⟨o, h1⟩ | ⟨o, its, n, h1, h2, _⟩
    · exact .base (.frz h1)
    · exact .kList h1 h2
  | ref ha =>
    unfold tyD at h
    dsimp only at h
    split at h
    · rename_i q
      cases h
      obtain ⟨a, xs, ha', h1, r⟩ := hs.lst q
      rw [ha] at ha'; cases ha'
      exact .base (.lst h1)
    · rename_i q
      cases h
      obtain ⟨a, ha', kxs, h1, r, _⟩ := hs.at q
      rw [ha] at ha'; cases ha'
      exact .base (.dK h1)
    · cases h
theorem fe_isi {T : String} {x : Str} {p p2 : Pos} (hm : X.mg "isinstance" = none) (hmT : X.mg x = none) (hvT : bootBuiltins x = some (.type T)) (ha : FE X g hx W e m) (hg : Gl X "isinstance" := by rfl) (hgT : Gl X x := by rfl)
    (hnT : x ≠ "__name__" := by decide) (hdT : (x == ("__debug__" : Str)) = false := by decide)
    (hs1 : starEach [e, .Name x p2] X.env = (false, eval e X.env) :: starEach [.Name x p2] X.env := by rfl) (hs2 : starEach [.Name x p2] X.env = (false, eval (.Name x p2) X.env) :: starEach [] X.env := by rfl)
    (hpl : (backTo pos (starEach [.Name x p2] X.env)).any (·.1) = false := by rfl) : FE X g hx W (.Call (.Name "isinstance" p) [e, .Name x p2] [] pos) (mIsi T m) := by
  obtain ⟨hk, t, pa, s⟩ := ha.ex
  refine ⟨hk, _, pe_callB call_isi hg hm (by decide +kernel) (pa_cons pa (pa_cons (pe_bltn hgT hmT hvT (v := .ty T) rfl hnT hdT) pa_nil hs2) hs1) (by decide) (by decide) hs1 hpl, fun σ H As ρ S he hs Q hp => ?_⟩
  refine s σ H As ρ S he hs _ (Post.bind (P := fun r => Post g W σ H As r Q) hp (fun d S1 hp1 v H1 As1 e1 s1 i1 => ?_) (fun _ _ _ q => q) id)
  cases q : (tyD S1 d).bind fun t => kitB t T with
  | none => rw [q] at hp1; exact False.elim hp1
  | some b =>
    rw [q] at hp1
    cases q2 : tyD S1 d with
    | none => rw [q2] at q; cases q
    | some t =>
      rw [q2] at q
      exact ⟨v, .ty T, .type t, .type T, b, rfl, .ty T, by rw [hk]; exact tyX_of s1 i1 q2, kit_ty q, hp1 _ H1 As1 e1 s1 (.bl _)⟩
end
end FL
end

section
set_option autoImplicit false
namespace FL
open PySem L2
section
variable {X : Cx} {g : G} {hx : HX} {W : WX} {a b c e : Expr} {ma mb mc m : ME} {pos : Pos} {es : List Expr} {mas : MA} {H : Hp} {As : List Addr} {S : Store} {st : Stmt} {sts us : List Stmt} {ms mt mu : MS} {t : MT}
theorem fe_sl {lo hi : Option Expr} {ml mh : MO} {p2 : Pos} (he : FE X g hx W e m) (hl : FO X g hx W lo ml) (hh : FO X g hx W hi mh) : FE X g hx W (.Subscript e (.Slice lo hi none p2) pos) (mSl m ml mh) := fe_slice sl_str he hl hh
/-! ### plain statements -/
def mNext : MS := fun ρ S => .nx ρ S
def mBreak : MS := fun ρ S => .bk ρ S
def mCont : MS := fun ρ S => .ct ρ S
def RS.seq : RS → MS → RS
  | .nx ρ S, k => k ρ S
  | r, _ => r
@[simp] theorem seq_nx (ρ : Rho) (S : Store) (k : MS) : (RS.nx ρ S).seq k = k ρ S := rfl
@[simp] theorem seq_rt (d : D) (S : Store) (k : MS) : (RS.rt d S).seq k = .rt d S := rfl
@[simp] theorem seq_bk (ρ : Rho) (S : Store) (k : MS) : (RS.bk ρ S).seq k = .bk ρ S := rfl
@[simp] theorem seq_ct (ρ : Rho) (S : Store) (k : MS) : (RS.ct ρ S).seq k = .ct ρ S := rfl
@[simp] theorem seq_err (c : Nat) (ds : List D) (ρ : Rho) (S : Store) (k : MS) : (RS.err c ds ρ S).seq k = .err c ds ρ S := rfl
@[simp] theorem seq_bad (k : MS) : RS.bad.seq k = .bad := rfl
def mSeq (m k : MS) : MS := fun ρ S => (m ρ S).seq k
def mRet (m : ME) : MS := fun ρ S => (m ρ S).stm ρ fun d S1 => .rt d S1
def mRetN : MS := fun _ S => .rt .non S
def mDrop (m : ME) : MS := fun ρ S => (m ρ S).stm ρ fun _ S1 => .nx ρ S1
def mSet (i : Nat) (m : ME) : MS := fun ρ S => (m ρ S).stm ρ fun d S1 => .nx (ρ.set i (.dat d)) S1
def mIf (t : MT) (m k : MS) : MS := fun ρ S => (t ρ S).stm ρ fun c S1 => match c with
  | true => m ρ S1
  | false => k ρ S1
theorem fs_nil (hk : X.K = g.K) : FSs X g hx W [] mNext := ⟨hk, _, pss_nil, fun σ H As ρ S he hs E hp => hp σ H As (Ext.refl _ _) hs he⟩
theorem fs_one (h : FS X g hx W st ms) : FSs X g hx W [st] ms := let ⟨hk, t, p, s⟩ := h.ex; ⟨hk, t, pss_one p, s⟩
theorem fs_cons (h : FS X g hx W st ms) (h2 : FSs X g hx W sts mt) : FSs X g hx W (st :: sts) (mSeq ms mt) := by
  obtain ⟨hk, t, p, s⟩ := h.ex
  obtain ⟨_, u, q, s2⟩ := h2.ex
  refine ⟨hk, _, pss_cons p q, fun σ H As ρ S he hs E hp => ?_⟩
  refine s σ H As ρ S he hs _ ?_
  unfold mSeq at hp
  cases r : ms ρ S with
  | nx ρ' S' =>
    rw [r] at hp
    exact fun σ' H' As' e1 s1 v1 => s2 σ' H' As' ρ' S' v1 s1 E (hp.up e1)
  | rt d S' => rw [r] at hp; exact hp
  | bk ρ' S' => rw [r] at hp; exact hp
  | ct ρ' S' => rw [r] at hp; exact hp
  | err c ds ρ' S' => rw [r] at hp; exact hp
  | bad => rw [r] at hp; exact hp
theorem fs_pass (hk : X.K = g.K) : FS X g hx W (.Pass pos) mNext := ⟨hk, _, ps_pass, fun σ H As ρ S he hs E hp => hp σ H As (Ext.refl _ _) hs he⟩
theorem fs_break (hk : X.K = g.K) : FS X g hx W (.Break pos) mBreak := ⟨hk, _, ps_break, fun σ H As ρ S he hs E hp => hp σ H As (Ext.refl _ _) hs he⟩
theorem fs_cont (hk : X.K = g.K) : FS X g hx W (.Continue pos) mCont := ⟨hk, _, ps_continue, fun σ H As ρ S he hs E hp => hp σ H As (Ext.refl _ _) hs he⟩
theorem fs_retN (hk : X.K = g.K) : FS X g hx W (.Return none pos) mRetN := ⟨hk, _, ps_retN, fun σ H As ρ S he hs E hp => hp .non H As (Ext.refl _ _) hs .non⟩
/-- a raise within an expression, told of the statement -/
theorem PostS.err {c : Nat} {ds : List D} {ρ : Rho} {σ : L2.St} {S' : Store} {E : Ends} (he : EnvOk g hx H As ρ σ) (h : PostS g hx W H As (.err c ds ρ S') E) : ∀ dd H' As', Ext H As H' As' → StOk g H' As' S' → ExcOk g H' As' c ds dd → W (.ref (g.ec c)) dd σ H' :=
  fun dd H' As' e s x => h σ dd H' As' e s (he.up e) x
theorem fs_ret (h : FE X g hx W e m) : FS X g hx W (.Return (some e) pos) (mRet m) := by
  obtain ⟨hk, t, p, s⟩ := h.ex
  refine ⟨hk, _, ps_ret p, fun σ H As ρ S he hs E hp => ?_⟩
  exact s σ H As ρ S he hs _ (Post.stm (P := fun r => PostS g hx W H As r E) hp (fun d S1 hp1 => hp1) (fun c ds S' q => PostS.err he q) id)
theorem fs_expr (h : FE X g hx W e m) (hs : swapsWith e none pos.line X.env = pure false := by rfl) : FS X g hx W (.Expr e pos) (mDrop m) := by
  obtain ⟨hk, t, p, s⟩ := h.ex
  refine ⟨hk, _, ps_expr p hs, fun σ H As ρ S he hs E hp => ?_⟩
  exact s σ H As ρ S he hs _ (Post.stm (P := fun r => PostS g hx W H As r E) hp (fun d S1 hp1 v H1 As1 e1 s1 i1 => hp1 σ H1 As1 e1 s1 (he.up e1)) (fun c ds S' q => PostS.err he q) id)
theorem fs_set {i : Nat} {x : Str} {pos' : Pos} (hN : X.N.Nodup) (h : FE X g hx W e m) (hi : X.N[i]? = some x := by rfl) (hl : Loc X.env.scope x := by first | exact Or.inl rfl | exact Or.inr rfl) (hs : swapsWith e (some (.Name x pos')) pos.line X.env = pure false := by rfl) (hf : X.fn x = true ∨ X.env.scope.names.lookup x = some .local := by first | exact .inl rfl | exact .inr rfl | assumption) :
    FS X g hx W (.Assign [.Name x pos'] e pos) (mSet i m) := by
  obtain ⟨hk, t, p, s⟩ := h.ex
  refine ⟨hk, _, ps_set hN hi hl p hs hf, fun σ H As ρ S he hs E hp => ?_⟩
  exact s σ H As ρ S he hs _ (Post.stm (P := fun r => PostS g hx W H As r E) hp (fun d S1 hp1 v H1 As1 e1 s1 i1 => hp1 _ H1 As1 e1 s1 ((he.up e1).setD i i1)) (fun c ds S' q => PostS.err he q) id)
theorem fs_if (hc : FT X g hx W c t) (h1 : FSs X g hx W sts ms) (h2 : FSs X g hx W us mt) : FS X g hx W (.If c sts us pos) (mIf t ms mt) := by
  obtain ⟨hk, tc, pc, sc⟩ := hc.ex
  obtain ⟨_, t1, p1, s1⟩ := h1.ex
  obtain ⟨_, t2, p2, s2⟩ := h2.ex
  refine ⟨hk, _, ps_if pc p1 p2, fun σ H As ρ S he hs E hp => ?_⟩
  refine sc σ H As ρ S he hs _ (PostT.stm (P := fun r => PostS g hx W H As r E) hp (fun d S1 hp1 H1 As1 e1 st1 => ?_) (fun c ds S' q => PostS.err he q) id)
  cases d with
  | true => rw [if_pos rfl]; exact s1 σ H1 As1 ρ S1 (he.up e1) st1 E (hp1.up e1)
  | false => rw [if_neg Bool.false_ne_true]; exact s2 σ H1 As1 ρ S1 (he.up e1) st1 E (hp1.up e1)
/-! ### targets -/
abbrev Tgt := D → Rho → Store → Option Rho
abbrev Tgts := List D → Rho → Store → Option Rho
/-- only the slots sl have changed -/
def Off (sl : List Nat) (σ σ' : L2.St) : Prop := σ'.length = σ.length ∧ ∀ i : Nat, i ∉ sl → σ'[i]? = σ[i]?
theorem Off.refl (sl : List Nat) (σ : L2.St) : Off sl σ σ := ⟨rfl, fun _ _ => rfl⟩
theorem Off.trans {s1 s2 : List Nat} {σ1 σ2 σ3 : L2.St} (a : Off s1 σ1 σ2) (b : Off s2 σ2 σ3) : Off (s1 ++ s2) σ1 σ3 := ⟨b.1.trans a.1, fun i hi => (b.2 i fun m => hi (List.mem_append_right _ m)).trans (a.2 i fun m => hi (List.mem_append_left _ m))⟩
def SnG (g : G) (hx : HX) (t : TG) (sl : List Nat) (m : Tgt) : Prop := ∀ v σ H As d ρ S ρ', EnvOk g hx H As ρ σ → StOk g H As S → Is g.K H As d v → m d ρ S = some ρ' → ∀ Q : L2.St → Hp → Prop, (∀ σ', EnvOk g hx H As ρ' σ' → Off sl σ σ' → Q σ' H) → t v σ H Q
def SnGs (g : G) (hx : HX) (t : TGs) (sl : List Nat) (m : Tgts) : Prop := ∀ vs σ H As ds ρ S ρ', EnvOk g hx H As ρ σ → StOk g H As S → IsL g.K H As ds vs → m ds ρ S = some ρ' → ∀ Q : L2.St → Hp → Prop, (∀ σ', EnvOk g hx H As ρ' σ' → Off sl σ σ' → Q σ' H) → t vs σ H Q
structure FG (X : Cx) (g : G) (hx : HX) (e : Expr) (sl : List Nat) (m : Tgt) : Prop where
  ex : X.K = g.K ∧ ∃ t, PG X e t ∧ SnG g hx t sl m
structure FGs (X : Cx) (g : G) (hx : HX) (e : List Expr) (sl : List Nat) (m : Tgts) : Prop where
  ex : X.K = g.K ∧ ∃ t, PGs X e t ∧ SnGs g hx t sl m
def gN (i : Nat) : Tgt := fun d ρ _ => some (ρ.set i (.dat d))
def gsNil : Tgts := fun ds ρ _ => match ds with
  | [] => some ρ
  | _ => none
def gsCons (t : Tgt) (u : Tgts) : Tgts := fun ds ρ S => match ds with
  | d :: r => (t d ρ S).bind fun ρ1 => u r ρ1 S
  | [] => none
def gT (n : Nat) (u : Tgts) : Tgt := fun d ρ S => match d with
  | .tup ds => if ds.length = n then u ds ρ S else none
  | _ => none
theorem fg_name {i : Nat} {x : Str} (hk : X.K = g.K) (hN : X.N.Nodup) (hi : X.N[i]? = some x := by rfl) (hl : Loc X.env.scope x := by first | exact Or.inl rfl | exact Or.inr rfl) (hf : X.fn x = true ∨ X.env.scope.names.lookup x = some .local := by first | exact .inl rfl | exact .inr rfl | assumption) : FG X g hx (.Name x pos) [i] (gN i) :=
  ⟨hk, _, pg_name hN hi hl hf, fun v σ H As d ρ S ρ' he hs iv h Q q => by
    cases h
    exact q _ (he.setD i iv) ⟨by rw [List.length_set], fun j hj => List.getElem?_set_ne fun z => hj (by rw [z]; exact List.mem_singleton.mpr rfl)⟩⟩
theorem fgs_nil (hk : X.K = g.K) : FGs X g hx [] [] gsNil := ⟨hk, _, pgs_nil, fun vs σ H As ds ρ S ρ' he hs iv h Q q => by
  cases iv with
  | nil => cases h; exact ⟨rfl, q _ he (Off.refl _ _)⟩
  | cons _ _ => cases h⟩
theorem fgs_cons {tg : Tgt} {tgs : Tgts} {s1 s2 : List Nat} (h1 : FG X g hx e s1 tg) (h2 : FGs X g hx es s2 tgs) (hs : (assignEach (e :: es) X.env).map (·.2) = assign e X.env :: (assignEach es X.env).map (·.2) := by rfl) : FGs X g hx (e :: es) (s1 ++ s2) (gsCons tg tgs) := by
  obtain ⟨hk, t, p, s⟩ := h1.ex
  obtain ⟨_, u, q, z2⟩ := h2.ex
  refine ⟨hk, _, pgs_cons p q hs, fun vs σ H As ds ρ S ρ' he hs iv h Q k => ?_⟩
  cases iv with
  | nil => cases h
  | cons i1 i2 =>
    rename_i d v r vr
    unfold gsCons at h
    dsimp only at h
    cases z : tg d ρ S with
    | none => rw [z] at h; cases h
    | some ρ1 =>
      rw [z] at h
      exact ⟨v, vr, rfl, s v σ H As d ρ S ρ1 he hs i1 z _ fun σ1 he1 o1 => z2 vr σ1 H As r ρ1 S ρ' he1 hs i2 h Q fun σ2 he2 o2 => k σ2 he2 (o1.trans o2)⟩
theorem fg_tup {k n : Nat} {tgs : Tgts} {sl : List Nat} (hc : X.calm = true) (h : FGs X g hx es sl tgs) (hn : (assignEach es X.env).length = n := by rfl) (hst : (assignEach es X.env).findIdx? (·.1) = none := by rfl) : FG X g hx (.Tuple es k pos) sl (gT n tgs) := by
  obtain ⟨hk, t, p, s⟩ := h.ex
  refine ⟨hk, _, pg_tup hc p hn hst, fun v σ H As d ρ S ρ' he hs iv h Q q => ?_⟩
  unfold gT at h
  cases iv with
  | tup h1 r =>
    dsimp only at h
    split at h
    · rename_i hl
      refine ⟨_, _, rfl, by rw [hk]; exact h1, by rw [← r.len]; exact hl, s _ σ H As _ ρ S ρ' he hs r h Q q⟩
    · cases h
  | _ => cases h
/-- target = e -/
def mAsg (t : Tgt) (m : ME) : MS := fun ρ S => (m ρ S).stm ρ fun d S1 => match t d ρ S1 with
  | some ρ' => .nx ρ' S1
  | none => .bad
theorem fs_asg {tg : Expr} {tt : Tgt} {sl : List Nat} (h : FE X g hx W e m) (hg : FG X g hx tg sl tt) (hs : swapsWithSole [tg] e pos.line X.env = pure false := by rfl) (hw : swappedStores [tg] e X.env = pure none := by rfl) (h1 : (assignEach [tg] X.env).map (·.2) = [assign tg X.env] := by rfl) : FS X g hx W (.Assign [tg] e pos) (mAsg tt m) := by
  obtain ⟨hk, t, p, s⟩ := h.ex
  obtain ⟨_, u, q, s2⟩ := hg.ex
  refine ⟨hk, _, ps_asg p q hs hw h1, fun σ H As ρ S he hs E hp => ?_⟩
  refine s σ H As ρ S he hs _ (Post.stm (P := fun r => PostS g hx W H As r E) hp (fun d S1 hp1 v H1 As1 e1 s1 i1 => ?_) (fun c ds S' q => PostS.err he q) id)
  split at hp1
  · rename_i ρ' z
    exact s2 v σ H1 As1 d ρ S1 ρ' (he.up e1) s1 i1 z _ fun σ' he' _ => hp1 σ' H1 As1 e1 s1 he'
  · exact False.elim hp1
/-- a, b = e1, e2 (two names of the def) -/
def mPar (i j : Nat) (ma : MA) : MS := fun ρ S => (ma ρ S).stm ρ fun ds S1 => match ds with
  | [d, e] => .nx ((ρ.set i (.dat d)).set j (.dat e)) S1
  | _ => .bad
/-- xs[i] = e, xs an object of the store -/
def setD (o i : D) (d : D) (S : Store) : Option Store := match o, i with
  | .ref n, .int k => match getL S n with
    | some ds => match ixN ds.length k with
      | some j => some (S.set n (.lst (ds.set j d)))
      | none => none
    | none => none
  | _, _ => none
def mSub (mo mi m : ME) : MS := fun ρ S => (m ρ S).stm ρ fun d S1 => (mo ρ S1).stm ρ fun o S2 => (mi ρ S2).stm ρ fun i S3 => match setD o i d S3 with
  | some S4 => .nx ρ S4
  | none => .bad
theorem fs_sub {o i : Expr} {mo mi : ME} {kp : Pos} (h : FE X g hx W e m) (ho : FE X g hx W o mo) (hi : FE X g hx W i mi) (pg : ∀ {to ti : TE} {t : TSet}, PE X o to → PE X i ti → PSet X t → PG X (.Subscript o i kp) (gSub to ti t)) (hs : swapsWithSole [.Subscript o i kp] e pos.line X.env = pure false := by rfl) (hw : swappedStores [.Subscript o i kp] e X.env = pure none := by rfl) (hz : (assignEach [.Subscript o i kp] X.env).map (·.2) = [assign (.Subscript o i kp) X.env] := by rfl) :
    FS X g hx W (.Assign [.Subscript o i kp] e pos) (mSub mo mi m) := by
  obtain ⟨hk, t, p, s⟩ := h.ex
  obtain ⟨_, t1, p1, s1⟩ := ho.ex
  obtain ⟨_, t2, p2, s2⟩ := hi.ex
  refine ⟨hk, _, ps_asg p (pg p1 p2 set_list) hs hw hz, fun σ H As ρ S he hs E hp => ?_⟩
  refine s σ H As ρ S he hs _ (Post.stm (P := fun r => PostS g hx W H As r E) hp (fun d S1 hp1 v H1 As1 e1 st1 i1 => ?_) (fun c ds S' q => PostS.err he q) id)
  refine s1 σ H1 As1 ρ S1 (he.up e1) st1 _ (Post.stm (P := fun r => PostS g hx W H1 As1 r E) (hp1.up e1) (fun od S2 hp2 ov H2 As2 e2 st2 i2 => ?_) (fun c ds S' q => PostS.err (he.up e1) q) id)
  refine s2 σ H2 As2 ρ S2 ((he.up e1).up e2) st2 _ (Post.stm (P := fun r => PostS g hx W H2 As2 r E) (hp2.up e2) (fun id S3 hp3 iv H3 As3 e3 st3 i3 => ?_) (fun c ds S' q => PostS.err ((he.up e1).up e2) q) (fun z => z))
  have hp4 := hp3.up e3
  unfold setD at hp4
  have i2' := i2.up e3
  have i1' := (i1.up e2).up e3
  cases i2' with
  | ref ha =>
    cases i3 with
    | int k =>
      dsimp only at hp4
      cases q : getL S3 _ with
      | none => rw [q] at hp4; exact False.elim hp4
      | some ds =>
        rw [q] at hp4
        dsimp only at hp4
        cases q2 : ixN ds.length k with
        | none => rw [q2] at hp4; exact False.elim hp4
        | some j =>
          rw [q2] at hp4
          obtain ⟨a', xs, ha', h1, r⟩ := st3.lst (getL_some q)
          rw [ha] at ha'; cases ha'
          have ex : Ext H3 As3 (upd H3 _ (.lst (xs.set j v))) As3 := Ext.write st3 ha
          refine ⟨_, xs, k, j, rfl, rfl, h1, by rw [← r.len]; exact q2, ?_⟩
          exact hp4 σ _ As3 ex (st3.write ha ⟨_, upd_same, (r.up ex).set j (i1'.up ex)⟩) ((((he.up e1).up e2).up e3).up ex)
    | _ => exact False.elim hp4
  | _ =>
    cases i3 <;> exact False.elim hp4
/-- x op= e, x a name of the def -/
structure AugR (X : Cx) (g : G) (op : Operator) (f : D → D → Store → R D) : Prop where
  ex : ∃ r, PIp X op r ∧ RSn g r f ∧ NoErr f
def mAug (i : Nat) (f : D → D → Store → R D) (m : ME) : MS := fun ρ S => match ρ[i]? with
  | some (.dat x) => (m ρ S).stm ρ fun d S1 => (f x d S1).stm ρ fun z S2 => .nx (ρ.set i (.dat z)) S2
  | _ => .bad
theorem fs_aug {i : Nat} {x : Str} {op : Operator} {f : D → D → Store → R D} {pos' : Pos} (hN : X.N.Nodup) (ar : AugR X g op f) (h : FE X g hx W e m) (hi : X.N[i]? = some x := by rfl) (hl : Loc X.env.scope x := by first | exact Or.inl rfl | exact Or.inr rfl) (hf : X.fn x = true ∨ X.env.scope.names.lookup x = some .local := by first | exact .inl rfl | exact .inr rfl | assumption) :
    FS X g hx W (.AugAssign (.Name x pos') op e pos) (mAug i f m) := by
  obtain ⟨r, h1, h2, h3⟩ := ar.ex
  obtain ⟨hk, t, p, s⟩ := h.ex
  refine ⟨hk, _, ps_aug hN hi hl p h1 hf, fun σ H As ρ S he hs E hp => ?_⟩
  unfold mAug at hp
  cases q : ρ[i]? with
  | none => rw [q] at hp; exact False.elim hp
  | some sl =>
    rw [q] at hp
    cases sl with
    | un => exact False.elim hp
    | exc c ds => exact False.elim hp
    | dat d0 =>
      obtain ⟨v0, e0, i0⟩ := he.at_ i _ q
      refine ⟨v0, e0, ?_⟩
      refine s σ H As ρ S he hs _ (Post.stm (P := fun r => PostS g hx W H As r E) hp (fun d S1 hp1 v H1 As1 e1 st1 i1 => ?_) (fun c ds S' q => PostS.err he q) id)
      have hp2 := hp1.up e1
      cases q2 : f d0 d S1 with
      | err c ds S3 => exact absurd q2 (h3 d0 d S1 c ds S3)
      | bad => rw [q2] at hp2; exact False.elim hp2
      | ok z S3 =>
        rw [q2] at hp2
        exact h2 H1 As1 S1 v0 v d0 d st1 (i0.up e1) i1 _ (fun z' S' q' => by rw [q2] at q'; cases q'; exact fun zv H2 As2 e2 st2 i2 => hp2 _ H2 As2 e2 st2 (((he.up e1).up e2).setD i i2)) ⟨z, S3, q2⟩
end
end FL
end

section
set_option autoImplicit false
namespace FL
open PySem L2
/-! ### while -/
def mWhileN (t : MT) (b : MS) : Nat → MS
  | 0 => fun _ _ => .bad
  | n + 1 => fun ρ S => (t ρ S).stm ρ fun c S1 => match c with
    | false => .nx ρ S1
    | true => match b ρ S1 with
      | .nx ρ' S' => mWhileN t b n ρ' S'
      | .ct ρ' S' => mWhileN t b n ρ' S'
      | .bk ρ' S' => .nx ρ' S'
      | r => r
/-- the turns that a while may take -/
def fuelW : Nat := 100000000
def mWhile (t : MT) (b : MS) : MS := mWhileN t b fuelW
/-! ### for -/
structure Src where
  items : List D
  guard : Store → Prop
abbrev MI := Rho → Store → R Src
def SrcOk (g : G) (H1 : Hp) (As1 : List Addr) (J : It) (src : Src) : Prop := ∃ Gd Y, Walk J src.items.length Gd Y ∧ (∀ H As S, Ext H1 As1 H As → StOk g H As S → src.guard S → Gd H) ∧
  ∀ i H As S x H', Ext H1 As1 H As → StOk g H As S → src.guard S → Y i H x H' → ∃ d, src.items[i]? = some d ∧ Ext H As H' As ∧ StOk g H' As S ∧ Is g.K H' As d x
def PostI (g : G) (W : WX) (σ : L2.St) (H : Hp) (As : List Addr) (r : R Src) (Q : It → Hp → Prop) : Prop := match r with
  | .ok src S' => ∀ J H' As', Ext H As H' As' → StOk g H' As' S' → SrcOk g H' As' J src → Q J H'
  | .err c ds S' => ∀ dd H' As', Ext H As H' As' → StOk g H' As' S' → ExcOk g H' As' c ds dd → W (.ref (g.ec c)) dd σ H'
  | .bad => False
def SnI (g : G) (hx : HX) (W : WX) (t : TI) (m : MI) : Prop := ∀ σ H As ρ S, EnvOk g hx H As ρ σ → StOk g H As S → ∀ Q : It → Hp → Prop, PostI g W σ H As (m ρ S) Q → t σ H Q
structure FI (X : Cx) (g : G) (hx : HX) (W : WX) (tg e : Expr) (m : MI) : Prop where
  ex : X.K = g.K ∧ ∃ t, PI X tg e t ∧ SnI g hx W t m
open Classical in
noncomputable def mItems (P : Store → Prop) (t : Tgt) (b : MS) : List D → MS
  | [] => fun ρ S => if P S then .nx ρ S else .bad
  | d :: ds => fun ρ S => if P S then (match t d ρ S with
      | none => .bad
      | some ρ1 => match b ρ1 S with
        | .nx ρ' S' => mItems P t b ds ρ' S'
        | .ct ρ' S' => mItems P t b ds ρ' S'
        | .bk ρ' S' => .nx ρ' S'
        | r => r) else .bad
noncomputable def mFor (mi : MI) (t : Tgt) (b : MS) : MS := fun ρ S => (mi ρ S).stm ρ fun src S1 => mItems src.guard t b src.items ρ S1
section
variable {X : Cx} {g : G} {hx : HX} {W : WX} {a b c e tg : Expr} {ma mb mc m : ME} {pos : Pos} {es : List Expr} {mas : MA} {H : Hp} {As : List Addr} {S : Store} {st : Stmt} {sts us : List Stmt} {ms mt mu : MS} {t : MT}
theorem fs_while (hp : PassesOwn (model X.prog X.w) X.A X.env X.xe) (hc : FT X g hx W c t) (hb : FSs X g hx W sts ms) : FS X g hx W (.While c sts [] pos) (mWhile t ms) := by
  obtain ⟨hk, tc, pc, sc⟩ := hc.ex
  obtain ⟨_, tb, pb, sb⟩ := hb.ex
  refine ⟨hk, _, ps_while hp pc pb, fun σ H As ρ S he hs E hp => ?_⟩
  refine ⟨fun n σ H => ∃ As ρ S, EnvOk g hx H As ρ σ ∧ StOk g H As S ∧ PostS g hx W H As (mWhileN t ms n ρ S) E, ⟨fuelW, As, ρ, S, he, hs, hp⟩, ?_⟩
  rintro n σ H ⟨As, ρ, S, he, hs, hp⟩
  cases n with
  | zero => exact False.elim hp
  | succ n =>
    unfold mWhileN at hp
    refine sc σ H As ρ S he hs _ (PostT.stm (P := fun r => PostS g hx W H As r E) hp (fun d S1 hp1 H1 As1 e1 st1 => ?_) (fun c ds S' q => PostS.err he q) id)
    cases d with
    | false => rw [if_neg Bool.false_ne_true]; exact hp1 σ H1 As1 e1 st1 (he.up e1)
    | true =>
      rw [if_pos rfl]
      have hp2 := hp1.up e1
      dsimp only at hp2
      refine ⟨fun σ' H' => ∃ As ρ S, EnvOk g hx H' As ρ σ' ∧ StOk g H' As S ∧ PostS g hx W H' As (mWhileN t ms n ρ S) E, fun σ' H' h => ⟨n, Nat.lt_succ_self n, h⟩, ?_⟩
      refine sb σ H1 As1 ρ S1 (he.up e1) st1 _ ?_
      cases r : ms ρ S1 with
      | nx ρ' S' => rw [r] at hp2; exact fun σ' H' As' e2 st2 v2 => ⟨As', ρ', S', v2, st2, hp2.up e2⟩
      | ct ρ' S' => rw [r] at hp2; exact fun σ' H' As' e2 st2 v2 => ⟨As', ρ', S', v2, st2, hp2.up e2⟩
      | bk ρ' S' => rw [r] at hp2; exact hp2
      | rt d S' => rw [r] at hp2; exact hp2
      | err c ds ρ' S' => rw [r] at hp2; exact hp2
      | bad => rw [r] at hp2; exact hp2
theorem fs_for {mi : MI} {tt : Tgt} {sl : List Nat} (hp : PassesOwn (model X.prog X.w) X.A X.env X.xe) (hc : X.calm = true) (hi : FI X g hx W tg e mi) (hg : FG X g hx tg sl tt) (hb : FSs X g hx W sts ms) (hs : ∀ x, foldedSetIterable e X.env x = pure x := by intro _; rfl) :
    FS X g hx W (.For tg e sts [] pos) (mFor mi tt ms) := by
  obtain ⟨hk, ti, pi, si⟩ := hi.ex
  obtain ⟨_, tgt, pg, sg⟩ := hg.ex
  obtain ⟨_, tb, pb, sb⟩ := hb.ex
  refine ⟨hk, _, ps_for hp hc pi pg pb hs, fun σ H As ρ S he hs E hp => ?_⟩
  have key : PostI g W σ H As (mi ρ S) fun J H1 => ∃ W : Nat → Nat → L2.St → Hp → Prop, (∃ m, W 0 m σ H1) ∧ ∀ i m σ H, W i m σ H →
      (J.stop i H ∧ E.nx σ H) ∨ (J.go i H ∧ ∃ N : L2.St → Hp → Prop, (∀ σ' H', N σ' H' → ∃ m', m' < m ∧ W (i + 1) m' σ' H') ∧ ∀ x H', J.yld i H x H' → tgt x σ H' fun σ2 H2 => tb { E with nx := N, ct := N, bk := E.nx } σ2 H2) := by
    unfold mFor at hp
    cases r : mi ρ S with
    | err c ds S' => rw [r] at hp; exact PostS.err he hp
    | bad => rw [r] at hp; exact False.elim hp
    | ok src S1 =>
      rw [r, stm_ok] at hp
      intro J H1 As1 e1 st1 ⟨Gd, Y, wk, hG, hY⟩
      refine for_it wk (fun i σ H => ∃ As ρ S, Ext H1 As1 H As ∧ EnvOk g hx H As ρ σ ∧ StOk g H As S ∧ PostS g hx W H As (mItems src.guard tt ms (src.items.drop i) ρ S) E)
        ⟨As1, ρ, S1, Ext.refl _ _, he.up e1, st1, by rw [List.drop_zero]; exact hp.up e1⟩ ?_ ?_ ?_
      · rintro i σ H _ ⟨As, ρ, S, ex, he, hs, hp⟩
        refine hG H As S ex hs ?_
        apply Classical.byContradiction
        intro hn
        cases z : src.items.drop i with
        | nil => rw [z] at hp; unfold mItems at hp; rw [if_neg hn] at hp; exact hp
        | cons d ds => rw [z] at hp; unfold mItems at hp; rw [if_neg hn] at hp; exact hp
      · rintro i x σ H H' hi ⟨As, ρ, S, ex, he, hs, hp⟩ hy
        have hgd : src.guard S := by
          apply Classical.byContradiction
          intro hn
          rw [List.drop_eq_getElem_cons hi] at hp
          unfold mItems at hp
          rw [if_neg hn] at hp
          exact hp
        obtain ⟨d, hd, e2, s2, i2⟩ := hY i H As S x H' ex hs hgd hy
        have hdd : src.items.drop i = d :: src.items.drop (i + 1) := by
          rw [List.drop_eq_getElem_cons hi]
          obtain ⟨_, z⟩ := List.getElem?_eq_some_iff.mp hd
          rw [z]
        rw [hdd] at hp
        unfold mItems at hp
        rw [if_pos hgd] at hp
        cases q : tt d ρ S with
        | none => rw [q] at hp; exact False.elim hp
        | some ρ1 =>
          rw [q] at hp
          dsimp only at hp
          refine sg x σ H' As d ρ S ρ1 (he.up e2) s2 i2 q _ fun σ1 he1 _ => ?_
          refine sb σ1 H' As ρ1 S he1 s2 _ ?_
          have hp2 := hp.up e2
          have ex2 := ex.trans e2
          cases r : ms ρ1 S with
          | nx ρ' S' => rw [r] at hp2; exact fun σ' H'' As' e3 st3 v3 => ⟨As', ρ', S', ex2.trans e3, v3, st3, hp2.up e3⟩
          | ct ρ' S' => rw [r] at hp2; exact fun σ' H'' As' e3 st3 v3 => ⟨As', ρ', S', ex2.trans e3, v3, st3, hp2.up e3⟩
          | bk ρ' S' => rw [r] at hp2; exact hp2
          | rt d S' => rw [r] at hp2; exact hp2
          | err c ds ρ' S' => rw [r] at hp2; exact hp2
          | bad => rw [r] at hp2; exact hp2
      · rintro σ H ⟨As, ρ, S, ex, he, hs, hp⟩
        rw [List.drop_length] at hp
        unfold mItems at hp
        split at hp
        · exact hp σ H As (Ext.refl _ _) hs he
        · exact False.elim hp
  exact si σ H As ρ S he hs _ key
/-! ### what a for walks -/
theorem SrcOk.mk {H1 : Hp} {As1 : List Addr} {J : It} {src : Src} {n : Nat} {Gd : Hp → Prop} {Y : Nat → Hp → V → Hp → Prop} (w : Walk J n Gd Y) (hn : n = src.items.length)
    (hG : ∀ H As S, Ext H1 As1 H As → StOk g H As S → src.guard S → Gd H)
    (hY : ∀ i H As S x H', Ext H1 As1 H As → StOk g H As S → src.guard S → Y i H x H' → ∃ d, src.items[i]? = some d ∧ Ext H As H' As ∧ StOk g H' As S ∧ Is g.K H' As d x) : SrcOk g H1 As1 J src := ⟨Gd, Y, hn ▸ w, hG, hY⟩
def mRow (m : ME) : MI := fun ρ S => (m ρ S).bind fun d S1 => match d with
  | .tup ds => .ok ⟨ds, fun _ => True⟩ S1
  | _ => .bad
/-- a list: it must stand as it stood at each turn -/
def mRowL (m : ME) : MI := fun ρ S => (m ρ S).bind fun d S1 => match d with
  | .fz ds => .ok ⟨ds, fun _ => True⟩ S1
  | .ref n => match getL S1 n with
    | some ds => .ok ⟨ds, fun S => S[n]? = some (.lst ds)⟩ S1
    | none => .bad
  | _ => .bad
def mRng1 (ma : MA) : MI := fun ρ S => (ma ρ S).bind fun ds S1 => match ds with
  | [.int n] => if n.natAbs ≤ 16777216 then .ok ⟨(List.range n.toNat).map fun (i : Nat) => .int (i : Int), fun _ => True⟩ S1 else .bad
  | _ => .bad
def mRng2 (ma : MA) : MI := fun ρ S => (ma ρ S).bind fun ds S1 => match ds with
  | [.int a, .int b] => if a.natAbs ≤ 16777216 ∧ b.natAbs ≤ 16777216 then .ok ⟨(List.range (b - a).toNat).map fun (i : Nat) => .int (a + (i : Int)), fun _ => True⟩ S1 else .bad
  | _ => .bad
def mSigns (m : ME) : MI := fun ρ S => (m ρ S).bind fun d S1 => match d with
  | .str s => .ok ⟨s.cps.toList.map fun c => .str ⟨#[c]⟩, fun _ => True⟩ S1
  | _ => .bad
def mRev (m : ME) : MI := fun ρ S => (m ρ S).bind fun d S1 => match d with
  | .tup ds => .ok ⟨ds.reverse, fun _ => True⟩ S1
  | .fz ds => .ok ⟨ds.reverse, fun _ => True⟩ S1
  | .ref n => match getL S1 n with
    | some ds => .ok ⟨ds.reverse, fun S => S[n]? = some (.lst ds)⟩ S1
    | none => .bad
  | _ => .bad
theorem fi_tup (h : FE X g hx W e m) : FI X g hx W tg e (mRow m) := by
  obtain ⟨hk, t, p, s⟩ := h.ex
  refine ⟨hk, _, pi_tup p, fun σ H As ρ S he hs Q hp => ?_⟩
  refine s σ H As ρ S he hs _ (Post.bind (P := fun r => PostI g W σ H As r Q) hp (fun d S1 hp1 v H1 As1 e1 s1 i1 => ?_) (fun _ _ _ q => q) id)
  rw [hk]
  cases i1 with
  | tup h1 r =>
    refine ⟨_, rfl, ⟨_, h1⟩, hp1 _ H1 As1 e1 s1 (SrcOk.mk walk_tup r.len.symm (fun H As S ex _ _ => ?_) (fun i H As S x H' ex s2 _ hy => ?_))⟩
    · exact ex.sqT h1
    · obtain ⟨rfl, hx⟩ := hy
      obtain ⟨d, hd, iv⟩ := (r.up ex).getV hx
      exact ⟨d, hd, Ext.refl _ _, s2, iv⟩
  | _ => exact False.elim hp1
theorem walk_L {K : PySem.W.Frag} {p : Addr} {n : Nat} : Walk (Itl K p) n (fun H => ∃ xs, SqL K H p xs ∧ xs.length = n) (fun i H x H' => H' = H ∧ ∀ xs, SqL K H p xs → xs[i]? = some x) where
  goes := fun i H hi ⟨xs, h, e⟩ => ⟨xs, xs[i]'(by omega), h, by simp⟩
  stops := fun H ⟨xs, h, e⟩ => ⟨xs, h, by omega⟩
  yields := fun i H x H' hi _ y => y
theorem fi_list (h : FE X g hx W e m) : FI X g hx W tg e (mRowL m) := by
  obtain ⟨hk, t, p, s⟩ := h.ex
  refine ⟨hk, _, pi_list p, fun σ H As ρ S he hs Q hp => ?_⟩
  refine s σ H As ρ S he hs _ (Post.bind (P := fun r => PostI g W σ H As r Q) hp (fun d S1 hp1 v H1 As1 e1 s1 i1 => ?_) (fun _ _ _ q => q) id)
  rw [hk]
  cases i1 with
  | fz h1 r =>
    refine ⟨_, rfl, ⟨_, h1.sq⟩, hp1 _ H1 As1 e1 s1 (SrcOk.mk walk_L rfl (fun H As S ex _ _ => ⟨_, (ex.fzl h1).sq, r.len.symm⟩) (fun i H As S x H' ex s2 _ hy => ?_))⟩
    obtain ⟨rfl, hx⟩ := hy
    obtain ⟨d, hd, iv⟩ := (r.up ex).getV (hx _ (ex.fzl h1).sq)
    exact ⟨d, hd, Ext.refl _ _, s2, iv⟩
  | ref ha =>
    dsimp only at hp1
    split at hp1
    · rename_i ds q
      obtain ⟨a, xs, ha', h1, r⟩ := s1.lst (getL_some q)
      rw [ha] at ha'; cases ha'
      refine ⟨_, rfl, ⟨_, SqL.of h1⟩, hp1 _ H1 As1 e1 s1 (SrcOk.mk walk_L rfl (fun H As S ex s2 gd => ?_) (fun i H As S x H' ex s2 gd hy => ?_))⟩
      · obtain ⟨a2, xs2, ha2, h2, r2⟩ := s2.lst gd
        rw [ex.get ha] at ha2; cases ha2
        exact ⟨xs2, SqL.of h2, r2.len.symm⟩
      · obtain ⟨a2, xs2, ha2, h2, r2⟩ := s2.lst gd
        rw [ex.get ha] at ha2; cases ha2
        obtain ⟨rfl, hx⟩ := hy
        obtain ⟨d, hd, iv⟩ := r2.getV (hx _ (SqL.of h2))
        exact ⟨d, hd, Ext.refl _ _, s2, iv⟩
    · exact False.elim hp1
  | _ => exact False.elim hp1
theorem fi_range1 {p : Pos} (hm : X.mg "range" = none) (h : FA X g hx W [e] mas) (hg : Gl X "range" := by rfl) (hs : starEach [e] X.env = [(false, eval e X.env)] := by rfl) : FI X g hx W tg (.Call (.Name "range" p) [e] [] pos) (mRng1 mas) := by
  obtain ⟨hk, t, pa, s⟩ := h.ex
  refine ⟨hk, _, pi_range1 hg hm pa hs, fun σ H As ρ S he hs Q hp => ?_⟩
  refine s σ H As ρ S he hs _ (PostA.bind (P := fun r => PostI g W σ H As r Q) hp (fun ds S1 hp1 vs H1 As1 e1 s1 i1 => ?_) (fun _ _ _ q => q) id)
  split at hp1
  · split at hp1
    · rename_i n hb
      cases i1 with
      | cons i1 i2 =>
        cases i2; cases i1
        refine ⟨n, rfl, by omega, by omega, hp1 _ H1 As1 e1 s1 (SrcOk.mk (walk_range.mono (Y' := fun i H x H' => (i < n.toNat) ∧ H' = H ∧ x = V.int (0 + (i : Nat))) (fun _ h => h) (fun i H x H' hi _ y => ⟨hi, y⟩)) (by rw [List.length_map, List.length_range]) (fun H As S ex _ _ => trivial) (fun i H As S x H' ex s2 _ hy => ?_))⟩
        obtain ⟨hi, rfl, rfl⟩ := hy
        refine ⟨.int (i : Nat), ?_, Ext.refl _ _, s2, by rw [Int.zero_add]; exact .int _⟩
        rw [List.getElem?_map, List.getElem?_range hi]
        rfl
    · exact False.elim hp1
  · exact False.elim hp1
theorem fi_range2 {p : Pos} (hm : X.mg "range" = none) (h : FA X g hx W [a, b] mas) (hg : Gl X "range" := by rfl) (hs : starEach [a, b] X.env = [(false, eval a X.env), (false, eval b X.env)] := by rfl) (hs2 : starEach [b] X.env = [(false, eval b X.env)] := by rfl) : FI X g hx W tg (.Call (.Name "range" p) [a, b] [] pos) (mRng2 mas) := by
  obtain ⟨hk, t, pa, s⟩ := h.ex
  refine ⟨hk, _, pi_range2 hg hm pa hs hs2, fun σ H As ρ S he hs Q hp => ?_⟩
  refine s σ H As ρ S he hs _ (PostA.bind (P := fun r => PostI g W σ H As r Q) hp (fun ds S1 hp1 vs H1 As1 e1 s1 i1 => ?_) (fun _ _ _ q => q) id)
  split at hp1
  · split at hp1
    · rename_i lo hi hb
      cases i1 with
      | cons i1 i2 =>
        cases i2 with
        | cons i2 i3 =>
          cases i3; cases i2; cases i1
          refine ⟨lo, hi, rfl, by omega, hp1 _ H1 As1 e1 s1 (SrcOk.mk (walk_range.mono (Y' := fun i H x H' => (i < (hi - lo).toNat) ∧ H' = H ∧ x = V.int (lo + (i : Nat))) (fun _ h => h) (fun i H x H' hi _ y => ⟨hi, y⟩)) (by rw [List.length_map, List.length_range]) (fun H As S ex _ _ => trivial) (fun i H As S x H' ex s2 _ hy => ?_))⟩
          obtain ⟨hi, rfl, rfl⟩ := hy
          refine ⟨.int (lo + (i : Nat)), ?_, Ext.refl _ _, s2, .int _⟩
          rw [List.getElem?_map, List.getElem?_range hi]
          rfl
    · exact False.elim hp1
  · exact False.elim hp1
theorem fi_str (h : FE X g hx W e m) : FI X g hx W tg e (mSigns m) := by
  obtain ⟨hk, t, p, s⟩ := h.ex
  refine ⟨hk, _, pi_str p, fun σ H As ρ S he hs Q hp => ?_⟩
  refine s σ H As ρ S he hs _ (Post.bind (P := fun r => PostI g W σ H As r Q) hp (fun d S1 hp1 v H1 As1 e1 s1 i1 => ?_) (fun _ _ _ q => q) id)
  cases i1 with
  | str z =>
    refine ⟨z, rfl, hp1 _ H1 As1 e1 s1 (SrcOk.mk walk_str (by rw [List.length_map, Array.length_toList]) (fun H As S ex _ _ => trivial) (fun i H As S x H' ex s2 _ hy => ?_))⟩
    obtain ⟨rfl, c, hc, rfl⟩ := hy
    refine ⟨.str ⟨#[c]⟩, ?_, Ext.refl _ _, s2, .str _⟩
    rw [List.getElem?_map, Array.getElem?_toList, hc]
    rfl
  | _ => exact False.elim hp1
theorem walk_rv {K : PySem.W.Frag} {p : Addr} {n : Nat} : Walk (Itv K p n) n (fun H => ∃ xs, SqL K H p xs ∧ xs.length = n) (fun i H x H' => i < n ∧ H' = H ∧ ∀ xs, SqL K H p xs → xs[n - 1 - i]? = some x) where
  goes := fun i H hi ⟨xs, h, e⟩ => ⟨hi, xs, xs[n - 1 - i]'(by omega), h, by simp⟩
  stops := fun H ⟨xs, h, e⟩ => Nat.le_refl _
  yields := fun i H x H' hi _ y => ⟨hi, y⟩
theorem walk_rt {K : PySem.W.Frag} {p : Addr} {n : Nat} : Walk (RT.ItvT K p n) n (fun H => ∃ xs, SqT K H p xs ∧ xs.length = n) (fun i H x H' => i < n ∧ H' = H ∧ ∀ xs, SqT K H p xs → xs[n - 1 - i]? = some x) where
  goes := fun i H hi ⟨xs, h, e⟩ => ⟨hi, xs, xs[n - 1 - i]'(by omega), h, by simp⟩
  stops := fun H ⟨xs, h, e⟩ => Nat.le_refl _
  yields := fun i H x H' hi _ y => ⟨hi, y⟩
theorem rev_at {ds : List D} {xs : List V} {i : Nat} {x : V} (r : IsL g.K H As ds xs) (hi : i < xs.length) (hx : xs[xs.length - 1 - i]? = some x) : ∃ d, ds.reverse[i]? = some d ∧ Is g.K H As d x := by
  have r2 := r.rev
  refine r2.getV ?_
  rw [List.getElem?_reverse hi]
  exact hx
theorem fi_rev {p : Pos} (hm : X.mg "reversed" = none) (h : FE X g hx W e m) (hg : Gl X "reversed" := by rfl) (hs : starEach [e] X.env = (false, eval e X.env) :: starEach [] X.env := by rfl) : FI X g hx W tg (.Call (.Name "reversed" p) [e] [] pos) (mRev m) := by
  obtain ⟨hk, t, pa, s⟩ := h.ex
  refine ⟨hk, _, RT.pi_revA hg hm pa hs, fun σ H As ρ S he hs Q hp => ?_⟩
  refine s σ H As ρ S he hs _ (Post.bind (P := fun r => PostI g W σ H As r Q) hp (fun d S1 hp1 v H1 As1 e1 s1 i1 => ?_) (fun _ _ _ q => q) id)
  rw [hk]
  cases i1 with
  | tup h1 r =>
    refine ⟨_, _, rfl, .inr ⟨h1, hp1 _ H1 As1 e1 s1 (SrcOk.mk walk_rt (by rw [List.length_reverse, r.len]) (fun H As S ex _ _ => ⟨_, ex.sqT h1, rfl⟩) (fun i H As S x H' ex s2 _ hy => ?_))⟩⟩
    obtain ⟨hi, rfl, hx⟩ := hy
    obtain ⟨d, hd, iv⟩ := rev_at (r.up ex) hi (hx _ (ex.sqT h1))
    exact ⟨d, hd, Ext.refl _ _, s2, iv⟩
  | fz h1 r =>
    refine ⟨_, _, rfl, .inl ⟨h1.sq, hp1 _ H1 As1 e1 s1 (SrcOk.mk walk_rv (by rw [List.length_reverse, r.len]) (fun H As S ex _ _ => ⟨_, (ex.fzl h1).sq, rfl⟩) (fun i H As S x H' ex s2 _ hy => ?_))⟩⟩
    obtain ⟨hi, rfl, hx⟩ := hy
    obtain ⟨d, hd, iv⟩ := rev_at (r.up ex) hi (hx _ (ex.fzl h1).sq)
    exact ⟨d, hd, Ext.refl _ _, s2, iv⟩
  | ref ha =>
    dsimp only at hp1
    split at hp1
    · rename_i ds q
      obtain ⟨a, xs, ha', h1, r⟩ := s1.lst (getL_some q)
      rw [ha] at ha'; cases ha'
      refine ⟨_, _, rfl, .inl ⟨SqL.of h1, hp1 _ H1 As1 e1 s1 (SrcOk.mk walk_rv (by rw [List.length_reverse, r.len]) (fun H As S ex s2 gd => ?_) (fun i H As S x H' ex s2 gd hy => ?_))⟩⟩
      · obtain ⟨a2, xs2, ha2, h2, r2⟩ := s2.lst gd
        rw [ex.get ha] at ha2; cases ha2
        exact ⟨xs2, SqL.of h2, by rw [← r2.len, r.len]⟩
      · obtain ⟨a2, xs2, ha2, h2, r2⟩ := s2.lst gd
        rw [ex.get ha] at ha2; cases ha2
        obtain ⟨hi, rfl, hx⟩ := hy
        have el : xs.length = xs2.length := by rw [← r2.len, r.len]
        rw [el] at hi hx
        obtain ⟨d, hd, iv⟩ := rev_at r2 hi (hx _ (SqL.of h2))
        exact ⟨d, hd, Ext.refl _ _, s2, iv⟩
    · exact False.elim hp1
  | _ => exact False.elim hp1
end
end FL
end

section
set_option autoImplicit false
namespace FL
open PySem L2
/-! ### a def's promise -/
/-- the def answers as f -/
def spM (g : G) (n : Nat) (f : MF) : Sp := fun vs H Q E => ∃ (As : List Addr) (ds : List D) (S : Store), IsL g.K H As ds vs ∧ StOk g H As S ∧ ds.length = n ∧ (match f ds S with
  | .ok d S' => ∀ v H' As', Ext H As H' As' → StOk g H' As' S' → Is g.K H' As' d v → Q v H'
  | .err c es S' => ∀ dd H' As', Ext H As H' As' → StOk g H' As' S' → ExcOk g H' As' c es dd → E (.ref (g.ec c)) dd H'
  | .bad => False)
def rho0 (n : Nat) (ds : List D) : Rho := ds.map .dat ++ List.replicate (n - ds.length) .un
def mFn (n : Nat) (ms : MS) : MF := fun ds S => match ms (rho0 n ds) S with
  | .nx _ S' => .ok .non S'
  | .rt d S' => .ok d S'
  | .err c es _ S' => .err c es S'
  | _ => .bad
section
variable {P : Program} {w : World} {mg : Str → Option Value} {base : Heap} {g : G} {H : Hp} {As : List Addr} {S : Store}
theorem env0 {N : List Str} {ds : List D} {vs : List V} (r : IsL g.K H As ds vs) : EnvOk g none H As (rho0 N.length ds) (L2.start N vs) where
  len := by
    unfold rho0 L2.start
    rw [List.length_append, List.length_append, List.length_map, List.length_map, List.length_replicate, List.length_replicate, r.len]
  at_ := fun i s q => by
    unfold rho0 at q
    unfold L2.start
    by_cases hi : i < ds.length
    · rw [List.getElem?_append_left (by rw [List.length_map]; exact hi), List.getElem?_map] at q
      rw [List.getElem?_append_left (by rw [List.length_map, ← r.len]; exact hi), List.getElem?_map]
      rw [List.getElem?_eq_getElem hi] at q
      cases q
      obtain ⟨v, h1, h2⟩ := r.get (List.getElem?_eq_getElem hi)
      exact ⟨v, by rw [h1]; rfl, h2⟩
    · rw [List.getElem?_append_right (by rw [List.length_map]; omega), List.getElem?_replicate] at q
      split at q
      · cases q; trivial
      · cases q
/-- THE RULE for a def -/
theorem fn_ok {x qual : Str} {st : Stmt} {f : Addr} {fd : FuncData} {N ps : List Str} {k : Nat} {ms : MS} (F : Fun g.K x qual st f fd) (Sc : FnScope N ps (defScope st))
    (h : ∀ (cdv : Value) (A : Around) (outer : List Env) (s : Shared) (H : Hp) (E : XK), Room k (A.deeper (PyProof.Rows.envOfC qual (defScope st) s.heap.objs.size f cdv)) →
      FSs (cxOf (L2N.CX P w) P w g.K mg base N qual (defScope st) f cdv A outer s H E) g none (fun c d _ H' => E c d H') (defBody st) ms) :
    FnOk P w g.K mg base (L2N.CX P w) (k + 1) f fd ps (spM g ps.length (mFn N.length ms)) := by
  obtain ⟨o1, o2, o3, o4, o5, o6, cdv, o7, o8, rfl, lk, hcd⟩ := F.ex
  refine fn_of lk hcd Sc (fun vs H Q E h => ?_) (fun A outer s H vs Q E hr hsp => ?_)
  · obtain ⟨As, ds, S, h1, _, h2, _⟩ := h
    rw [← h1.len, h2]
  · obtain ⟨As, ds, S, h1, h2, h3, h4⟩ := hsp
    obtain ⟨_, t, p, sn⟩ := (h cdv A outer s H E hr).ex
    refine ⟨t, p, sn _ H As (rho0 N.length ds) S (env0 h1) h2 _ ?_⟩
    unfold mFn at h4
    cases r : ms (rho0 N.length ds) S with
    | nx ρ' S' => rw [r] at h4; exact fun σ' H' As' e st1 _ => h4 .non H' As' e st1 .non
    | rt d S' => rw [r] at h4; exact h4
    | err c es ρ' S' => rw [r] at h4; exact fun σ' dd H' As' e st1 _ x => h4 dd H' As' e st1 x
    | bk ρ' S' => rw [r] at h4; exact h4.elim
    | ct ρ' S' => rw [r] at h4; exact h4.elim
    | bad => rw [r] at h4; exact h4.elim
/-! ### what was made on the way is forgotten -/
def Cl (S S' : Store) : Prop := S.length ≤ S'.length ∧ ∀ i : Nat, i < S.length → S'[i]? = S[i]? ∨ ∃ o, S'[i]? = some o ∧ BelO S.length o
open Classical in
noncomputable def gcR (S : Store) (r : R D) : R D := match r with
  | .ok d S' => if Cl S S' ∧ Bel S.length d then .ok d (S'.take S.length) else .bad
  | .err c es S' => if Cl S S' ∧ BelL S.length es then .err c es (S'.take S.length) else .bad
  | .bad => .bad
open Classical in
noncomputable def gcS (S : Store) (r : RS) : RS := match r with
  | .nx ρ S' => if Cl S S' ∧ (∀ d, Sl.dat d ∈ ρ → Bel S.length d) ∧ (∀ c es, Sl.exc c es ∉ ρ) then .nx ρ (S'.take S.length) else .bad
  | .ct ρ S' => if Cl S S' ∧ (∀ d, Sl.dat d ∈ ρ → Bel S.length d) ∧ (∀ c es, Sl.exc c es ∉ ρ) then .ct ρ (S'.take S.length) else .bad
  | .bk ρ S' => if Cl S S' ∧ (∀ d, Sl.dat d ∈ ρ → Bel S.length d) ∧ (∀ c es, Sl.exc c es ∉ ρ) then .bk ρ (S'.take S.length) else .bad
  | r => r
theorem cl_ext {H' : Hp} {As' : List Addr} (e : Ext H As H' As') : Ext H As H' As := ⟨List.prefix_refl _, fun _ h n => absurd h n, e.keep, e.tup, e.frz⟩
theorem cl_st {H' : Hp} {As' : List Addr} {S' : Store} (s : StOk g H As S) (e : Ext H As H' As') (s' : StOk g H' As' S') (c : Cl S S') : StOk g H' As (S'.take S.length) where
  len := by rw [List.length_take, s.len]; have := c.1; omega
  nd := s.nd
  obj := fun n o a h1 h2 => by
    have hn : n < S.length := by rw [← s.len]; exact (List.getElem?_eq_some_iff.mp h2).1
    rw [List.getElem?_take_of_lt hn] at h1
    have r := s'.obj n o a h1 (e.get h2)
    refine r.cut e.pre ?_
    rw [s.len]
    rcases c.2 n hn with q | ⟨o', q, b⟩
    · rw [h1] at q
      have r2 := s.obj n o a q.symm h2
      have b := r2.bel
      rw [s.len] at b
      exact b
    · rw [h1] at q; cases q; exact b
theorem gc_ok {S' : Store} {d : D} (h : Cl S S') (b : Bel S.length d) : gcR S (.ok d S') = .ok d (S'.take S.length) := if_pos ⟨h, b⟩
theorem gc_err {S' : Store} {c : Nat} {es : List D} (h : Cl S S') (b : BelL S.length es) : gcR S (.err c es S') = .err c es (S'.take S.length) := if_pos ⟨h, b⟩
theorem cl_app {J : Store} : Cl S (S ++ J) := ⟨by rw [List.length_append]; omega, fun i hi => .inl (List.getElem?_append_left hi)⟩
theorem cl_refl : Cl S S := ⟨Nat.le_refl _, fun i hi => .inl rfl⟩
theorem gc_app {J : Store} {d : D} (b : Bel S.length d) : gcR S (.ok d (S ++ J)) = .ok d S := by rw [gc_ok cl_app b, List.take_left]
theorem gc_same {d : D} (b : Bel S.length d) : gcR S (.ok d S) = .ok d S := by rw [gc_ok cl_refl b, List.take_length]
theorem ExcOk.cut {As' : List Addr} {c : Nat} {es : List D} {dd : Option Addr} (hp : As <+: As') (h : ExcOk g H As' c es dd) (b : BelL As.length es) : ExcOk g H As c es dd := by
  rcases h with h | ⟨d, fs, h1, h2, h3, h4, h5⟩
  · exact .inl h
  · exact .inr ⟨d, fs, h1, h2, fun m => h3 (hp.subset m), h4, IsL.cut hp _ _ h5 b⟩
theorem Post.gc {W : WX} {σ : L2.St} {r : R D} {Q : VK} (s : StOk g H As S) (h : Post g W σ H As (gcR S r) Q) : Post g W σ H As r Q := by
  cases r with
  | ok d S' =>
    unfold gcR at h
    dsimp only at h
    split at h
    · rename_i hc
      exact fun v H' As' e s' i => h v H' As (cl_ext e) (cl_st s e s' hc.1) (Is.cut e.pre _ _ i (by rw [s.len]; exact hc.2))
    · exact h.elim
  | err c es S' =>
    unfold gcR at h
    dsimp only at h
    split at h
    · rename_i hc
      exact fun dd H' As' e s' x => h dd H' As (cl_ext e) (cl_st s e s' hc.1) (x.cut e.pre (by rw [s.len]; exact hc.2))
    · exact h.elim
  | bad => exact h
noncomputable def gcF (f : MF) : MF := fun ds S => gcR S (f ds S)
noncomputable def mGc (m : ME) : ME := fun ρ S => gcR S (m ρ S)
theorem fn_gc {f : Addr} {fd : FuncData} {ps : List Str} {k n : Nat} {mf : MF} (F : FnOk P w g.K mg base (L2N.CX P w) k f fd ps (spM g n mf)) : FnOk P w g.K mg base (L2N.CX P w) k f fd ps (spM g n (gcF mf)) := by
  refine F.imp fun vs H Q E ⟨As, ds, S, h1, h2, h3, h4⟩ => ⟨As, ds, S, h1, h2, h3, ?_⟩
  have z := Post.gc (W := fun c d _ H => E c d H) (σ := []) (Q := Q) (r := mf ds S) h2 (by
    unfold gcF at h4
    cases r : gcR S (mf ds S) with
    | ok d S' => rw [r] at h4; exact h4
    | err c es S' => rw [r] at h4; exact h4
    | bad => rw [r] at h4; exact h4)
  cases r : mf ds S with
  | ok d S' => rw [r] at z; exact z
  | err c es S' => rw [r] at z; exact z
  | bad => rw [r] at z; exact z
theorem fe_gc {X : Cx} {hx : HX} {W : WX} {e : Expr} {m : ME} (h : FE X g hx W e m) : FE X g hx W e (mGc m) := by
  obtain ⟨hk, t, p, s⟩ := h.ex
  exact ⟨hk, t, p, fun σ H As ρ S he hs Q hp => s σ H As ρ S he hs Q (Post.gc hs hp)⟩
theorem EnvOk.cut {hx : HX} {ρ : Rho} {σ : L2.St} {As' : List Addr} (hp : As <+: As') (h : EnvOk g hx H As' ρ σ) (b : ∀ d, Sl.dat d ∈ ρ → Bel As.length d) (nx : ∀ c es, Sl.exc c es ∉ ρ) : EnvOk g hx H As ρ σ := ⟨h.len, fun i s q => by
  have z := h.at_ i s q
  cases s with
  | un => trivial
  | dat d => obtain ⟨v, e1, r⟩ := z; exact ⟨v, e1, Is.cut hp _ _ r (b d (List.mem_of_getElem? q))⟩
  | exc c es => exact absurd (List.mem_of_getElem? q) (nx c es)⟩
noncomputable def mGcS (m : MS) : MS := fun ρ S => gcS S (m ρ S)
theorem PostS.gc {hx : HX} {W : WX} {r : RS} {E : Ends} (s : StOk g H As S) (h : PostS g hx W H As (gcS S r) E) : PostS g hx W H As r E := by
  cases r with
  | nx ρ S' =>
    unfold gcS at h
    dsimp only at h
    split at h
    · rename_i hc
      exact fun σ' H' As' e s' v => h σ' H' As (cl_ext e) (cl_st s e s' hc.1) (v.cut e.pre (by rw [s.len]; exact hc.2.1) hc.2.2)
    · exact h.elim
  | ct ρ S' =>
    unfold gcS at h
    dsimp only at h
    split at h
    · rename_i hc
      exact fun σ' H' As' e s' v => h σ' H' As (cl_ext e) (cl_st s e s' hc.1) (v.cut e.pre (by rw [s.len]; exact hc.2.1) hc.2.2)
    · exact h.elim
  | bk ρ S' =>
    unfold gcS at h
    dsimp only at h
    split at h
    · rename_i hc
      exact fun σ' H' As' e s' v => h σ' H' As (cl_ext e) (cl_st s e s' hc.1) (v.cut e.pre (by rw [s.len]; exact hc.2.1) hc.2.2)
    · exact h.elim
  | rt d S' => exact h
  | err c es ρ S' => exact h
  | bad => exact h
theorem fs_gc {X : Cx} {hx : HX} {W : WX} {e : Stmt} {m : MS} (h : FS X g hx W e m) : FS X g hx W e (mGcS m) := by
  obtain ⟨hk, t, p, s⟩ := h.ex
  exact ⟨hk, t, p, fun σ H As ρ S he hs Q hp => s σ H As ρ S he hs Q (PostS.gc hs hp)⟩
theorem fss_gc {X : Cx} {hx : HX} {W : WX} {e : List Stmt} {m : MS} (h : FSs X g hx W e m) : FSs X g hx W e (mGcS m) := by
  obtain ⟨hk, t, p, s⟩ := h.ex
  exact ⟨hk, t, p, fun σ H As ρ S he hs Q hp => s σ H As ρ S he hs Q (PostS.gc hs hp)⟩
end
/-! ### a def called -/
section
variable {X : Cx} {g : G} {hx : HX} {W : WX} {a b c e tg : Expr} {ma mb mc m mo : ME} {pos : Pos} {es : List Expr} {mas : MA} {H : Hp} {As : List Addr} {S : Store}
theorem fe_call {f : Addr} {fd : FuncData} {ps : List Str} {k n : Nat} {mf : MF} {x : Str} {p : Pos} (F : FnOk X.prog X.w g.K X.mg X.base (L2N.CX X.prog X.w) k f fd ps (spM g n mf)) (hr : Room k X.A) (hm : X.mg x = some (.ref f)) (hk : PySem.W.keepIn g.K (.ref f) = true) (hb : Binds g.K fd ps []) (tk : L2N.Takes X W)
    (ha : FA X g hx W (e :: es) mas) (hn : ∀ ρ S ds S', mas ρ S = .ok ds S' → ds.length = n) (hg : Gl X x := by rfl) (hdb : (x == ("__debug__" : Str)) = false := by decide) (he : starEach (e :: es) X.env = (false, eval e X.env) :: starEach es X.env := by rfl) (hpl : (backTo pos (starEach es X.env)).any (·.1) = false := by rfl) :
    FE X g hx W (.Call (.Name x p) (e :: es) [] pos) (mCB mf mas) := by
  obtain ⟨hK, t, pa, s⟩ := ha.ex
  refine ⟨hK, _, pe_callS (by rw [hK]; exact F) hr hg hm (by rw [hK]; exact hk) (by rw [hK]; exact hb) (fun σ => L2N.passAt tk σ) pa hdb he hpl, fun σ H As ρ S he hs Q hp => ?_⟩
  unfold mCB at hp
  cases r : mas ρ S with
  | err c es' S' => rw [r] at hp; exact s σ H As ρ S he hs _ (by rw [r]; exact hp)
  | bad => rw [r] at hp; exact hp.elim
  | ok ds S1 =>
    rw [r] at hp
    refine s σ H As ρ S he hs _ ?_
    rw [r]
    intro vs H1 As1 e1 s1 i1
    refine ⟨As1, ds, S1, i1, s1, hn ρ S ds S1 r, ?_⟩
    have hp2 := Post.up hp e1
    rw [bind_ok] at hp2
    cases q : mf ds S1 with
    | ok d S' => rw [q] at hp2; exact hp2
    | err c es' S' => rw [q] at hp2; exact hp2
    | bad => rw [q] at hp2; exact hp2
theorem na_nil : ∀ ρ S ds S', mNil ρ S = .ok ds S' → ds.length = 0 := fun ρ S ds S' h => by cases h; rfl
theorem na_cons {n : Nat} (h : ∀ ρ S ds S', mas ρ S = .ok ds S' → ds.length = n) : ∀ ρ S ds S', mCons ma mas ρ S = .ok ds S' → ds.length = n + 1 := fun ρ S ds S' q => by
  unfold mCons at q
  cases z : ma ρ S with
  | err _ _ _ => rw [z] at q; cases q
  | bad => rw [z] at q; cases q
  | ok d S1 =>
    rw [z] at q
    dsimp only [bind_ok] at q
    cases z2 : mas ρ S1 with
    | err _ _ _ => rw [z2] at q; cases q
    | bad => rw [z2] at q; cases q
    | ok ds2 S2 =>
      rw [z2] at q
      cases q
      rw [List.length_cons, h _ _ _ _ z2]
/-! ### methods of what is built in -/
def recvD (T : String) (S : Store) : D → Bool
  | .str _ => T == "str"
  | .fz _ => T == "list"
  | .ref n => match S[n]? with
    | some (.lst _) => T == "list"
    | some (.dct _) => T == "dict"
    | _ => false
  | _ => false
theorem recv_of {T : String} {o : D} {x : V} (hs : StOk g H As S) (i : Is g.K H As o x) (h : recvD T S o = true) : tyV g.K T x H := by
  cases i with
  | str s =>
    have h' : T = "str" := by simpa [recvD] using h
    exact h'
  | fz h1 r => exact .inl ⟨by simpa [recvD] using h, _, h1.sq⟩
  | ref ha =>
    unfold recvD at h
    dsimp only at h
    split at h
    · rename_i q
      obtain ⟨a, xs, ha', h1, r⟩ := hs.lst q
      rw [ha] at ha'; cases ha'
      exact .inl ⟨by simpa using h, _, SqL.of h1⟩
    · rename_i q
      obtain ⟨a, ha', kxs, h1, r, _⟩ := hs.at q
      rw [ha] at ha'; cases ha'
      exact .inr (.inr (.inl ⟨by simpa using h, .inl ⟨_, h1⟩⟩))
    · cases h
  | _ => simp [recvD] at h
abbrev MM := D → List D → Store → R D
def MSn (g : G) (r : V → List V → Hp → VK → Prop) (f : MM) : Prop := ∀ (H : Hp) (As : List Addr) (S : Store) (x : V) (xs : List V) (o : D) (ds : List D), StOk g H As S → Is g.K H As o x → IsL g.K H As ds xs → ∀ Q : VK,
  (∀ z S', f o ds S = .ok z S' → ∀ v H' As', Ext H As H' As' → StOk g H' As' S' → Is g.K H' As' z v → Q v H') → (∃ z S', f o ds S = .ok z S') → r x xs H Q
def NoErrM (f : MM) : Prop := ∀ o d S c ds S', f o d S ≠ .err c ds S'
def mMeth (T : String) (f : MM) (mo : ME) (ma : MA) : ME := fun ρ S => (mo ρ S).bind fun o S1 => if recvD T S1 o = true then (ma ρ S1).bind fun ds S2 => f o ds S2 else .bad
structure MethR (X : Cx) (g : G) (T : String) (name : Str) (f : MM) : Prop where
  ex : ∃ id r, PlainAttrs T ∧ Slot T name id ∧ typeOf (.builtin id) = pure (.type "method_descriptor") ∧ MtR X id r ∧ MSn g r f ∧ NoErrM f
theorem meth_core {T : String} {r : V → List V → Hp → VK → Prop} {f : MM} {to : TE} {t : TA} (hk : X.K = g.K) (so : Sn g hx W to mo) (sa : SnA g hx W t mas) (h3 : MSn g r f) (h4 : NoErrM f) :
    Sn g hx W (fun σ H Q => to σ H fun x H1 => tyV X.K T x H1 ∧ t σ H1 fun xs H2 => r x xs H2 Q) (mMeth T f mo mas) := fun σ H As ρ S he hs Q hp => by
  refine so σ H As ρ S he hs _ (Post.bind (P := fun r => Post g W σ H As r Q) hp (fun o S1 hp1 v H1 As1 e1 s1 i1 => ?_) (fun _ _ _ q => q) id)
  split at hp1
  · rename_i hr
    refine ⟨by rw [hk]; exact recv_of s1 i1 hr, ?_⟩
    refine sa σ H1 As1 ρ S1 (he.up e1) s1 _ (PostA.bind (P := fun r => Post g W σ H1 As1 r Q) (Post.up hp1 e1) (fun ds S2 hp2 vs H2 As2 e2 s2 i2 => ?_) (fun _ _ _ q => q) id)
    have hp3 := Post.up hp2 e2
    cases q : f o ds S2 with
    | err c ds' S3 => exact absurd q (h4 o ds S2 c ds' S3)
    | bad => rw [q] at hp3; exact False.elim hp3
    | ok z S3 =>
      rw [q] at hp3
      exact h3 H2 As2 S2 v vs o ds s2 (i1.up e2) i2 Q (fun z' S' q' => by rw [q] at q'; cases q'; exact hp3) ⟨z, S3, q⟩
  · exact False.elim hp1
theorem fe_meth {T : String} {name : Str} {f : MM} {o : Expr} {apos : Pos} (mr : MethR X g T name f) (ho : FE X g hx W o mo) (ha : FA X g hx W (e :: es) mas)
    (hbase : attributeBase o name X.env (eval o X.env) = eval o X.env := by rfl)
    (hfew : ((backTo pos (starEach (e :: es) X.env)).all (fun x => !x.1) && (backToKw pos (keywordEach [] X.env)).all (fun x => x.1.isSome)
      && decide ((e :: es).length + ([] : List Keyword).length + (if ([] : List Keyword).isEmpty then 0 else 1) < 30)) = true := by rfl)
    (hline : (apos.endLine == pos.line) = true := by rfl) (hs : starEach (e :: es) X.env = (false, eval e X.env) :: starEach es X.env := by rfl) (hplain : (backTo pos (starEach es X.env)).any (·.1) = false := by rfl) :
    FE X g hx W (.Call (.Attribute o name apos) (e :: es) [] pos) (mMeth T f mo mas) := by
  obtain ⟨id, r, h1, h2, h3, h4, h5, h6⟩ := mr.ex
  obtain ⟨hk, to, po, so⟩ := ho.ex
  obtain ⟨_, t, pa, sa⟩ := ha.ex
  exact ⟨hk, _, pe_bm h1 h2 h3 h4 po pa hbase hfew hline hs hplain, meth_core hk so sa h5 h6⟩
theorem fe_meth0 {T : String} {name : Str} {f : MM} {o : Expr} {apos : Pos} (mr : MethR X g T name f) (ho : FE X g hx W o mo)
    (hbase : attributeBase o name X.env (eval o X.env) = eval o X.env := by rfl) (hline : (apos.endLine == pos.line) = true := by rfl) :
    FE X g hx W (.Call (.Attribute o name apos) [] [] pos) (mMeth T f mo mNil) := by
  obtain ⟨id, r, h1, h2, h3, h4, h5, h6⟩ := mr.ex
  obtain ⟨hk, to, po, so⟩ := ho.ex
  exact ⟨hk, _, pe_bm0 h1 h2 h3 h4 po hbase hline, meth_core (t := tNil) hk so (fun σ H As ρ S he hs Q hp => hp [] H As (Ext.refl _ _) hs .nil) h5 h6⟩
def fAppend : MM := fun o ds S => match o, ds with
  | .ref n, [d] => match getL S n with
    | some l => if l.length < 16777216 then .ok .non (S.set n (.lst (l ++ [d]))) else .bad
    | none => .bad
  | _, _ => .bad
theorem ne_append : NoErrM fAppend := by
  intro o d S c ds S' h
  unfold fAppend at h
  split at h
  · split at h
    · split at h <;> cases h
    · cases h
  · cases h
theorem ms_append : MSn g rAppend fAppend := by
  intro H As S x xs o ds hs io il Q k ⟨z, S', he⟩
  have hz := he
  unfold fAppend at he
  split at he
  · cases il with
    | cons i1 i2 =>
      cases i2
      split at he
      · rename_i l q
        split at he
        · rename_i hl
          cases he
          obtain ⟨a, rfl, ha⟩ := IsRef io
          obtain ⟨a', us, ha', h1, r⟩ := hs.lst (getL_some q)
          rw [ha] at ha'; cases ha'
          refine ⟨a, us, _, rfl, rfl, h1, szlt (by rw [← r.len]; exact hl), ?_⟩
          exact k _ _ hz .non _ As (Ext.write hs ha) (hs.write ha ⟨_, upd_same, (r.app (.cons i1 .nil)).up (Ext.write hs ha)⟩) .non
        · cases he
      · cases he
  · cases he
theorem mr_append : MethR X g "list" "append" fAppend := ⟨_, _, PySem.F.plainAttrs_list, PySem.F.slot_list_append, PySem.F.type_list_append, mt_append, ms_append, ne_append⟩
end
end FL
end

section
set_option autoImplicit false
namespace FL
open PySem L2
/-! ### raise -/
/-- what the top has made of an exception class with the fields fnm -/
structure ExcR (X : Cx) (g : G) (c : Nat) (x : Str) : Prop where
  ox : OexC g.K (g.ec c)
  mg : X.mg x = some (.ref (g.ec c))
/-- what __init__(self, f1, ..) leaves: the fields, the last one first -/
def spInit (C : Addr) (names : List Str) : Sp := fun vs H Q _ => ∃ (a : Addr) (ws : List V), vs = .ref a :: ws ∧ ws.length = names.length ∧ H a = some (exo a C none) ∧
  ∀ d, H d = none → d ≠ a → Q .non (upd (upd H d (exd d ((names.zip ws).reverse))) a (exo a C (some d)))
def mRaise (c : Nat) (ma : MA) : MS := fun ρ S => (ma ρ S).stm ρ fun ds S1 => .err c ds.reverse ρ S1
section
variable {X : Cx} {g : G} {hx : HX} {W : WX} {a b c e tg : Expr} {ma mb mc m mo : ME} {pos pos2 p : Pos} {es : List Expr} {mas : MA} {H : Hp} {As : List Addr} {S : Store}
theorem takesN0 {X : Cx} : L2N.Takes X (fun _ _ _ _ => False) := fun _ _ ⟨_, _, _, _, _, _, _, _, _, _, _, _, _, _, _, _, z⟩ => z.elim
/-- an error with its own __init__ is made: its context is None -/
theorem pmkN {CX : CXT} {x : Str} {C fI : Addr} {k : Nat} {fd : FuncData} {ps : List Str} {sp : Sp} {ta : TA} (T : OexC X.K C) (iC : PySem.W.findIn X.K (.ref C) "__init__" = some (some (.ref fI))) (tI : PySem.W.typeIn X.K (.ref fI) = some (.type "function"))
    (F1 : FnOk X.prog X.w X.K X.mg X.base CX k fI fd ps sp) (hr : Room (k + 1) X.A) (hb : Binds X.K fd ps []) (hx : Passes CX X (fun _ _ _ => False)) (hg : Gl X x) (hm : X.mg x = some (.ref C)) (ha : PA X (e :: es) ta)
    (hdb : (x == ("__debug__" : Str)) = false := by decide) (he : starEach (e :: es) X.env = (false, eval e X.env) :: starEach es X.env := by rfl) (hpl : (backTo pos (starEach es X.env)).any (·.1) = false := by rfl) :
    L2N.PMk X (.Call (.Name x p) (e :: es) [] pos) (tMkO C sp [] ta) := by
  intro pins s σ H Q I h
  obtain ⟨t1, t2, t3, t4, bm, t5, t6, t7, t8, t9, w0, w1, w2, w3, w5, hC, hbm⟩ := T.cls
  refine wpAny_Call_Name_kw (ld_glob I hg hm ?_ hdb)
  refine PySem.W.callWith_K (h₀ := X.base) I.ok.mod.kin T.kC (thn (ha.run pos pins s σ H _ I h) fun us s1 ⟨vs, H1, I1, r1, hz, q1⟩ => ⟨I1.kIn, ?_⟩) he hpl
  show wpAny _ _ (call (.ref C) us) _ _ _
  obtain ⟨h1, g1, d1, k1, o1⟩ := s1
  have up1 : h1.objs.size ≤ h1.objs.size + 1 := Nat.le_succ _
  have spn := q1 (h1.objs.size + 1) (I1.hok.fresh up1)
  rw [List.append_nil] at spn
  have kp : ∀ b o, h1.get? b = some o → ((h1.push (PySem.W.kdv_tup us)).push (PySem.HandSPX.excO C h1.objs.size)).get? b = some o := fun b o e => Heap.get?_push_of_some _ (Heap.get?_push_of_some _ e)
  have gt : ((h1.push (PySem.W.kdv_tup us)).push (PySem.HandSPX.excO C h1.objs.size)).get? (h1.objs.size + 1) = some (PySem.HandSPX.excO C h1.objs.size) := by heap_get
  have I2 : Inv X pins σ (upd H1 (h1.objs.size + 1) (exo (h1.objs.size + 1) C none)) ⟨(h1.push (PySem.W.kdv_tup us)).push (PySem.HandSPX.excO C h1.objs.size), g1, d1, k1, o1⟩ :=
    I1.laid (t' := k1) (a := h1.objs.size + 1) (o := exo (h1.objs.size + 1) C none) (h' := (h1.push (PySem.W.kdv_tup us)).push (PySem.HandSPX.excO C h1.objs.size)) kp up1 (exo_ok gt)
  have rr : Vals (V.ref (h1.objs.size + 1) :: vs) (Value.ref (h1.objs.size + 1) :: us) := .cons rfl r1
  have ln : (Value.ref (h1.objs.size + 1) :: us ++ []).length = ps.length := by
    have z := rr.length
    rw [F1.len _ _ _ _ spn] at z
    rw [List.append_nil]; exact z.symm
  have small : us.length ≤ sizeLine := by rw [← Paired.length r1, sizeLine_eq]; omega
  have bb := hb _ (Value.ref (h1.objs.size + 1) :: us) I2.kIn ln
  rw [List.append_nil] at bb
  refine wpAny_call (PySem.HandSPX.call_own PySem.F.excBase_ValueError (fun Y => PySem.HandSPX.refsVE_contains Y bm hbm) (I1.kIn _ _ hC) (PySem.W.looks_findIn I1.kIn iC) (fun self => PySem.W.bind_fn I1.kIn self tI) small
    (codeAny_mono (F1.run _ X.stack _ _ ⟨Value.ref (h1.objs.size + 1) :: us, []⟩ (Value.ref (h1.objs.size + 1) :: us) _ _ (fun _ _ _ => False) (hr.make C us []) (I2.env0.make C us []) bb rr spn) fun r s' hq => ?_))
  cases r with
  | error er => exact hx pins σ _ _ er s' I2 hq
  | ok fl =>
    cases fl with
    | next => exact hq.elim
    | brk => exact hq.elim
    | cont => exact hq.elim
    | ret u =>
      obtain ⟨v, H2, osE, bareE, unE, hokE, rv, ev, d, fs, ea, ed, nd, qE⟩ := hq
      subst ev
      obtain ⟨h2, g2, d2, k2, o2⟩ := s'
      obtain ⟨t0, G, J, kG, ge, hoe, na⟩ := mk_end0 (d2 := d2) (t2 := k2) I1 up1 kp unE hokE osE bareE ea ed nd
      exact ⟨rv, ⟨_, _, _, ⟨G, g2, d2, k2, o2⟩, _, .ref C, some d, rfl, J, kG, ge, hoe, ⟨rfl, rfl, fun vs e => by cases e; rfl⟩, rfl, rfl, na, rfl, bareE, raises_own T.exC T.tyC, qE⟩⟩
theorem zip_snd : ∀ {ns : List Str} {ws : List V}, ws.length = ns.length → (ns.zip ws).map (·.2) = ws
  | [], [], _ => rfl
  | [], _ :: _, h => by cases h
  | _ :: _, [], h => by cases h
  | n :: ns, w :: ws, h => by
    have ih := zip_snd (ns := ns) (ws := ws) (by simpa using h)
    simp only [List.zip_cons_cons, List.map_cons, ih]
theorem zip_fst : ∀ {ns : List Str} {ws : List V}, ws.length = ns.length → (ns.zip ws).map (·.1) = ns
  | [], [], _ => rfl
  | [], _ :: _, h => by cases h
  | _ :: _, [], h => by cases h
  | n :: ns, w :: ws, h => by
    have ih := zip_fst (ns := ns) (ws := ws) (by simpa using h)
    simp only [List.zip_cons_cons, List.map_cons, ih]
theorem fs_raise {n : Nat} {x : Str} {fI : Addr} {k : Nat} {fd : FuncData} {ps : List Str} {names : List Str} (hc : X.calm = true) (tk : L2N.Takes X W) (T : OexC g.K (g.ec n)) (iC : PySem.W.findIn g.K (.ref (g.ec n)) "__init__" = some (some (.ref fI))) (tI : PySem.W.typeIn g.K (.ref fI) = some (.type "function"))
    (F1 : FnOk X.prog X.w g.K X.mg X.base CX0 k fI fd ps (spInit (g.ec n) names)) (hr : Room (k + 1) X.A) (hb : Binds g.K fd ps []) (hm : X.mg x = some (.ref (g.ec n))) (hf : g.fnm n = names.reverse) (hn0 : names ≠ [])
    (ha : FA X g hx W (e :: es) mas) (hn : ∀ ρ S ds S', mas ρ S = .ok ds S' → ds.length = names.length) (hl : names.length ≤ 1000) (hg : Gl X x := by rfl)
    (hdb : (x == ("__debug__" : Str)) = false := by decide) (he : starEach (e :: es) X.env = (false, eval e X.env) :: starEach es X.env := by rfl) (hpl : (backTo pos (starEach es X.env)).any (·.1) = false := by rfl) :
    FS X g hx W (.Raise (some (.Call (.Name x p) (e :: es) [] pos)) none pos2) (mRaise n mas) := by
  obtain ⟨hk, t, pa, s⟩ := ha.ex
  refine ⟨hk, _, L2N.ps_raise hc tk (pmkN (C := g.ec n) (by rw [hk]; exact T) (by rw [hk]; exact iC) (by rw [hk]; exact tI) (by rw [hk]; exact F1) hr (by rw [hk]; exact hb) pass0 hg hm pa hdb he hpl), fun σ H As ρ S hE hs E hp => ?_⟩
  unfold mRaise at hp
  cases r : mas ρ S with
  | err c es' S' => rw [r] at hp; exact s σ H As ρ S hE hs _ (by rw [r]; exact PostS.err hE hp)
  | bad => rw [r] at hp; exact hp.elim
  | ok ds S1 =>
    rw [r] at hp
    refine s σ H As ρ S hE hs _ ?_
    rw [r]
    intro vs H1 As1 e1 s1 i1
    have len := hn ρ S ds S1 r
    have lv : vs.length = names.length := by rw [← i1.len, len]
    refine ⟨by rw [lv]; exact hl, fun a na => ?_⟩
    rw [List.append_nil]
    refine ⟨a, vs, rfl, lv, upd_same, fun d nd nda => ⟨rfl, d, (names.zip vs).reverse, upd_same, ?_, ?_, ?_⟩⟩
    · rw [upd_ne nda, upd_same]
    · rw [upd_ne nda] at nd; exact nd
    · have nd1 : H1 d = none := by rw [upd_ne nda] at nd; exact nd
      -- the heap behind it is H1 with the error's dict
      have hH : upd (del (upd (upd (upd H1 a (exo a (g.ec n) none)) d (exd d (names.zip vs).reverse)) a (exo a (g.ec n) (some d))) a) d (.xd (names.zip vs).reverse) = upd H1 d (.xd (names.zip vs).reverse) := by
        funext b
        by_cases hb : b = d
        · subst hb; rw [upd_same, upd_same]
        · rw [upd_ne hb, upd_ne hb]
          by_cases hb2 : b = a
          · subst hb2; rw [del_same, na]
          · rw [del_ne hb2, upd_ne hb2, upd_ne hb, upd_ne hb2]
      rw [hH]
      have ex := Ext.side (u := .xd (names.zip vs).reverse) s1 nd1
      refine hp σ (some d) _ As1 (e1.trans ex) (s1.side nd1) ((hE.up e1).up ex) (.inr ⟨d, _, rfl, upd_same, s1.notMem nd1, ?_, ?_⟩)
      · rw [List.map_reverse, zip_fst lv, hf]
      · rw [List.map_reverse, zip_snd lv]
        exact (i1.rev).up ex
end
end FL
end

section
set_option autoImplicit false
namespace FL
open PySem L2
/-! ### try: .. except C as e: .. -/
/-- the reading by the function itself -/
def tM (g : G) (hx : HX) (W : WX) (m : MS) : TS := fun E σ H => ∃ (As : List Addr) (ρ : Rho) (S : Store), EnvOk g hx H As ρ σ ∧ StOk g H As S ∧ PostS g hx W H As (m ρ S) E
def W0 : WX := fun _ _ _ _ => False
def clr (ρ : Rho) : Rho := ρ.map fun s => match s with
  | .exc _ _ => .un
  | s => s
/-- behind the suite: the name is gone -/
def unset (i : Nat) : RS → RS
  | .nx ρ S => .nx ((clr ρ).set i .un) S
  | .bk ρ S => .bk ((clr ρ).set i .un) S
  | .ct ρ S => .ct ((clr ρ).set i .un) S
  | .rt d S => .rt d S
  | _ => .bad
def mTry (sub : Nat → Option Bool) (i : Nat) (mb ms : MS) : MS := fun ρ S => match mb ρ S with
  | .err c es ρ' S' => match sub c with
    | some true => unset i (ms (ρ'.set i (.exc c es)) S')
    | some false => .err c es ρ' S'
    | none => .bad
  | r => r
section
variable {X : Cx} {g : G} {hx : HX} {W : WX} {a b c e tg : Expr} {ma mb mc m mo : ME} {pos pos2 p : Pos} {es : List Expr} {mas : MA} {H : Hp} {As : List Addr} {S : Store}
theorem FSs.can {st : List Stmt} {ms : MS} (h : FSs X g hx W st ms) : PSs X st (tM g hx W ms) := by
  obtain ⟨hk, t, pt, s⟩ := h.ex
  exact ⟨fun pins s' σ H E I ⟨As, ρ, S, he, hs, hp⟩ => pt.run pins s' σ H E I (s σ H As ρ S he hs E hp)⟩
theorem EnvOk.none_any {ρ : Rho} {σ : L2.St} (h : EnvOk g none H As ρ σ) (hx : HX) : EnvOk g hx H As ρ σ := ⟨h.len, fun i s q => by
  have z := h.at_ i s q
  cases s with
  | un => trivial
  | dat d => exact z
  | exc c es => obtain ⟨_, _, z, _⟩ := z; cases z⟩
theorem EnvOk.clr {ρ : Rho} {σ : L2.St} (h : EnvOk g hx H As ρ σ) : EnvOk g none H As (clr ρ) σ := ⟨by unfold FL.clr; rw [List.length_map]; exact h.len, fun i s q => by
  unfold FL.clr at q
  rw [List.getElem?_map] at q
  cases z : ρ[i]? with
  | none => rw [z] at q; cases q
  | some s' =>
    rw [z] at q
    have r := h.at_ i s' z
    cases s' with
    | un => cases q; trivial
    | dat d => cases q; exact r
    | exc c es => cases q; trivial⟩
theorem fs_try {body suite : List Stmt} {b₀ : Stmt} {x n : Str} {np pos' : Pos} {cV : Value} {i : Nat} {sub : Nat → Option Bool} {mb ms : MS} (hK : X.K = g.K) (hs : X.stack = X.env :: X.outer) (hf : X.env.frame = some X.env.locals) (hN : X.N.Nodup) (hc : Names X x cV) (tk : L2N.Takes X W)
    (hsub : ∀ c b, sub c = some b → PySem.W.exmOne g.K (.ref (g.ec c)) cV = some b)
    (hb : ∀ (W : WX) (pn : List (Addr × Obj)) (xe : Value → Shared → Prop), L2N.Takes (X.tr pn xe) W → PassesOwn (model X.prog X.w) X.A X.env xe → FSs (X.tr pn xe) g none W body mb)
    (hsu : ∀ (a : Addr) (oe : Obj) (cls : Value) (d : Option Addr) (pn : List (Addr × Obj)), L2N.Zn cls d oe → (∃ vs, oe.data = .fields vs) → FSs (X.suite a ((a, oe) :: pn)) g (some (a, cls, d)) W0 (b₀ :: suite) ms)
    (hi : X.N[i]? = some n := by rfl) (hln : X.env.kindOf n = some .local := by rfl) :
    FS X g none W (.Try body [.ExceptHandler (some (.Name x np)) (some n) (b₀ :: suite) pos'] [] [] pos) (mTry sub i mb ms) := by
  refine ⟨hK, _, L2N.ps_try_as (tb := fun W => tM g none W mb) (ts := fun a cls d => tM g (some (a, cls, d)) W0 ms) hs hf hN hi hln hc tk (fun W pn xe tk' po => (hb W pn xe tk' po).can) (fun a oe cls d pn hz hf => (hsu a oe cls d pn hz hf).can), fun σ H As ρ S he hst E hp => ?_⟩
  refine ⟨As, ρ, S, he, hst, ?_⟩
  unfold mTry at hp
  cases r : mb ρ S with
  | nx ρ' S' => rw [r] at hp; exact hp
  | bk ρ' S' => rw [r] at hp; exact hp
  | ct ρ' S' => rw [r] at hp; exact hp
  | rt d S' => rw [r] at hp; exact hp
  | bad => rw [r] at hp; exact hp
  | err c es ρ' S' =>
    rw [r] at hp
    intro σ' dd H' As' e1 s1 v1 x1
    dsimp only at hp
    cases q : sub c with
    | none => rw [q] at hp; exact hp.elim
    | some b =>
      rw [q] at hp
      refine ⟨b, by rw [hK]; exact hsub c b q, fun hb1 a na => ?_, fun hb0 => ?_⟩
      · subst hb1
        dsimp only at hp
        refine ⟨As', ρ'.set i (.exc c es), S', ?_, s1, ?_⟩
        · exact (v1.none_any _).set i ⟨a, dd, rfl, rfl, x1⟩
        · have hp2 := hp.up e1
          cases r2 : ms (ρ'.set i (.exc c es)) S' with
          | nx ρ2 S2 => rw [r2] at hp2; exact fun σ2 H2 As2 e2 st2 v2 => hp2 _ H2 As2 e2 st2 (v2.clr.setU i none)
          | bk ρ2 S2 => rw [r2] at hp2; exact fun σ2 H2 As2 e2 st2 v2 => hp2 _ H2 As2 e2 st2 (v2.clr.setU i none)
          | ct ρ2 S2 => rw [r2] at hp2; exact fun σ2 H2 As2 e2 st2 v2 => hp2 _ H2 As2 e2 st2 (v2.clr.setU i none)
          | rt d S2 => rw [r2] at hp2; exact hp2
          | err c2 es2 ρ2 S2 => rw [r2] at hp2; exact hp2.elim
          | bad => rw [r2] at hp2; exact hp2.elim
      · subst hb0
        exact hp σ' dd H' As' e1 s1 v1 x1
/-! ### within the suite -/
/-- e.f, e the exception that the suite holds (of the class c) -/
def mExcF (fn : List Str) (c i : Nat) (f : Str) : ME := fun ρ S => match ρ[i]? with
  | some (.exc c' es) => if c' = c then (match (fn.zip es).lookup f with
    | some d => .ok d S
    | none => .bad) else .bad
  | _ => .bad
theorem lookup_zip {f : Str} {d : D} : ∀ {fs : List (Str × V)} {es : List D}, IsL g.K H As es (fs.map (·.2)) → ((fs.map (·.1)).zip es).lookup f = some d → ∃ v, fs.lookup f = some v ∧ Is g.K H As d v
  | [], _, _, h => by simp at h
  | (k, v) :: fs, [], r, _ => by cases r
  | (k, v) :: fs, e :: es, .cons r1 r2, h => by
    simp only [List.map_cons, List.zip_cons_cons, List.lookup_cons] at h ⊢
    cases q : f == k with
    | true => rw [q] at h; cases h; exact ⟨v, rfl, r1⟩
    | false => rw [q] at h; exact lookup_zip r2 h
theorem fe_excF {a : Addr} {oe : Obj} {cls : Value} {d : Option Addr} {pn : List (Addr × Obj)} {n : Nat} {i : Nat} {x f : Str} {p1 : Pos} (hk : X.K = g.K) (T : XfC g.K (g.ec n)) (hno : PySem.W.findIn g.K (.ref (g.ec n)) f = some none) (hz : Zc cls d oe) (hf : ∃ vs, oe.data = .fields vs)
    {fn : List Str} (hfn : g.fnm n = fn) (hN : X.N[i]? = some x := by rfl) (hv : Vis X.env.scope x := by first | exact Or.inl rfl | exact Or.inr (Or.inl rfl) | exact Or.inr (Or.inr rfl)) (hd : (x == ("__debug__" : Str)) = false := by decide) (hcd : (x == ("__classdict__" : Str)) = false := by decide)
    (hb : attributeBase (.Name x p1) f X.env (eval (.Name x p1) X.env) = eval (.Name x p1) X.env := by rfl) :
    FE (X.suite a ((a, oe) :: pn)) g (some (a, cls, d)) W (.Attribute (.Name x p1) f pos) (mExcF fn n i f) := by
  refine ⟨hk, _, pe_xf (C := g.ec n) (by rw [hk]; exact T) (by rw [hk]; exact hno) hz hf (pe_var (X := X.suite a ((a, oe) :: pn)) hN hv hd hcd) hb, fun σ H As ρ S he hs Q hp => ?_⟩
  unfold mExcF at hp
  cases q : ρ[i]? with
  | none => rw [q] at hp; exact hp.elim
  | some s =>
    rw [q] at hp
    cases s with
    | un => exact hp.elim
    | dat d => exact hp.elim
    | exc c' es =>
      dsimp only at hp
      split at hp
      · rename_i hc
        obtain ⟨a', dd, e0, e1, r⟩ := he.at_ i _ q
        cases e0
        refine ⟨.ref a, e1, rfl, by rw [hc], ?_⟩
        rcases r with ⟨r1, r2, r3⟩ | ⟨d0, fs, r1, r2, r3, r4, r5⟩
        · rw [hc] at r2
          rw [hfn] at r2
          subst r2
          exact hp.elim
        · rw [hc, hfn] at r4
          rw [← r4] at hp
          split at hp
          · rename_i z hz
            obtain ⟨v, h1, h2⟩ := lookup_zip r5 hz
            exact ⟨d0, fs, v, r1, r2, h1, hp v H As (Ext.refl _ _) hs h2⟩
          · exact hp.elim
      · exact hp.elim
/-- what isinstance asks of an exception's class -/
structure ExcK (K : PySem.W.Frag) (D : Addr) : Prop where
  cl : (PySem.W.clsIn K D).isSome = true
  hg : PySem.W.findIn K (.ref D) "__getattribute__" = some (some (.builtin "BaseException.__getattribute__"))
  hk : PySem.W.findIn K (.ref D) "__getattr__" = some none
  hs : PySem.W.subIn K (.ref D) (.type "BaseException") = some true
  ha : PySem.W.findIn K (.ref D) "__class__" = some (some (.builtin "object.__class__"))
  hn : PySem.W.specialIn K (.builtin "object.__class__") "__get__" = some (some (.builtin "getset_descriptor.__get__"))
  ht : PySem.W.takesIn K (.builtin "object.__class__") = some true
  hm : PySem.W.mroIn K D (.type "object") = some true
/-- isinstance(e, c), e the exception that the suite holds -/
def rIsX (D a : Addr) (dd : Option Addr) (K : PySem.W.Frag) : List V → Hp → VK → Prop := fun xs H Q => ∃ (c : V) (cv : Value) (b : Bool), xs = [.ref a, c] ∧ (∀ u, RelV c u → u = cv) ∧ PySem.W.kitOne K (.ref D) cv = some b ∧ (dd = none ∨ ∃ d0 fs, dd = some d0 ∧ H d0 = some (.xd fs)) ∧ Q (.bl b) H
theorem call_isX {a D : Addr} {oe : Obj} {pn : List (Addr × Obj)} {dd : Option Addr} (C : ExcK X.K D) (hz : Zc (.ref D) dd oe) (hf : ∃ vs, oe.data = .fields vs) : CallR (X.suite a ((a, oe) :: pn)) (.builtin "isinstance") (rIsX D a dd X.K) := by
  intro pins s σ H xs us Q I r h
  obtain ⟨c, cv, b, rfl, hcv, e, hdd, q⟩ := h
  cases r with
  | cons rx rr =>
    cases rr with
    | cons rt rr =>
      cases rr
      cases rx
      have ec := hcv _ rt
      subst ec
      obtain ⟨hget, _⟩ := I.pin (a, oe) (List.mem_append.mpr (.inl List.mem_cons_self))
      obtain ⟨vs, hv⟩ := hf
      have J : ∃ od, PySem.W.InstAt s.heap a oe D od := by
        obtain ⟨oc, od, oda, osl⟩ := oe
        obtain ⟨h1, h2⟩ := hz
        dsimp only at h1 h2 hv
        subst h1 h2 hv
        rcases hdd with rfl | ⟨d0, fs, rfl, hd⟩
        · exact ⟨none, hget, rfl, rfl, trivial⟩
        · obtain ⟨mA, hns, _⟩ : ∃ mA, s.heap.Ns1 d0 mA ∧ ∀ f, RelO (fs.lookup f) (mA f) := I.hok d0 _ hd
          obtain ⟨od, ho, _⟩ := lookIn_ns hns
          exact ⟨some od, hget, rfl, rfl, ho⟩
      obtain ⟨od, J⟩ := J
      exact PySem.W.kia_one (PySem.W.kitx_exc (od := od) C.cl C.hg C.hk C.hs C.ha C.hn C.ht C.hm) I.kIn J e (fun z => nomatch z) fun tk => ⟨.bl b, H, I.kept (t' := tk) fun _ _ z => z, rfl, q⟩
/-- isinstance(e, C): b, told of the class n -/
def mExcIs (n i : Nat) (b : Bool) : ME := fun ρ S => match ρ[i]? with
  | some (.exc c _) => if c = n then .ok (.bl b) S else .bad
  | _ => .bad
theorem fe_excIs {a : Addr} {oe : Obj} {cls : Value} {d : Option Addr} {pn : List (Addr × Obj)} {n : Nat} {i : Nat} {x y : Str} {p1 p2 p3 : Pos} {cv : Value} {cV : V} {b : Bool} (hk : X.K = g.K) (C : ExcK g.K (g.ec n)) (hz : Zc cls d oe) (hf : ∃ vs, oe.data = .fields vs)
    (hm : X.mg "isinstance" = none) (hy : PE (X.suite a ((a, oe) :: pn)) (.Name y p2) (tC cV)) (hcv : ∀ u, RelV cV u → u = cv) (hb : PySem.W.kitOne g.K (.ref (g.ec n)) cv = some b) (hg : Gl X "isinstance" := by rfl)
    (hN : X.N[i]? = some x := by rfl) (hv : Vis X.env.scope x := by first | exact Or.inl rfl | exact Or.inr (Or.inl rfl) | exact Or.inr (Or.inr rfl)) (hd : (x == ("__debug__" : Str)) = false := by decide) (hcd : (x == ("__classdict__" : Str)) = false := by decide)
    (hs1 : starEach [.Name x p1, .Name y p2] X.env = (false, eval (.Name x p1) X.env) :: starEach [.Name y p2] X.env := by rfl) (hs2 : starEach [.Name y p2] X.env = (false, eval (.Name y p2) X.env) :: starEach [] X.env := by rfl)
    (hpl : (backTo pos (starEach [.Name y p2] X.env)).any (·.1) = false := by rfl) :
    FE (X.suite a ((a, oe) :: pn)) g (some (a, cls, d)) W (.Call (.Name "isinstance" p3) [.Name x p1, .Name y p2] [] pos) (mExcIs n i b) := by
  by_cases hcl : cls = .ref (g.ec n)
  · subst hcl
    refine ⟨hk, _, pe_callB (X := X.suite a ((a, oe) :: pn)) (call_isX (by rw [hk]; exact C) hz hf) hg hm (by decide +kernel) (pa_cons (X := X.suite a ((a, oe) :: pn)) (pe_var (X := X.suite a ((a, oe) :: pn)) hN hv hd hcd) (pa_cons hy pa_nil hs2) hs1) (by decide) (by decide) hs1 hpl, fun σ H As ρ S he hs Q hp => ?_⟩
    unfold mExcIs at hp
    cases q : ρ[i]? with
    | none => rw [q] at hp; exact hp.elim
    | some s =>
      rw [q] at hp
      cases s with
      | un => exact hp.elim
      | dat d => exact hp.elim
      | exc c' es =>
        dsimp only at hp
        split at hp
        · rename_i hc
          subst hc
          obtain ⟨a', dd, e0, e1, r⟩ := he.at_ i _ q
          cases e0
          refine ⟨.ref a, e1, cV, cv, b, rfl, hcv, by rw [hk]; exact hb, ?_, hp _ H As (Ext.refl _ _) hs (.bl _)⟩
          rcases r with ⟨r1, r2, r3⟩ | ⟨d0, fs, r1, r2, r3, r4, r5⟩
          · exact .inl r3
          · exact .inr ⟨d0, fs, r1, r2⟩
        · exact hp.elim
  · refine ⟨hk, fun _ _ _ => False, ⟨fun _ _ _ _ _ _ h => h.elim⟩, fun σ H As ρ S he hs Q hp => ?_⟩
    unfold mExcIs at hp
    cases q : ρ[i]? with
    | none => rw [q] at hp; exact hp.elim
    | some s =>
      rw [q] at hp
      cases s with
      | un => exact hp.elim
      | dat d => exact hp.elim
      | exc c' es =>
        dsimp only at hp
        split at hp
        · rename_i hc
          obtain ⟨a', dd, e0, e1, r⟩ := he.at_ i _ q
          cases e0
          exact hcl (by rw [hc])
        · exact hp.elim
end
end FL
end

section
set_option autoImplicit false
namespace FL
open PySem L2
/-! ### [e for x in xs if t] -/
section
variable (g : G) (hx : HX) (W : WX)
def teM (m : ME) : TE := fun σ H Q => ∃ (As : List Addr) (ρ : Rho) (S : Store), EnvOk g hx H As ρ σ ∧ StOk g H As S ∧ Post g W σ H As (m ρ S) Q
def ttM (m : MT) : TT := fun σ H Q => ∃ (As : List Addr) (ρ : Rho) (S : Store), EnvOk g hx H As ρ σ ∧ StOk g H As S ∧ PostT g W σ H As (m ρ S) Q
def tgM (sl : List Nat) (m : Tgt) : TG := fun v σ H Q => ∃ (As : List Addr) (d : D) (ρ : Rho) (S : Store) (ρ' : Rho), EnvOk g hx H As ρ σ ∧ StOk g H As S ∧ Is g.K H As d v ∧ m d ρ S = some ρ' ∧ ∀ σ', EnvOk g hx H As ρ' σ' → Off sl σ σ' → Q σ' H
end
section
variable {X : Cx} {g : G} {hx : HX} {W : WX}
theorem FE.can {e : Expr} {m : ME} (h : FE X g hx W e m) : PE X e (teM g hx W m) := by
  obtain ⟨hk, t, pt, s⟩ := h.ex
  exact ⟨fun pins s' σ H Q I ⟨As, ρ, S, he, hs, hp⟩ => pt.run pins s' σ H Q I (s σ H As ρ S he hs Q hp)⟩
theorem FT.can {e : Expr} {m : MT} (h : FT X g hx W e m) : PT X e (ttM g hx W m) := by
  obtain ⟨hk, t, pt, s⟩ := h.ex
  exact ⟨fun pins s' σ H Q I ⟨As, ρ, S, he, hs, hp⟩ => pt.run pins s' σ H Q I (s σ H As ρ S he hs Q hp)⟩
theorem FG.can {e : Expr} {sl : List Nat} {m : Tgt} (h : FG X g hx e sl m) : PG X e (tgM g hx sl m) := by
  obtain ⟨hk, t, pt, s⟩ := h.ex
  exact ⟨fun pins s' σ H v u Q I r ⟨As, d, ρ, S, ρ', he, hs, iv, hm, hp⟩ => pt.run pins s' σ H v u Q I r (s v σ H As d ρ S ρ' he hs iv hm Q hp)⟩
end
def wipeR (ρ : Rho) : List Nat → Rho
  | [] => ρ
  | v :: vs => (wipeR ρ vs).set v .un
/-- the test of a comprehension -/
def mYes : MT := fun _ S => .ok true S
open Classical in
noncomputable def lcItems (P : Store → Prop) (tg : Tgt) (tt : MT) (el : ME) (n : Nat) (ρ : Rho) : List D → Store → R D
  | [], S => if P S then .ok (.ref n) S else .bad
  | d :: ds, S => if P S then (match tg d ρ S with
    | none => .bad
    | some ρ1 => match tt ρ1 S with
      | .ok true S2 => match el ρ1 S2 with
        | .ok y S3 => match getL S3 n with
          | some acc => if acc.length < 16777216 then lcItems P tg tt el n ρ ds (S3.set n (.lst (acc ++ [y]))) else .bad
          | none => .bad
        | _ => .bad
      | .ok false S2 => lcItems P tg tt el n ρ ds S2
      | _ => .bad) else .bad
noncomputable def mLc (vs : List Nat) (mi : MI) (tg : Tgt) (tt : MT) (el : ME) : ME := fun ρ S => (mi ρ S).bind fun src S1 => lcItems src.guard tg tt el S1.length (wipeR ρ vs) src.items (S1 ++ [.lst []])
section
variable {X : Cx} {g : G} {hx : HX} {W : WX} {H : Hp} {As : List Addr}
theorem wipe_off {sl : List Nat} : ∀ {vs : List Nat} {σ σ' : L2.St}, Off sl σ σ' → (∀ i ∈ sl, i ∈ vs) → wipe σ' vs = wipe σ vs := by
  intro vs σ σ' h hs
  have key : ∀ (vs : List Nat) (i : Nat) (σ : L2.St), (wipe σ vs)[i]? = if i ∈ vs ∧ i < σ.length then some none else σ[i]? := by
    intro vs
    induction vs with
    | nil => intro i σ; rw [if_neg (by simp)]; rfl
    | cons v vs ih =>
      intro i σ
      unfold wipe
      by_cases hv : v = i
      · subst hv
        by_cases hl : v < σ.length
        · rw [List.getElem?_set_self (by rw [wipe_length]; exact hl), if_pos ⟨List.mem_cons_self, hl⟩]
        · rw [if_neg (by intro z; exact hl z.2), List.getElem?_eq_none (by rw [List.length_set, wipe_length]; omega), List.getElem?_eq_none (by omega)]
      · rw [List.getElem?_set_ne hv, ih]
        have e : (i ∈ v :: vs ∧ i < σ.length) ↔ (i ∈ vs ∧ i < σ.length) := by
          rw [List.mem_cons]
          constructor
          · rintro ⟨z | z, l⟩
            · exact absurd z.symm hv
            · exact ⟨z, l⟩
          · rintro ⟨z, l⟩
            exact ⟨.inr z, l⟩
        by_cases hc : i ∈ vs ∧ i < σ.length
        · rw [if_pos hc, if_pos (e.mpr hc)]
        · rw [if_neg hc, if_neg fun z => hc (e.mp z)]
  refine List.ext_getElem? fun i => ?_
  rw [key, key, h.1]
  by_cases hc : i ∈ vs ∧ i < σ.length
  · rw [if_pos hc, if_pos hc]
  · rw [if_neg hc, if_neg hc]
    by_cases hm : i ∈ vs
    · have hl : ¬ i < σ.length := fun l => hc ⟨hm, l⟩
      rw [List.getElem?_eq_none (by rw [h.1]; omega), List.getElem?_eq_none (by omega)]
    · exact h.2 i fun m => hm (hs i m)
theorem EnvOk.wipe {ρ : Rho} {σ : L2.St} (h : EnvOk g hx H As ρ σ) : ∀ vs : List Nat, EnvOk g hx H As (wipeR ρ vs) (L2.wipe σ vs)
  | [] => h
  | v :: vs => (EnvOk.wipe h vs).setU v none
theorem wipe_idem {vs : List Nat} {σ : L2.St} : wipe (wipe σ vs) vs = wipe σ vs := wipe_off (sl := vs) ⟨wipe_length σ vs, fun i hi => wipe_out hi⟩ fun _ h => h
/-- the heart: from a walked source to the made list -/
theorem lc_sound {src : Src} {tg : Tgt} {tt : MT} {el : ME} {J : It} {vs sl : List Nat} {σ : L2.St} {ρ : Rho} {Q : VK} {H1 : Hp} {As1 : List Addr} {S1 : Store} (he : EnvOk g hx H1 As1 ρ σ) (s1 : StOk g H1 As1 S1) (hsl : ∀ i ∈ sl, i ∈ vs)
    (so : SrcOk g H1 As1 J src) (hp : Post g W σ H1 As1 (lcItems src.guard tg tt el S1.length (wipeR ρ vs) src.items (S1 ++ [.lst []])) Q) :
    ∀ L, H1 L = none → ∃ Wv : Nat → Nat → Hp → Prop, (∃ m, Wv 0 m (upd H1 L (.lst []))) ∧ ∀ i m H, Wv i m H →
      (J.stop i H ∧ Q (.ref L) H) ∨ (J.go i H ∧ ∃ Nx : Hp → Prop, (∀ H', Nx H' → ∃ m', m' < m ∧ Wv (i + 1) m' H') ∧ ∀ x H', J.yld i H x H' → tgM g hx sl tg x (wipe σ vs) H' fun σ2 H2 => wipe σ2 vs = wipe σ vs ∧ ttM g hx W0 tt σ2 H2 fun b H3 =>
        if b = true then teM g hx W0 el σ2 H3 fun y H4 => ∃ acc, H4 L = some (.lst acc) ∧ acc.length < sizeLine ∧ Nx (upd H4 L (.lst (acc ++ [y]))) else Nx H3) := by
  intro L hL
  obtain ⟨Gd, Y, wk, hG, hY⟩ := so
  have ex0 : Ext H1 As1 (upd H1 L (.lst [])) (As1 ++ [L]) := Ext.new hL
  have atL : ∀ {As : List Addr} {H H' : Hp}, Ext H (As1 ++ [L]) H' As → As[S1.length]? = some L := fun {As H H'} ex => by
    refine ex.get ?_
    rw [← s1.len]
    exact List.getElem?_concat_length
  refine lc_it (g := tgM g hx sl tg) (tt := ttM g hx W0 tt) (te := teM g hx W0 el) (vs := vs) (σ := σ) (H1 := H1) (D := L) (Qd := fun H => Q (.ref L) H) wk
    (fun i H => ∃ As S, Ext H1 As1 H As ∧ Ext (upd H1 L (.lst [])) (As1 ++ [L]) H As ∧ EnvOk g hx H As ρ σ ∧ StOk g H As S ∧ Post g W σ H As (lcItems src.guard tg tt el S1.length (wipeR ρ vs) (src.items.drop i) S) Q)
    ⟨As1 ++ [L], S1 ++ [.lst []], ex0, Ext.refl _ _, he.up ex0, s1.new (o := .lst []) hL ⟨[], upd_same, .nil⟩, by rw [List.drop_zero]; exact Post.up hp ex0⟩ ?_ ?_ ?_
  · rintro i H _ ⟨As, S, ex, _, he, hs, hp⟩
    refine hG H As S ex hs ?_
    apply Classical.byContradiction
    intro hn
    cases z : src.items.drop i with
    | nil => rw [z] at hp; unfold lcItems at hp; rw [if_neg hn] at hp; exact hp
    | cons d ds => rw [z] at hp; unfold lcItems at hp; rw [if_neg hn] at hp; exact hp
  · rintro i x H H' hi ⟨As, S, ex, ex2, he, hs, hp⟩ hy
    have hgd : src.guard S := by
      apply Classical.byContradiction
      intro hn
      rw [List.drop_eq_getElem_cons hi] at hp
      unfold lcItems at hp
      rw [if_neg hn] at hp
      exact hp
    obtain ⟨d, hd, e2, s2, i2⟩ := hY i H As S x H' ex hs hgd hy
    have hdd : src.items.drop i = d :: src.items.drop (i + 1) := by
      rw [List.drop_eq_getElem_cons hi]
      obtain ⟨_, z⟩ := List.getElem?_eq_some_iff.mp hd
      rw [z]
    rw [hdd] at hp
    unfold lcItems at hp
    rw [if_pos hgd] at hp
    cases q : tg d (wipeR ρ vs) S with
    | none => rw [q] at hp; exact hp.elim
    | some ρ1 =>
      rw [q] at hp
      dsimp only at hp
      refine ⟨As, d, wipeR ρ vs, S, ρ1, (he.up e2).wipe vs, s2, i2, q, fun σ1 he1 o1 => ⟨by rw [wipe_off o1 hsl, wipe_idem], ?_⟩⟩
      refine ⟨As, ρ1, S, he1, s2, ?_⟩
      have hp2 := Post.up hp e2
      cases r : tt ρ1 S with
      | err c es S' => rw [r] at hp2; exact hp2.elim
      | bad => rw [r] at hp2; exact hp2.elim
      | ok b S2 =>
        rw [r] at hp2
        intro H2 As2 e3 s3
        cases b with
        | false =>
          rw [if_neg Bool.false_ne_true]
          exact ⟨As2, S2, (ex.trans e2).trans e3, (ex2.trans e2).trans e3, (he.up e2).up e3, s3, Post.up hp2 e3⟩
        | true =>
          rw [if_pos rfl]
          refine ⟨As2, ρ1, S2, he1.up e3, s3, ?_⟩
          have hp3 := Post.up hp2 e3
          dsimp only at hp3
          cases r2 : el ρ1 S2 with
          | err c es S' => rw [r2] at hp3; exact hp3.elim
          | bad => rw [r2] at hp3; exact hp3.elim
          | ok y S3 =>
            rw [r2] at hp3
            dsimp only at hp3
            intro v H3 As3 e4 s4 i4
            have hp4 := Post.up hp3 e4
            cases r3 : getL S3 S1.length with
            | none => rw [r3] at hp4; exact hp4.elim
            | some acc =>
              rw [r3] at hp4
              dsimp only at hp4
              split at hp4
              · rename_i hl
                have exL := ((ex2.trans e2).trans e3).trans e4
                have haL := atL exL
                obtain ⟨a', us, ha', h1, rr⟩ := s4.lst (getL_some r3)
                rw [haL] at ha'; cases ha'
                have ew : Ext H3 As3 (upd H3 L (.lst (us ++ [v]))) As3 := Ext.write s4 haL
                exact ⟨us, h1, szlt (by rw [← rr.len]; exact hl), As3, S3.set S1.length (.lst (acc ++ [y])), (((ex.trans e2).trans e3).trans e4).trans ew, exL.trans ew, (((he.up e2).up e3).up e4).up ew, s4.write haL ⟨_, upd_same, (rr.app (.cons i4 .nil)).up ew⟩, Post.up hp4 ew⟩
              · exact hp4.elim
  · rintro H ⟨As, S, ex, ex2, he, hs, hp⟩
    rw [List.drop_length] at hp
    unfold lcItems at hp
    split at hp
    · exact hp (.ref L) H As (Ext.refl _ _) hs (.ref (atL ex2))
    · exact hp.elim
structure FTs (X : Cx) (g : G) (hx : HX) (W : WX) (ifs : List Expr) (m : MT) : Prop where
  ex : PTs X ifs (ttM g hx W m)
theorem fts_nil : FTs X g hx W [] mYes := ⟨⟨fun pins s σ H Q I ⟨As, ρ, S, he, hs, hp⟩ => pts_nil.run pins s σ H Q I (hp H As (Ext.refl _ _) hs)⟩⟩
theorem fts_one {c : Expr} {m : MT} (h : FT X g hx W c m) : FTs X g hx W [c] m := ⟨pts_one h.can⟩
theorem fe_lc {elt tg iter : Expr} {ifs : List Expr} {scope : Scope} {own : List (Str × Nat)} {pos : Pos} {mi : MI} {tgt : Tgt} {sl : List Nat} {tt : MT} {el : ME} (hc : X.calm = true) (hN : X.N.Nodup) (hi : FI X g hx W tg iter mi) (ok : BlkOk X.N X.env.scope scope own)
    (hg : ∀ (s : Shared) (H : Hp) (C : Addr) (cl : List (Str × Addr)) (fp : List Addr), FG (X.blk s H scope (compEnvC scope cl C X.env) fp) g hx tg sl tgt) (hsl : ∀ i ∈ sl, i ∈ own.map (·.2))
    (ht : ∀ (s : Shared) (H : Hp) (C : Addr) (cl : List (Str × Addr)) (fp : List Addr), FTs (X.blk s H scope (compEnvC scope cl C X.env) fp) g hx W0 ifs tt)
    (he : ∀ (s : Shared) (H : Hp) (C : Addr) (cl : List (Str × Addr)) (fp : List Addr), FE (X.blk s H scope (compEnvC scope cl C X.env) fp) g hx W0 elt el) (hs : ∀ x, foldedSetIterable iter X.env x = pure x := by intro _; rfl) :
    FE X g hx W (.ListComp elt [⟨tg, iter, ifs, 0⟩] scope pos) (mLc (own.map (·.2)) mi tgt tt el) := by
  obtain ⟨hk, ti, pi, si⟩ := hi.ex
  refine ⟨hk, _, pe_lc hc hN pi ok (fun s H C cl fp => (hg s H C cl fp).can) (fun s H C cl fp => (ht s H C cl fp).ex) (fun s H C cl fp => (he s H C cl fp).can) hs, fun σ H As ρ S hE hS Q hp => ?_⟩
  refine si σ H As ρ S hE hS _ ?_
  unfold mLc at hp
  cases r : mi ρ S with
  | err c es S' => rw [r] at hp; exact hp
  | bad => rw [r] at hp; exact hp
  | ok src S1 =>
    rw [r] at hp
    exact fun J H1 As1 e1 s1 so => lc_sound (hE.up e1) s1 hsl so (Post.up hp e1)
theorem fs_setLc {i : Nat} {y : Str} {py : Pos} {elt tg iter : Expr} {ifs : List Expr} {scope : Scope} {own : List (Str × Nat)} {pos spos : Pos} {mi : MI} {tgt : Tgt} {sl : List Nat} {tt : MT} {el : ME} (hc : X.calm = true) (hN : X.N.Nodup)
    (hsw : swapsWith (.ListComp elt [⟨tg, iter, ifs, 0⟩] scope pos) (some (.Name y py)) spos.line X.env = pure true) (hi : FI X g hx W tg iter mi) (ok : BlkOk X.N X.env.scope scope own)
    (hg : ∀ (s : Shared) (H : Hp) (C : Addr) (cl : List (Str × Addr)) (fp : List Addr), FG (X.blk s H scope (compEnvC scope cl C X.env) fp) g hx tg sl tgt) (hsl : ∀ i ∈ sl, i ∈ own.map (·.2))
    (ht : ∀ (s : Shared) (H : Hp) (C : Addr) (cl : List (Str × Addr)) (fp : List Addr), FTs (X.blk s H scope (compEnvC scope cl C X.env) fp) g hx W0 ifs tt)
    (he : ∀ (s : Shared) (H : Hp) (C : Addr) (cl : List (Str × Addr)) (fp : List Addr), FE (X.blk s H scope (compEnvC scope cl C X.env) fp) g hx W0 elt el) (hy : X.N[i]? = some y := by rfl) (hyl : X.env.scope.names.lookup y = some .local := by rfl) (hs : ∀ x, foldedSetIterable iter X.env x = pure x := by intro _; rfl) :
    FS X g hx W (.Assign [.Name y py] (.ListComp elt [⟨tg, iter, ifs, 0⟩] scope pos) spos) (mSet i (mLc (own.map (·.2)) mi tgt tt el)) := by
  obtain ⟨hk, ti, pi, si⟩ := hi.ex
  refine ⟨hk, _, ps_setLc hc hN hy hyl hsw pi ok (fun s H C cl fp => (hg s H C cl fp).can) (fun s H C cl fp => (ht s H C cl fp).ex) (fun s H C cl fp => (he s H C cl fp).can) hs, fun σ H As ρ S hE hS E hp => ?_⟩
  have key : Post g W σ H As (mLc (own.map (·.2)) mi tgt tt el ρ S) fun x H1 => gName i x σ H1 E.nx :=
    Post.stm (P := fun r => PostS g hx W H As r E) hp (fun d S1 hp1 v H1 As1 e1 s1 i1 => hp1 _ H1 As1 e1 s1 ((hE.up e1).setD i i1)) (fun c ds S' q => PostS.err hE q) id
  refine si σ H As ρ S hE hS _ ?_
  unfold mLc at key
  cases r : mi ρ S with
  | err c es S' => rw [r] at key; exact key
  | bad => rw [r] at key; exact key
  | ok src S1 =>
    rw [r] at key
    exact fun J H1 As1 e1 s1 so => lc_sound (hE.up e1) s1 hsl so (Post.up key e1)
/-! ### one of several rules -/
theorem fi_pick {tg e : Expr} {m m1 m2 m3 : MI} (h1 : FI X g hx W tg e m1) (h2 : FI X g hx W tg e m2) (h3 : FI X g hx W tg e m3) (hm : ∀ ρ S, m ρ S = m1 ρ S ∨ m ρ S = m2 ρ S ∨ m ρ S = m3 ρ S) : FI X g hx W tg e m := by
  obtain ⟨hk, t1, p1, s1⟩ := h1.ex
  obtain ⟨_, t2, p2, s2⟩ := h2.ex
  obtain ⟨_, t3, p3, s3⟩ := h3.ex
  refine ⟨hk, fun σ H R => t1 σ H R ∨ t2 σ H R ∨ t3 σ H R, ⟨fun pins s σ H R I h => ?_⟩, fun σ H As ρ S he hs Q hp => ?_⟩
  · rcases h with h | h | h
    · exact p1.run pins s σ H R I h
    · exact p2.run pins s σ H R I h
    · exact p3.run pins s σ H R I h
  · rcases hm ρ S with z | z | z
    · exact .inl (s1 σ H As ρ S he hs Q (by rw [← z]; exact hp))
    · exact .inr (.inl (s2 σ H As ρ S he hs Q (by rw [← z]; exact hp)))
    · exact .inr (.inr (s3 σ H As ρ S he hs Q (by rw [← z]; exact hp)))
/-- for x in a tuple, a list, a text -/
def mIter (m : ME) : MI := fun ρ S => (m ρ S).bind fun d S1 => match d with
  | .tup ds => .ok ⟨ds, fun _ => True⟩ S1
  | .fz ds => .ok ⟨ds, fun _ => True⟩ S1
  | .ref n => match getL S1 n with
    | some ds => .ok ⟨ds, fun S => S[n]? = some (.lst ds)⟩ S1
    | none => .bad
  | .str s => .ok ⟨s.cps.toList.map fun c => .str ⟨#[c]⟩, fun _ => True⟩ S1
  | _ => .bad
theorem fi_any {tg e : Expr} {m : ME} (h : FE X g hx W e m) : FI X g hx W tg e (mIter m) := fi_pick (fi_tup h) (fi_list h) (fi_str h) fun ρ S => by
  unfold mIter mRow mRowL mSigns
  cases r : m ρ S with
  | err c es S' => exact .inl rfl
  | bad => exact .inl rfl
  | ok d S1 =>
    cases d with
    | tup ds => exact .inl rfl
    | fz ds => exact .inr (.inl rfl)
    | ref n => exact .inr (.inl rfl)
    | str s => exact .inr (.inr rfl)
    | _ => exact .inl rfl
end
end FL
end

section
set_option autoImplicit false
/-! extend by a tuple -/
namespace PySem.AutoSeq1
open PySem
set_option maxRecDepth 8000 in
theorem fl_ext_tup (l : Addr) (items : Array Value) (n : Nat) (b : Addr) (items2 : Array Value) (n2 : Nat) (dd : Option Addr) (sl : Array (Option Value)) (hs0 : ¬(!items.isEmpty && Builtin.List.listTooLong (items.size + items2.size)) = true) (hs1 : items.size ≤ sizeLine) (hs2 : items.size + items2.size ≤ sizeLine + 1) :
    Meets (Builtin.«list.extend» ⟨[.ref l, .ref b], []⟩) (fun _ R s => s.heap.get? l = some { cls := .type "list", dict := none, data := .seq items n, slots := #[] } ∧ s.heap.get? b = some { cls := .type "tuple", dict := dd, data := .seq items2 n2, slots := sl } ∧ R (.ok (.ret Value.none)) { s with heap := s.heap.update l (Obj.mapSeq fun x => x ++ items2), toks := s.toks }) :=
  .of_wp fun prog w A R s h => by
    obtain ⟨hp, g, d, tk, os⟩ := s
    obtain ⟨hl, hb, h⟩ := h
    have f1 := idx_int
    have f2 := sub_tuple_tuple
    have f3 := sub_list_list
    have f4 := sub_tuple_list
    have f5 := sub_list_tuple
    have hz' : (items ++ items2).size ≤ sizeLine + 1 := by rw [Array.size_append]; exact hs2
    wp_walk using (wpAny_updateSeq hl rfl (hz := hs1) (_hz' := hz')), wpAny_loadPart' hl, wpAny_loadPart' hb
    exact ⟨_, rfl, h⟩
end PySem.AutoSeq1
namespace FL
open PySem L2
section
variable {X : Cx} {g : G} {hx : HX} {W : WX}
def rExtT (K : PySem.W.Frag) : V → List V → Hp → VK → Prop := fun x vs H Q => ∃ l b xs zs, x = .ref l ∧ vs = [.ref b] ∧ H l = some (.lst xs) ∧ SqT K H b zs ∧ xs.length + zs.length ≤ sizeLine ∧ Q .non (upd H l (.lst (xs ++ zs)))
theorem mt_extT : MtR X "list.extend" (rExtT X.K) := by
  intro pins s σ H x vs v us Q I rx rv h
  obtain ⟨l, b, xs, zs, rfl, rfl, hH, hB, hz, q⟩ := h
  cases rx
  obtain ⟨u, rfl, ru⟩ := vals1 rv
  cases ru
  obtain ⟨hz1, its, n, r, hl, e⟩ := I.lstM hH
  obtain ⟨its2, r2, ⟨o2, e2, hc2, n2, hd2⟩, hz2⟩ := I.tuple hB
  obtain ⟨oc, od, oda, osl⟩ := o2
  dsimp only at hc2 hd2
  subst hc2 hd2
  have hl2 := r2.length
  have hsz : its.toArray.size + its2.toArray.size ≤ sizeLine := by
    rw [List.size_toArray, List.size_toArray, ← hl, ← hl2]
    exact hz
  have hlong : ¬ (!its.toArray.isEmpty && Builtin.List.listTooLong (its.toArray.size + its2.toArray.size)) = true := by
    rw [notLongL hsz, Bool.and_false]
    exact Bool.false_ne_true
  refine PySem.call_meets PySem.F.slot_list_extend ⟨_, e, rfl⟩ PySem.F.entry_list_extend (PySem.F.args_list_extend_2 _ _)
    (PySem.AutoSeq1.fl_ext_tup l its.toArray n b its2.toArray n2 _ _ hlong (by rw [List.size_toArray]; omega) (by omega)) ⟨e, e2, ?_⟩
  refine ⟨.non, _, I.lset (its' := its ++ its2) hH e (by simp) (r.append r2) ?_, rfl, q⟩
  rw [List.length_append]
  exact hz
def rExt2 (K : PySem.W.Frag) : V → List V → Hp → VK → Prop := fun x vs H Q => rExtend x vs H Q ∨ rExtT K x vs H Q
theorem mt_ext2 : MtR X "list.extend" (rExt2 X.K) := MtR.or mt_extend mt_extT
def fExtend : MM := fun o ds S => match o, ds with
  | .ref n, [.ref m] => match getL S n, getL S m with
    | some l, some r => if l.length + r.length ≤ 16777216 then .ok .non (S.set n (.lst (l ++ r))) else .bad
    | _, _ => .bad
  | .ref n, [.tup r] => match getL S n with
    | some l => if l.length + r.length ≤ 16777216 then .ok .non (S.set n (.lst (l ++ r))) else .bad
    | none => .bad
  | _, _ => .bad
theorem ne_extend : NoErrM fExtend := by
  intro o d S c ds S' h
  unfold fExtend at h
  split at h
  · split at h
    · split at h <;> cases h
    · cases h
  · split at h
    · split at h <;> cases h
    · cases h
  · cases h
theorem ms_extend : MSn g (rExt2 g.K) fExtend := by
  intro H As S x xs o ds hs io il Q k ⟨z, S', he⟩
  have hz := he
  unfold fExtend at he
  split at he
  · cases il with
    | cons i1 i2 =>
      cases i2
      split at he
      · rename_i l r q1 q2
        split at he
        · rename_i hl
          cases he
          obtain ⟨a, rfl, ha⟩ := IsRef io
          obtain ⟨b, rfl, hb⟩ := IsRef i1
          obtain ⟨a', us, ha', h1, r1⟩ := hs.lst (getL_some q1)
          obtain ⟨b', ws, hb', h2, r2⟩ := hs.lst (getL_some q2)
          rw [ha] at ha'; cases ha'
          rw [hb] at hb'; cases hb'
          refine .inl ⟨a, b, us, ws, rfl, rfl, h1, h2, szle (by rw [← r1.len, ← r2.len]; exact hl), ?_⟩
          exact k _ _ hz .non _ As (Ext.write hs ha) (hs.write ha ⟨_, upd_same, (r1.app r2).up (Ext.write hs ha)⟩) .non
        · cases he
      · cases he
  · cases il with
    | cons i1 i2 =>
      cases i2
      split at he
      · rename_i l q1
        split at he
        · rename_i hl
          cases he
          obtain ⟨a, rfl, ha⟩ := IsRef io
          obtain ⟨a', us, ha', h1, r1⟩ := hs.lst (getL_some q1)
          rw [ha] at ha'; cases ha'
          cases i1 with
          | tup h2 r2 =>
            refine .inr ⟨a, _, us, _, rfl, rfl, h1, h2, szle (by rw [← r1.len, ← r2.len]; exact hl), ?_⟩
            exact k _ _ hz .non _ As (Ext.write hs ha) (hs.write ha ⟨_, upd_same, (r1.app r2).up (Ext.write hs ha)⟩) .non
        · cases he
      · cases he
  · cases he
theorem mr_extend (hk : X.K = g.K) : MethR X g "list" "extend" fExtend := ⟨_, _, PySem.F.plainAttrs_list, PySem.F.slot_list_extend, PySem.F.type_list_extend, by rw [← hk]; exact mt_ext2, ms_extend, ne_extend⟩
def fPop : MM := fun o ds S => match o, ds with
  | .ref n, [] => match getL S n with
    | some l => match l[l.length - 1]? with
      | some y => .ok y (S.set n (.lst l.dropLast))
      | none => .bad
    | none => .bad
  | _, _ => .bad
theorem ne_pop : NoErrM fPop := by
  intro o d S c ds S' h
  unfold fPop at h
  split at h
  · split at h
    · split at h <;> cases h
    · cases h
  · cases h
theorem IsL.dropLast {K : PySem.W.Frag} {H : Hp} {As : List Addr} {ds : List D} {xs : List V} (h : IsL K H As ds xs) : IsL K H As ds.dropLast xs.dropLast := by
  rw [List.dropLast_eq_take, List.dropLast_eq_take, h.len]
  exact h.take _
theorem ms_pop : MSn g rPop fPop := by
  intro H As S x xs o ds hs io il Q k ⟨z, S', he⟩
  have hz := he
  unfold fPop at he
  split at he
  · cases il
    split at he
    · rename_i l q
      split at he
      · rename_i y hy
        cases he
        obtain ⟨a, rfl, ha⟩ := IsRef io
        obtain ⟨a', us, ha', h1, r⟩ := hs.lst (getL_some q)
        rw [ha] at ha'; cases ha'
        obtain ⟨v, hv, iv⟩ := r.get hy
        refine ⟨a, us, v, rfl, rfl, h1, by rw [← r.len]; exact hv, ?_⟩
        exact k _ _ hz v _ As (Ext.write hs ha) (hs.write ha ⟨_, upd_same, (r.dropLast).up (Ext.write hs ha)⟩) (iv.up (Ext.write hs ha))
      · cases he
    · cases he
  · cases he
theorem mr_pop : MethR X g "list" "pop" fPop := ⟨_, _, PySem.F.plainAttrs_list, PySem.F.slot_list_pop, PySem.F.type_list_pop, mt_pop, ms_pop, ne_pop⟩
def fInsert : MM := fun o ds S => match o, ds with
  | .ref n, [.int i, y] => match getL S n with
    | some l => if l.length < 16777216 ∧ 0 ≤ i ∧ i < 2 ^ 63 then .ok .non (S.set n (.lst (l.take i.toNat ++ [y] ++ l.drop i.toNat))) else .bad
    | none => .bad
  | _, _ => .bad
theorem ne_insert : NoErrM fInsert := by
  intro o d S c ds S' h
  unfold fInsert at h
  split at h
  · split at h
    · split at h <;> cases h
    · cases h
  · cases h
theorem ms_insert : MSn g (fun x vs H Q => ∃ (l : Addr) (xs : List V) (i : Int) (y : V), x = .ref l ∧ vs = [.int i, y] ∧ H l = some (.lst xs) ∧ xs.length < sizeLine ∧ 0 ≤ i ∧ i < 2 ^ 63 ∧ Q .non (upd H l (.lst (xs.take i.toNat ++ [y] ++ xs.drop i.toNat)))) fInsert := by
  intro H As S x xs o ds hs io il Q k ⟨z, S', he⟩
  have hz := he
  unfold fInsert at he
  split at he
  · cases il with
    | cons i1 i2 =>
      cases i2 with
      | cons i2 i3 =>
        cases i3; cases i1
        split at he
        · rename_i l q
          split at he
          · rename_i hl
            cases he
            obtain ⟨a, rfl, ha⟩ := IsRef io
            obtain ⟨a', us, ha', h1, r⟩ := hs.lst (getL_some q)
            rw [ha] at ha'; cases ha'
            refine ⟨a, us, _, _, rfl, rfl, h1, szlt (by rw [← r.len]; exact hl.1), hl.2.1, hl.2.2, ?_⟩
            exact k _ _ hz .non _ As (Ext.write hs ha) (hs.write ha ⟨_, upd_same, (((r.take _).app (.cons i2 .nil)).app (r.drop _)).up (Ext.write hs ha)⟩) .non
          · cases he
        · cases he
  · cases he
theorem mr_insert : MethR X g "list" "insert" fInsert := ⟨_, _, PySem.F.plainAttrs_list, PySem.F.slot_list_insert, PySem.F.type_list_insert, mt_insert, ms_insert, ne_insert⟩
/-- the texts of a row -/
def strsOf : List D → Option (List Str)
  | [] => some []
  | .str s :: r => (strsOf r).map (s :: ·)
  | _ :: _ => none
theorem strsOf_some : ∀ {ds : List D} {ys : List Str}, strsOf ds = some ys → ds = ys.map D.str
  | [], ys, h => by cases h; rfl
  | d :: r, ys, h => by
    cases d with
    | str s =>
      unfold strsOf at h
      cases q : strsOf r with
      | none => rw [q] at h; cases h
      | some zs => rw [q] at h; cases h; rw [strsOf_some q]; rfl
    | _ => cases h
theorem strsOf_map : ∀ ys : List Str, strsOf (ys.map D.str) = some ys
  | [] => rfl
  | y :: ys => by
    show (strsOf (ys.map D.str)).map (y :: ·) = _
    rw [strsOf_map ys]
    rfl
def fJoin : MM := fun o ds S => match o, ds with
  | .str a, [e] => match (rowOf S e).bind strsOf with
    | some ys => if (ys.map (·.length)).sum + ys.length * a.length ≤ 16777216 then .ok (.str (PySem.Txt.join a ys)) S else .bad
    | none => .bad
  | _, _ => .bad
end
end FL
end

section
set_option autoImplicit false
namespace FL
open PySem L2
section
variable {X : Cx} {g : G} {hx : HX} {W : WX}
theorem ne_join : NoErrM fJoin := by
  intro o d S c ds S' h
  unfold fJoin at h
  split at h
  · split at h
    · split at h <;> cases h
    · cases h
  · cases h
theorem mr_join (hk : X.K = g.K) : MethR X g "str" "join" fJoin := ⟨_, _, PySem.F.plainAttrs_str, PySem.F.slot_str_join, PySem.F.type_str_join, mt_join, (by
  intro H As S x xs o ds hs io il Q k ⟨z, S', he⟩
  have hz := he
  unfold fJoin at he
  split at he
  · cases io
    cases il with
    | cons i1 i2 =>
      cases i2
      split at he
      · rename_i ys q
        split at he
        · rename_i hl
          cases he
          obtain ⟨l, q1, q2⟩ := Option.bind_eq_some_iff.mp q
          obtain ⟨p, us, rfl, hq, r⟩ := hs.row q1 i1
          have e1 := strsOf_some q2
          rw [e1] at r
          have e2 := r.strsV
          rw [e2] at hq
          exact ⟨_, p, ys, rfl, rfl, by rw [hk]; exact hq, hl, CSn.pure hs hz k (.str _)⟩
        · cases he
      · cases he
  · cases he), ne_join⟩
def fSplit : MM := fun o ds S => match o, ds with
  | .str a, [.str b] => if (b.length == 0) = false ∧ a.length + 2 ≤ 16777216 then .ok (.ref S.length) (S ++ [.lst ((PySem.Txt.split a b).map D.str)]) else .bad
  | _, _ => .bad
theorem ne_split : NoErrM fSplit := by
  intro o d S c ds S' h
  unfold fSplit at h
  split at h
  · split at h <;> cases h
  · cases h
theorem IsL.strs {K : PySem.W.Frag} {H : Hp} {As : List Addr} : ∀ (ns : List Str), IsL K H As (ns.map D.str) (ns.map V.str)
  | [] => .nil
  | n :: ns => .cons (.str n) (IsL.strs ns)
theorem mr_split : MethR X g "str" "split" fSplit := ⟨_, _, PySem.F.plainAttrs_str, PySem.F.slot_str_split, PySem.F.type_str_split, mt_split, (by
  intro H As S x xs o ds hs io il Q k ⟨z, S', he⟩
  have hz := he
  unfold fSplit at he
  split at he
  · cases io
    cases il with
    | cons i1 i2 =>
      cases i2; cases i1
      split at he
      · rename_i hl
        cases he
        refine ⟨_, _, rfl, rfl, hl.1, szle hl.2, fun p hn => ?_⟩
        exact k _ _ hz (.ref p) _ _ (Ext.new hn) (hs.new hn ⟨_, upd_same, IsL.strs _⟩) (.ref (by rw [← hs.len]; exact List.getElem?_concat_length))
      · cases he
  · cases he), ne_split⟩
def fIndexS : MM := fun o ds S => match o, ds with
  | .str a, [.str b] => match Builtin.Str.occurrences a b 0 a.length 1 with
    | i :: _ => .ok (.int (i : Nat)) S
    | [] => .bad
  | _, _ => .bad
theorem ne_indexS : NoErrM fIndexS := by
  intro o d S c ds S' h
  unfold fIndexS at h
  split at h
  · split at h <;> cases h
  · cases h
theorem mr_indexS : MethR X g "str" "index" fIndexS := ⟨_, _, PySem.F.plainAttrs_str, PySem.F.slot_str_index, PySem.F.type_str_index, mt_sindex, (by
  intro H As S x xs o ds hs io il Q k ⟨z, S', he⟩
  have hz := he
  unfold fIndexS at he
  split at he
  · cases io
    cases il with
    | cons i1 i2 =>
      cases i2; cases i1
      split at he
      · rename_i i rest q
        cases he
        exact ⟨_, _, i, rest, rfl, rfl, q, CSn.pure hs hz k (.int _)⟩
      · cases he
  · cases he), ne_indexS⟩
/-! ### op= -/
def bAddI : D → D → Store → R D
  | .int i, .int j, S => .ok (.int (i + j)) S
  | .str x, .str y, S => if x.length + y.length ≤ 16777216 then .ok (.str (x ++ y)) S else .bad
  | _, _, _ => .bad
theorem ar_add : AugR X g .Add bAddI := ⟨_, OpR.or iop_add iop_add_str, (by
  intro H As S x y d e hs ix iy Q k ⟨z, S', he⟩
  have hz := he
  unfold bAddI at he
  split at he
  · cases he; cases ix; cases iy
    exact .inl ⟨_, _, rfl, rfl, RSn.pure hs hz k (.int _)⟩
  · cases ix; cases iy
    split at he
    · rename_i hl
      cases he
      exact .inr ⟨_, _, rfl, rfl, szle hl, RSn.pure hs hz k (.str _)⟩
    · cases he
  · cases he), by
  intro d e S c ds S' h
  unfold bAddI at h
  split at h
  · cases h
  · split at h <;> cases h
  · cases h⟩
theorem ar_sub : AugR X g .Sub bSub := ⟨_, iop_sub, rs_sub, ne_sub⟩
/-! ### a def at its last level -/
theorem fn_bad {P : Program} {w : World} {mg : Str → Option Value} {base : Heap} {CX : CXT} {k : Nat} {f : Addr} {fd : FuncData} {ps : List Str} : FnOk P w g.K mg base CX k f fd ps (spM g ps.length fun _ _ => .bad) :=
  ⟨fun vs H Q E ⟨_, _, _, _, _, _, h⟩ => h.elim, fun A outer s H args us vs Q E _ _ _ _ ⟨_, _, _, _, _, _, h⟩ => h.elim⟩
/-! ### __init__ of an error: each parameter into its field -/
theorem init1 {C : Addr} {f : Str} {vs : List V} {H : Hp} {Q : VK} {E : XK} {N : List Str} (hN : N.length = 2) (T : OexC g.K C) (no : PySem.W.findIn g.K (.ref C) f = some none) (h : spInit C [f] vs H Q E) :
    tOst g.K f (tVar 0) (tVar 1) { nx := fun _ H' => Q .non H', rt := Q } (L2.start N vs) H := by
  obtain ⟨a, ws, rfl, hl, ha, k⟩ := h
  match ws, hl with
  | [y], _ => exact ⟨y, rfl, .ref a, rfl, a, C, rfl, T, no, .inl ⟨ha, fun dx nd nda => k dx nd nda⟩⟩
theorem init2 {C : Addr} {f f2 : Str} {vs : List V} {H : Hp} {Q : VK} {E : XK} {N : List Str} (hN : N.length = 3) (T : OexC g.K C) (no : PySem.W.findIn g.K (.ref C) f = some none) (no2 : PySem.W.findIn g.K (.ref C) f2 = some none) (h : spInit C [f, f2] vs H Q E) :
    tSeq (tOst g.K f (tVar 0) (tVar 1)) (tOst g.K f2 (tVar 0) (tVar 2)) { nx := fun _ H' => Q .non H', rt := Q } (L2.start N vs) H := by
  obtain ⟨a, ws, rfl, hl, ha, k⟩ := h
  match ws, hl with
  | [y, z], _ =>
    refine ⟨y, rfl, .ref a, rfl, a, C, rfl, T, no, .inl ⟨ha, fun dx nd nda => ?_⟩⟩
    refine ⟨z, rfl, .ref a, rfl, a, C, rfl, T, no2, .inr ⟨dx, [(f, y)], upd_same, by rw [upd_ne nda, upd_same], (by show 1 ≤ 900; decide), ?_⟩⟩
    have e : upd (upd (upd H dx (exd dx [(f, y)])) a (exo a C (some dx))) dx (exd dx [(f2, z), (f, y)]) = upd (upd H dx (exd dx [(f2, z), (f, y)])) a (exo a C (some dx)) := by
      funext b
      by_cases h1 : b = dx
      · subst h1; rw [upd_same, upd_ne nda, upd_same]
      · rw [upd_ne h1]
        by_cases h2 : b = a
        · subst h2; rw [upd_same, upd_same]
        · rw [upd_ne h2, upd_ne h1, upd_ne h2, upd_ne h1]
    show Q .non _
    rw [e]
    exact k dx nd nda
theorem init_len {C : Addr} {names ps : List Str} (h : ps.length = names.length + 1) : ∀ vs H Q E, spInit C names vs H Q E → vs.length = ps.length := fun vs H Q E ⟨a, ws, e, hl, _⟩ => by rw [e, List.length_cons, hl, h]
/-! ### the law's own end -/
theorem law_end {mf : MF} {H : Hp} {a : Addr} {ns : List Int} {Q : VK} {E : XK} (ho : Only H) (hs : SqL g.K H a (ns.map V.int)) (hm : ∃ S', mf [.fz (ns.map D.int)] [] = .ok (.bl true) S') (hq : ∀ H', Q (.bl true) H') : spM g 1 mf [.ref a] H Q E := by
  obtain ⟨S', e⟩ := hm
  refine ⟨[], [.fz (ns.map D.int)], [], .cons (.fz ?_ (IsL.ints ns)) .nil, ⟨rfl, List.nodup_nil, fun n o a h => by simp at h⟩, rfl, ?_⟩
  · rcases hs with (h | ⟨o, h⟩) | h
    · rcases ho a with z | ⟨o, xs, z⟩
      · rw [h] at z; cases z
      · rw [h] at z; cases z
    · exact .inl ⟨o, h⟩
    · exact .inr h
  · rw [e]
    intro v H' As' _ _ i
    cases i
    exact hq H'
/-! ### the facts of classes -/
theorem kit_ref {K : PySem.W.Frag} {D C : Addr} {b : Bool} (h1 : PySem.W.isClsIn K C = true) (h2 : PySem.W.typeIn K (.ref C) = some (.type "type")) (h3 : PySem.W.subIn K (.ref D) (.ref C) = some b) (h4 : PySem.W.subIn K (.ref D) (.ref D) = some true) : PySem.W.kitOne K (.ref D) (.ref C) = some b := by
  unfold PySem.W.kitOne
  split
  · rename_i q
    have e : D = C := Value.ref.inj (beq_iff_eq.mp q)
    subst e
    rw [h4] at h3
    exact h3
  · unfold PySem.W.kitCls
    have h1' : (PySem.W.clsIn K C).isSome = true := h1
    dsimp only
    rw [if_pos (by rw [h1', h2]; rfl)]
    exact h3
theorem kit_type {K : PySem.W.Frag} {D : Addr} {T : String} {b : Bool} (h1 : PySem.W.kitMeta T = true) (h3 : PySem.W.subIn K (.ref D) (.type T) = some b) : PySem.W.kitOne K (.ref D) (.type T) = some b := by
  unfold PySem.W.kitOne
  split
  · rename_i q
    have e := beq_iff_eq.mp q
    cases e
  · unfold PySem.W.kitCls
    dsimp only
    rw [if_pos h1]
    exact h3
theorem exm_ref {K : PySem.W.Frag} {D C : Addr} {b : Bool} (h0 : PySem.W.subIn K (.ref C) (.type "BaseException") = some true) (h1 : PySem.W.isClsIn K C = true) (h2 : PySem.W.typeIn K (.ref C) = some (.type "type")) (h3 : PySem.W.subIn K (.ref D) (.ref C) = some b) : PySem.W.exmOne K (.ref D) (.ref C) = some b := by
  unfold PySem.W.exmOne
  rw [if_pos (by rw [h0]; rfl)]
  unfold PySem.W.kitCls
  have h1' : (PySem.W.clsIn K C).isSome = true := h1
  dsimp only
  rw [if_pos (by rw [h1', h2]; rfl)]
  exact h3
/-- law's: a list of at most 63 ints is handed in, True comes out -/
def spLaw (K : PySem.W.Frag) : Sp := fun vs H Q _ => ∃ (a : Addr) (ns : List Int), vs = [.ref a] ∧ Only H ∧ SqL K H a (ns.map V.int) ∧ ns.length ≤ 63 ∧ ∀ H', Q (.bl true) H'
theorem law_fn {P : Program} {w : World} {K : PySem.W.Frag} {mg : Str → Option Value} {base : Heap} {k : Nat} {f : Addr} {fd : FuncData} {mf : MF} (hg : g.K = K) (ht : ∀ ns : List Int, ns.length ≤ 63 → ∃ S', mf [.fz (ns.map D.int)] [] = .ok (.bl true) S')
    (F : FnOk P w K mg base (L2N.CX P w) k f fd ["script"] (spM g 1 mf)) : FnOk P w K mg base (L2N.CX P w) k f fd ["script"] (spLaw K) :=
  F.imp fun vs H Q E ⟨a, ns, e, ho, hs, hl, hq⟩ => by
    subst e
    exact law_end ho (by rw [hg]; exact hs) (ht ns hl) hq
theorem walk_law {k : Nat} {l : PySem.W.OpenLaw} {q : Program} {loose : List Str} {XP : (Str → Option Value) → Heap → Prop} {YP : World → Heap → Prop} {d : PySem.DefRec} {K : Params → PySem.W.Frag} (hn : l.most = some 63) (hdf : d.params.defaults = []) (hr : Room k callerA)
    (hY : ∀ (w : World) (h : Heap), YP w h → (K w.params).In h)
    (F : ∀ (w : World) (mg : Str → Option Value) (fl : Addr) (h : Heap), (K w.params).In h → h.Ns mainGlobals mg → mg d.name = some (.ref fl) →
      ∃ fdl : FuncData, (∀ (s : Shared) (u : Value), BindsTo s fdl ⟨[u], []⟩ [("script", u)]) ∧ ∀ base : Heap, (K w.params).In base → base.Ns mainGlobals mg → FnOk l.prog w (K w.params) mg base (L2N.CX l.prog w) k fl fdl ["script"] (spLaw (K w.params))) :
    PySem.W.WalkO q loose XP YP l.row.toRowW d [] (fun f vs => PySem.call f vs) := by
  refine L2.walk_of (n := 63) (k := k) (x := "script") (CX := fun w => L2N.CX l.prog w) (sp := fun w => spLaw (K w.params)) hn (by decide) hdf hr hY F (fun w H a ns hl ho hs => ⟨a, ns, rfl, ho, hs, hl, fun _ => rfl⟩) ?_
  intro w H s e s' h
  obtain ⟨_, _, _, _, _, _, _, _, _, _, _, _, z⟩ := h
  exact z
end
end FL
end

section
set_option autoImplicit false
namespace FL
open PySem L2
/-! a statement that is not reached -/
def mBad : MS := fun _ _ => .bad
theorem fs_bad {X : Cx} {g : G} {hx : HX} {W : WX} {st : Stmt} (hk : X.K = g.K) : FS X g hx W st mBad :=
  ⟨hk, fun _ _ _ => False, ⟨fun pins s σ H E I h => h.elim⟩, fun σ H As ρ S he hs E hp => hp⟩
end FL
end

section
set_option autoImplicit false
/-! evaluation of the functions over data by simp: the rest of a run is not looked at before its turn -/
namespace FL
open PySem L2
section
variable {ρ : Rho} {S : Store} {m ma mb mc : ME} {mas mr : MA} {t u : MT} {ms mk : MS} {i : Nat} {d e : D} {ds : List D} {f f' : D → D → Store → R D} {b : Bool}
def kC2 (d : D) : List D → Store → R (List D) := fun ds S => .ok (d :: ds) S
def kC1 (mr : MA) (ρ : Rho) : D → Store → R (List D) := fun d S => (mr ρ S).bind (kC2 d)
@[simp] theorem q_c2 : kC2 d ds S = .ok (d :: ds) S := rfl
@[simp] theorem q_c1 : kC1 mr ρ d S = (mr ρ S).bind (kC2 d) := rfl
def kO1 (f : D → D → Store → R D) (mb : ME) (ρ : Rho) : D → Store → R D := fun d S => (mb ρ S).bind (f d)
@[simp] theorem q_o1 : kO1 f mb ρ d S = (mb ρ S).bind (f d) := rfl
def kB (d : D) (S : Store) : R Bool := match d with
  | .bl b => .ok b S
  | _ => .bad
@[simp] theorem q_b : kB (.bl b) S = .ok b S := rfl
def kTruO (o : Option Bool) (S : Store) : R Bool := match o with
  | some b => .ok b S
  | none => .bad
@[simp] theorem q_truO : kTruO (some b) S = .ok b S := rfl
def kTru (d : D) (S : Store) : R Bool := kTruO (truD d S) S
@[simp] theorem q_tru : kTru d S = kTruO (truD d S) S := rfl
def kNot (b : Bool) (S : Store) : R Bool := .ok (!b) S
@[simp] theorem q_not : kNot b S = .ok (!b) S := rfl
def kAnd (u : MT) (ρ : Rho) (b : Bool) (S : Store) : R Bool := match b with
  | true => u ρ S
  | false => .ok false S
@[simp] theorem q_andt : kAnd u ρ true S = u ρ S := rfl
@[simp] theorem q_andf : kAnd u ρ false S = .ok false S := rfl
def kOr (u : MT) (ρ : Rho) (b : Bool) (S : Store) : R Bool := match b with
  | true => .ok true S
  | false => u ρ S
@[simp] theorem q_ort : kOr u ρ true S = .ok true S := rfl
@[simp] theorem q_orf : kOr u ρ false S = u ρ S := rfl
def kNotV (d : D) (S : Store) : R D := match d with
  | .bl b => .ok (.bl (!b)) S
  | _ => .bad
@[simp] theorem q_notV : kNotV (.bl b) S = .ok (.bl (!b)) S := rfl
def kAndV (mb : ME) (ρ : Rho) (d : D) (S : Store) : R D := match d with
  | .bl true => mb ρ S
  | .bl false => .ok (.bl false) S
  | _ => .bad
@[simp] theorem q_andVt : kAndV mb ρ (.bl true) S = mb ρ S := rfl
@[simp] theorem q_andVf : kAndV mb ρ (.bl false) S = .ok (.bl false) S := rfl
def kOrV (mb : ME) (ρ : Rho) (d : D) (S : Store) : R D := match d with
  | .bl true => .ok (.bl true) S
  | .bl false => mb ρ S
  | _ => .bad
@[simp] theorem q_orVt : kOrV mb ρ (.bl true) S = .ok (.bl true) S := rfl
@[simp] theorem q_orVf : kOrV mb ρ (.bl false) S = mb ρ S := rfl
def kIfE (ma mb : ME) (ρ : Rho) (b : Bool) (S : Store) : R D := match b with
  | true => ma ρ S
  | false => mb ρ S
@[simp] theorem q_ifEt : kIfE ma mb ρ true S = ma ρ S := rfl
@[simp] theorem q_ifEf : kIfE ma mb ρ false S = mb ρ S := rfl
def kTup (ds : List D) (S : Store) : R D := if ds.length ≤ 16777216 then .ok (.tup ds) S else .bad
@[simp] theorem q_tup (h : ds.length ≤ 16777216) : kTup ds S = .ok (.tup ds) S := if_pos h
def kLst (ds : List D) (S : Store) : R D := if ds.length ≤ 16777216 then .ok (.ref S.length) (S ++ [.lst ds]) else .bad
@[simp] theorem q_lst (h : ds.length ≤ 16777216) : kLst ds S = .ok (.ref S.length) (S ++ [.lst ds]) := if_pos h
def kNeg (d : D) (S : Store) : R D := match d with
  | .int i => .ok (.int (-i)) S
  | _ => .bad
@[simp] theorem q_neg {x : Int} : kNeg (.int x) S = .ok (.int (-x)) S := rfl
def kRet (d : D) (S : Store) : RS := .rt d S
@[simp] theorem q_ret : kRet d S = .rt d S := rfl
def kDrop (ρ : Rho) (_ : D) (S : Store) : RS := .nx ρ S
@[simp] theorem q_drop : kDrop ρ d S = .nx ρ S := rfl
def kSet (i : Nat) (ρ : Rho) (d : D) (S : Store) : RS := .nx (ρ.set i (.dat d)) S
@[simp] theorem q_set : kSet i ρ d S = .nx (ρ.set i (.dat d)) S := rfl
def kIf (ms mk : MS) (ρ : Rho) (b : Bool) (S : Store) : RS := match b with
  | true => ms ρ S
  | false => mk ρ S
@[simp] theorem q_ift : kIf ms mk ρ true S = ms ρ S := rfl
@[simp] theorem q_iff : kIf ms mk ρ false S = mk ρ S := rfl
def kAsgO (o : Option Rho) (S : Store) : RS := match o with
  | some ρ' => .nx ρ' S
  | none => .bad
@[simp] theorem q_asgO : kAsgO (some ρ) S = .nx ρ S := rfl
def kAsg (tg : Tgt) (ρ : Rho) (d : D) (S : Store) : RS := kAsgO (tg d ρ S) S
@[simp] theorem q_asg {tg : Tgt} : kAsg tg ρ d S = kAsgO (tg d ρ S) S := rfl
def kMo (g : MM) (mas : MA) (ρ : Rho) (o : D) (S : Store) (b : Bool) : R D := if b = true then (mas ρ S).bind (g o) else .bad
@[simp] theorem q_mo {g : MM} : kMo g mas ρ d S true = (mas ρ S).bind (g d) := rfl
def kMe (T : String) (g : MM) (mas : MA) (ρ : Rho) (o : D) (S : Store) : R D := kMo g mas ρ o S (recvD T S o)
@[simp] theorem q_me {T : String} {g : MM} : kMe T g mas ρ d S = kMo g mas ρ d S (recvD T S d) := rfl
def kS4 (ρ : Rho) (o : Option Store) : RS := match o with
  | some S4 => .nx ρ S4
  | none => .bad
@[simp] theorem q_s4 : kS4 ρ (some S) = .nx ρ S := rfl
def kS3 (ρ : Rho) (d o i : D) (S : Store) : RS := kS4 ρ (setD o i d S)
@[simp] theorem q_s3 {o i : D} : kS3 ρ d o i S = kS4 ρ (setD o i d S) := rfl
def kS2 (mb : ME) (ρ : Rho) (d o : D) (S : Store) : RS := (mb ρ S).stm ρ (kS3 ρ d o)
@[simp] theorem q_s2 {o : D} : kS2 mb ρ d o S = (mb ρ S).stm ρ (kS3 ρ d o) := rfl
def kS1 (ma mb : ME) (ρ : Rho) (d : D) (S : Store) : RS := (ma ρ S).stm ρ (kS2 mb ρ d)
@[simp] theorem q_s1 : kS1 ma mb ρ d S = (ma ρ S).stm ρ (kS2 mb ρ d) := rfl
def kIsO (o : Option Bool) (S : Store) : R D := match o with
  | some b => .ok (.bl b) S
  | none => .bad
@[simp] theorem q_isO : kIsO (some b) S = .ok (.bl b) S := rfl
def kIs (T : String) (d : D) (S : Store) : R D := kIsO ((tyD S d).bind fun t => kitB t T) S
@[simp] theorem q_is {T : String} : kIs T d S = kIsO ((tyD S d).bind fun t => kitB t T) S := rfl
def kRaise (c : Nat) (ρ : Rho) (ds : List D) (S : Store) : RS := .err c ds.reverse ρ S
@[simp] theorem q_raise {c : Nat} : kRaise c ρ ds S = .err c ds.reverse ρ S := rfl
def kCh3 (f' : D → D → Store → R D) (mc : ME) (ρ : Rho) (e z : D) (S : Store) : R D := match z with
  | .bl false => .ok (.bl false) S
  | .bl true => (mc ρ S).bind (f' e)
  | _ => .bad
@[simp] theorem q_ch3t : kCh3 f' mc ρ e (.bl true) S = (mc ρ S).bind (f' e) := rfl
@[simp] theorem q_ch3f : kCh3 f' mc ρ e (.bl false) S = .ok (.bl false) S := rfl
def kCh2 (f f' : D → D → Store → R D) (mc : ME) (ρ : Rho) (d e : D) (S : Store) : R D := (f d e S).bind (kCh3 f' mc ρ e)
@[simp] theorem q_ch2 : kCh2 f f' mc ρ d e S = (f d e S).bind (kCh3 f' mc ρ e) := rfl
def kCh1 (f f' : D → D → Store → R D) (mb mc : ME) (ρ : Rho) (d : D) (S : Store) : R D := (mb ρ S).bind (kCh2 f f' mc ρ d)
@[simp] theorem q_ch1 : kCh1 f f' mb mc ρ d S = (mb ρ S).bind (kCh2 f f' mc ρ d) := rfl
@[simp] theorem ev_chain : mChain f f' ma mb mc ρ S = (ma ρ S).bind (kCh1 f f' mb mc ρ) := by
  unfold mChain; congr 1; funext d S1
  show _ = (mb ρ S1).bind (kCh2 f f' mc ρ d)
  congr 1; funext e S2
  show _ = (f d e S2).bind (kCh3 f' mc ρ e)
  congr 1; funext z S3
  rcases z with _ | ⟨_ | _⟩ | _ | _ | _ | _ | _ <;> rfl
@[simp] theorem ev_var : mVar i ρ S = match ρ[i]? with | some (.dat d) => .ok d S | _ => .bad := rfl
@[simp] theorem ev_c : mC d ρ S = .ok d S := rfl
@[simp] theorem ev_nil : mNil ρ S = .ok [] S := rfl
@[simp] theorem ev_cons : mCons m mr ρ S = (m ρ S).bind (kC1 mr ρ) := rfl
@[simp] theorem ev_op : mOp f ma mb ρ S = (ma ρ S).bind (kO1 f mb ρ) := rfl
@[simp] theorem ev_B : mB m ρ S = (m ρ S).bind kB := rfl
@[simp] theorem ev_tru : mTru m ρ S = (m ρ S).bind kTru := rfl
@[simp] theorem ev_not : mNot t ρ S = (t ρ S).bind kNot := rfl
@[simp] theorem ev_and : mAnd t u ρ S = (t ρ S).bind (kAnd u ρ) := rfl
@[simp] theorem ev_or : mOr t u ρ S = (t ρ S).bind (kOr u ρ) := rfl
@[simp] theorem ev_notV : mNotV m ρ S = (m ρ S).bind kNotV := rfl
@[simp] theorem ev_andV : mAndV ma mb ρ S = (ma ρ S).bind (kAndV mb ρ) := rfl
@[simp] theorem ev_orV : mOrV ma mb ρ S = (ma ρ S).bind (kOrV mb ρ) := rfl
@[simp] theorem ev_ifE : mIfE t ma mb ρ S = (t ρ S).bind (kIfE ma mb ρ) := rfl
@[simp] theorem ev_cb {g : MF} : mCB g mas ρ S = (mas ρ S).bind g := rfl
@[simp] theorem ev_tup : mTup mas ρ S = (mas ρ S).bind kTup := rfl
@[simp] theorem ev_lst : mLst mas ρ S = (mas ρ S).bind kLst := rfl
@[simp] theorem ev_neg : mNeg ma ρ S = (ma ρ S).bind kNeg := rfl
@[simp] theorem ev_next : mNext ρ S = .nx ρ S := rfl
@[simp] theorem ev_break : mBreak ρ S = .bk ρ S := rfl
@[simp] theorem ev_cont : mCont ρ S = .ct ρ S := rfl
@[simp] theorem ev_seq : mSeq ms mk ρ S = (ms ρ S).seq mk := rfl
@[simp] theorem ev_ret : mRet m ρ S = (m ρ S).stm ρ kRet := rfl
@[simp] theorem ev_retN : mRetN ρ S = .rt .non S := rfl
@[simp] theorem ev_drop : mDrop m ρ S = (m ρ S).stm ρ (kDrop ρ) := rfl
@[simp] theorem ev_set : mSet i m ρ S = (m ρ S).stm ρ (kSet i ρ) := rfl
@[simp] theorem ev_if : mIf t ms mk ρ S = (t ρ S).stm ρ (kIf ms mk ρ) := rfl
@[simp] theorem ev_asg {tg : Tgt} : mAsg tg m ρ S = (m ρ S).stm ρ (kAsg tg ρ) := rfl
@[simp] theorem ev_gN : gN i d ρ S = some (ρ.set i (.dat d)) := rfl
@[simp] theorem ev_meth {T : String} {g : MM} : mMeth T g m mas ρ S = (m ρ S).bind (kMe T g mas ρ) := rfl
@[simp] theorem ev_sub : mSub ma mb m ρ S = (m ρ S).stm ρ (kS1 ma mb ρ) := rfl
@[simp] theorem ev_isi {T : String} : mIsi T m ρ S = (m ρ S).bind (kIs T) := rfl
@[simp] theorem ev_raise {c : Nat} : mRaise c mas ρ S = (mas ρ S).stm ρ (kRaise c ρ) := rfl
@[simp] theorem ev_yes : mYes ρ S = .ok true S := rfl
end
/-! loops, defs, handlers -/
def RS.go (r : RS) (k : MS) : RS := match r with
  | .nx ρ S => k ρ S
  | .ct ρ S => k ρ S
  | .bk ρ S => .nx ρ S
  | r => r
def RS.tri (r : RS) (sub : Nat → Option Bool) (i : Nat) (ms : MS) : RS := match r with
  | .err c es ρ' S' => match sub c with
    | some true => unset i (ms (ρ'.set i (.exc c es)) S')
    | some false => .err c es ρ' S'
    | none => .bad
  | r => r
def RS.fin (r : RS) : R D := match r with
  | .nx _ S' => .ok .non S'
  | .rt d S' => .ok d S'
  | .err c es _ S' => .err c es S'
  | _ => .bad
section
variable {ρ : Rho} {S : Store} {k b ms : MS} {t : MT} {d : D} {ds : List D} {n i : Nat} {tg : Tgt} {P : Store → Prop}
@[simp] theorem go_nx : (RS.nx ρ S).go k = k ρ S := rfl
@[simp] theorem go_ct : (RS.ct ρ S).go k = k ρ S := rfl
@[simp] theorem go_bk : (RS.bk ρ S).go k = .nx ρ S := rfl
@[simp] theorem go_rt : (RS.rt d S).go k = .rt d S := rfl
@[simp] theorem go_err {c : Nat} : (RS.err c ds ρ S).go k = .err c ds ρ S := rfl
@[simp] theorem fin_nx : (RS.nx ρ S).fin = .ok .non S := rfl
@[simp] theorem fin_rt : (RS.rt d S).fin = .ok d S := rfl
@[simp] theorem fin_err {c : Nat} : (RS.err c ds ρ S).fin = .err c ds S := rfl
@[simp] theorem tri_nx {sub : Nat → Option Bool} : (RS.nx ρ S).tri sub i k = .nx ρ S := rfl
@[simp] theorem tri_rt {sub : Nat → Option Bool} : (RS.rt d S).tri sub i k = .rt d S := rfl
@[simp] theorem tri_err {sub : Nat → Option Bool} {c : Nat} : (RS.err c ds ρ S).tri sub i k = match sub c with
    | some true => unset i (k (ρ.set i (.exc c ds)) S)
    | some false => .err c ds ρ S
    | none => .bad := rfl
@[simp] theorem uns_nx : unset i (RS.nx ρ S) = .nx ((clr ρ).set i .un) S := rfl
@[simp] theorem uns_rt : unset i (RS.rt d S) = .rt d S := rfl
@[simp] theorem ev_try {sub : Nat → Option Bool} : mTry sub i b ms ρ S = (b ρ S).tri sub i ms := rfl
def kWh (t : MT) (b : MS) (n : Nat) (ρ : Rho) (c : Bool) (S : Store) : RS := match c with
  | true => (b ρ S).go (mWhileN t b n)
  | false => .nx ρ S
@[simp] theorem q_wht : kWh t b n ρ true S = (b ρ S).go (mWhileN t b n) := rfl
@[simp] theorem q_whf : kWh t b n ρ false S = .nx ρ S := rfl
theorem ev_wh : mWhileN t b (n + 1) ρ S = (t ρ S).stm ρ (kWh t b n ρ) := by
  show (t ρ S).stm ρ _ = _
  congr 1
  funext c S1
  cases c <;> rfl
noncomputable def kIt (P : Store → Prop) (tg : Tgt) (b : MS) (ds : List D) (S : Store) (o : Option Rho) : RS := match o with
  | none => .bad
  | some ρ1 => (b ρ1 S).go (mItems P tg b ds)
@[simp] theorem q_it : kIt P tg b ds S (some ρ) = (b ρ S).go (mItems P tg b ds) := rfl
def kA1 (i : Nat) (f : D → D → Store → R D) (ρ : Rho) (x d : D) (S : Store) : RS := (f x d S).stm ρ (kSet i ρ)
@[simp] theorem q_a1 {f : D → D → Store → R D} {x : D} : kA1 i f ρ x d S = (f x d S).stm ρ (kSet i ρ) := rfl
def kAug (i : Nat) (f : D → D → Store → R D) (m : ME) (ρ : Rho) (S : Store) (o : Option Sl) : RS := match o with
  | some (.dat x) => (m ρ S).stm ρ (kA1 i f ρ x)
  | _ => .bad
@[simp] theorem q_aug {m : ME} {f : D → D → Store → R D} {x : D} : kAug i f m ρ S (some (.dat x)) = (m ρ S).stm ρ (kA1 i f ρ x) := rfl
noncomputable def kFor (t : Tgt) (b : MS) (ρ : Rho) (src : Src) (S : Store) : RS := mItems src.guard t b src.items ρ S
@[simp] theorem q_for {src : Src} : kFor tg b ρ src S = mItems src.guard tg b src.items ρ S := rfl
noncomputable def kLc (vs : List Nat) (tg : Tgt) (tt : MT) (el : ME) (ρ : Rho) (src : Src) (S1 : Store) : R D := lcItems src.guard tg tt el S1.length (wipeR ρ vs) src.items (S1 ++ [.lst []])
@[simp] theorem q_lc {vs : List Nat} {tt : MT} {el : ME} {src : Src} : kLc vs tg tt el ρ src S = lcItems src.guard tg tt el S.length (wipeR ρ vs) src.items (S ++ [.lst []]) := rfl
open Classical in
@[simp] theorem ev_i0 : mItems P tg b [] ρ S = if P S then .nx ρ S else .bad := by rw [mItems]
open Classical in
@[simp] theorem ev_i1 : mItems P tg b (d :: ds) ρ S = if P S then kIt P tg b ds S (tg d ρ S) else .bad := by
  rw [mItems]
  show (if P S then _ else _) = _
  split
  · unfold kIt; cases tg d ρ S <;> rfl
  · rfl
@[simp] theorem ev_fn {n : Nat} : mFn n ms ds S = (ms (rho0 n ds) S).fin := rfl
@[simp] theorem ev_aug {m : ME} {f : D → D → Store → R D} : mAug i f m ρ S = kAug i f m ρ S ρ[i]? := rfl
def kRev (d : D) (S1 : Store) : R Src := match d with
  | .tup ds => .ok ⟨ds.reverse, fun _ => True⟩ S1
  | .fz ds => .ok ⟨ds.reverse, fun _ => True⟩ S1
  | .ref n => match getL S1 n with
    | some ds => .ok ⟨ds.reverse, fun S => S[n]? = some (.lst ds)⟩ S1
    | none => .bad
  | _ => .bad
@[simp] theorem ev_rev {m : ME} : mRev m ρ S = (m ρ S).bind kRev := rfl
@[simp] theorem rev_t : kRev (.tup ds) S = .ok ⟨ds.reverse, fun _ => True⟩ S := rfl
def kIter (d : D) (S1 : Store) : R Src := match d with
  | .tup ds => .ok ⟨ds, fun _ => True⟩ S1
  | .fz ds => .ok ⟨ds, fun _ => True⟩ S1
  | .ref n => match getL S1 n with
    | some ds => .ok ⟨ds, fun S => S[n]? = some (.lst ds)⟩ S1
    | none => .bad
  | .str s => .ok ⟨s.cps.toList.map fun c => .str ⟨#[c]⟩, fun _ => True⟩ S1
  | _ => .bad
@[simp] theorem ev_iter {m : ME} : mIter m ρ S = (m ρ S).bind kIter := rfl
@[simp] theorem it_t : kIter (.tup ds) S = .ok ⟨ds, fun _ => True⟩ S := rfl
@[simp] theorem it_f : kIter (.fz ds) S = .ok ⟨ds, fun _ => True⟩ S := rfl
@[simp] theorem it_r : kIter (.ref n) S = match getL S n with | some ds => .ok ⟨ds, fun S => S[n]? = some (.lst ds)⟩ S | none => .bad := rfl
@[simp] theorem it_s {s : Str} : kIter (.str s) S = .ok ⟨s.cps.toList.map fun c => .str ⟨#[c]⟩, fun _ => True⟩ S := rfl
@[simp] theorem ev_lc {vs : List Nat} {mi : MI} {tt : MT} {el : ME} : mLc vs mi tg tt el ρ S = (mi ρ S).bind (kLc vs tg tt el ρ) := rfl
end
/-! on ints -/
section
variable {S : Store} {i j : Int}
@[simp] theorem i_add : bAdd (.int i) (.int j) S = .ok (.int (i + j)) S := rfl
@[simp] theorem i_addI : bAddI (.int i) (.int j) S = .ok (.int (i + j)) S := rfl
@[simp] theorem i_sub : bSub (.int i) (.int j) S = .ok (.int (i - j)) S := rfl
theorem i_mul (h : (i.natAbs < 2 ^ 64 ∨ j.natAbs < 2 ^ 64) ∨ (i.natAbs < 2 ^ 9000 ∧ j.natAbs < 2 ^ 9000)) : bMul (.int i) (.int j) S = .ok (.int (i * j)) S := if_pos h
@[simp] theorem i_mul1 (h : i.natAbs < 2 ^ 64) : bMul (.int i) (.int j) S = .ok (.int (i * j)) S := if_pos (.inl (.inl h))
@[simp] theorem i_mul2 (h : j.natAbs < 2 ^ 64) : bMul (.int i) (.int j) S = .ok (.int (i * j)) S := if_pos (.inl (.inr h))
@[simp] theorem i_mod (h : 0 < j) : bMod (.int i) (.int j) S = .ok (.int (i % j)) S := if_pos h
@[simp] theorem i_div (h : 0 < j) (h2 : j.natAbs ≤ 10 ^ 77) : bDiv (.int i) (.int j) S = .ok (.int (i / j)) S := if_pos ⟨h, Nat.lt_of_le_of_lt h2 (by decide +kernel)⟩
@[simp] theorem i_pow (h : 0 ≤ j) (h1 : j ≤ 1000000) (h2 : i.natAbs < 2 ^ 64) : bPow (.int i) (.int j) S = .ok (.int (i ^ j.toNat)) S := if_pos ⟨h, h1, h2⟩
@[simp] theorem i_eq : bEq (.int i) (.int j) S = .ok (.bl (decide (i = j))) S := rfl
theorem bEq_of {d e : D} {b : Bool} (h : eqD d e = some b) : bEq d e S = .ok (.bl b) S := by unfold bEq; rw [h]
@[simp] theorem i_ne : bNe (.int i) (.int j) S = .ok (.bl (!decide (i = j))) S := rfl
@[simp] theorem i_lt : bLt (.int i) (.int j) S = .ok (.bl (decide (i < j))) S := rfl
@[simp] theorem i_le : bLe (.int i) (.int j) S = .ok (.bl (decide (i ≤ j))) S := rfl
@[simp] theorem i_gt : bGt (.int i) (.int j) S = .ok (.bl (decide (j < i))) S := rfl
@[simp] theorem i_ge : bGe (.int i) (.int j) S = .ok (.bl (decide (j ≤ i))) S := rfl
@[simp] theorem s_eq {a b : Str} : bEq (.str a) (.str b) S = .ok (.bl (decide (a = b))) S := rfl
@[simp] theorem n_is {d : D} : bIsN d .non S = .ok (.bl (isNonD d)) S := by cases d <;> rfl
@[simp] theorem n_isn {d : D} : bNotN d .non S = .ok (.bl (!isNonD d)) S := by cases d <;> rfl
@[simp] theorem nn1 : isNonD .non = true := rfl
@[simp] theorem nn2 : isNonD (.int i) = false := rfl
@[simp] theorem nn3 {ds : List D} : isNonD (.tup ds) = false := rfl
@[simp] theorem nn4 {a : Str} : isNonD (.str a) = false := rfl
@[simp] theorem nn5 {a : Bool} : isNonD (.bl a) = false := rfl
@[simp] theorem f_absI : fAbs [.int i] S = .ok (.int (if i < 0 then -i else i)) S := rfl
@[simp] theorem f_intI : fInt [.int i] S = .ok (.int i) S := rfl
@[simp] theorem f_intB {b : Bool} : fInt [.bl b] S = .ok (.int (if b then 1 else 0)) S := rfl
@[simp] theorem ty_i : tyD S (.int i) = some "int" := rfl
@[simp] theorem ty_b {b : Bool} : tyD S (.bl b) = some "bool" := rfl
@[simp] theorem ty_s {b : Str} : tyD S (.str b) = some "str" := rfl
@[simp] theorem ty_n : tyD S .non = some "NoneType" := rfl
@[simp] theorem ty_t {b : List D} : tyD S (.tup b) = some "tuple" := rfl
@[simp] theorem k_ii : kitB "int" "int" = some true := by decide +kernel
@[simp] theorem k_ib : kitB "int" "bool" = some false := by decide +kernel
@[simp] theorem k_bi : kitB "bool" "int" = some true := by decide +kernel
@[simp] theorem k_bb : kitB "bool" "bool" = some true := by decide +kernel
@[simp] theorem k_it : kitB "int" "tuple" = some false := by decide +kernel
@[simp] theorem k_bt : kitB "bool" "tuple" = some false := by decide +kernel
@[simp] theorem k_st : kitB "str" "tuple" = some false := by decide +kernel
@[simp] theorem k_tt : kitB "tuple" "tuple" = some true := by decide +kernel
@[simp] theorem k_ss : kitB "str" "str" = some true := by decide +kernel
@[simp] theorem k_si : kitB "str" "int" = some false := by decide +kernel
@[simp] theorem k_ni : kitB "NoneType" "int" = some false := by decide +kernel
@[simp] theorem k_ti : kitB "tuple" "int" = some false := by decide +kernel
@[simp] theorem k_lt : kitB "list" "tuple" = some false := by decide +kernel
@[simp] theorem k_ns : kitB "NoneType" "str" = some false := by decide +kernel
@[simp] theorem k_nt : kitB "NoneType" "tuple" = some false := by decide +kernel
@[simp] theorem k_is : kitB "int" "str" = some false := by decide +kernel
@[simp] theorem k_bs : kitB "bool" "str" = some false := by decide +kernel
@[simp] theorem k_ts : kitB "tuple" "str" = some false := by decide +kernel
@[simp] theorem k_tl : kitB "tuple" "list" = some false := by decide +kernel
@[simp] theorem k_ll : kitB "list" "list" = some true := by decide +kernel
@[simp] theorem tr_i : truD (.int i) S = some (i != 0) := rfl
@[simp] theorem tr_b {b : Bool} : truD (.bl b) S = some b := rfl
@[simp] theorem tr_n : truD .non S = some false := rfl
@[simp] theorem tr_t {b : List D} : truD (.tup b) S = some (!b.isEmpty) := rfl
end
@[simp] theorem ev_excF {fn : List Str} {c i : Nat} {f : Str} {ρ : Rho} {S : Store} : mExcF fn c i f ρ S = match ρ[i]? with
  | some (.exc c' es) => if c' = c then (match (fn.zip es).lookup f with
    | some d => .ok d S
    | none => .bad) else .bad
  | _ => .bad := rfl
@[simp] theorem ev_excIs {n i : Nat} {b : Bool} {ρ : Rho} {S : Store} : mExcIs n i b ρ S = match ρ[i]? with
  | some (.exc c _) => if c = n then .ok (.bl b) S else .bad
  | _ => .bad := rfl
/-! the store -/
section
variable {S T J : Store} {o p : O} {n k : Nat} {d : D} {l : List D}
@[simp] theorem st_get0 : getL (S ++ .lst l :: J) S.length = some l := by unfold getL; simp
@[simp] theorem st_getk : getL (S ++ T) (S.length + k) = getL T k := by unfold getL; rw [List.getElem?_append_right (by omega), Nat.add_sub_cancel_left]
@[simp] theorem st_ix0 : (S ++ o :: J)[S.length]? = some o := by simp
@[simp] theorem st_ixk : (S ++ T)[S.length + k]? = T[k]? := by rw [List.getElem?_append_right (by omega), Nat.add_sub_cancel_left]
@[simp] theorem st_set0 : (S ++ o :: J).set S.length p = S ++ p :: J := by simp
@[simp] theorem st_setk : (S ++ T).set (S.length + k) p = S ++ T.set k p := by rw [List.set_append_right _ _ (by omega), Nat.add_sub_cancel_left]
theorem get_lt {l : List D} (h : getL S n = some l) : n < S.length := (List.getElem?_eq_some_iff.mp (getL_some h)).1
@[simp] theorem get_app (h : n < S.length) : getL (S ++ T) n = getL S n := by unfold getL; rw [List.getElem?_append_left h]
@[simp] theorem get_set (h : n < S.length) : getL (S.set n (.lst l)) n = some l := by unfold getL; rw [List.getElem?_set_self h]
@[simp] theorem get_c0 : getL (.lst l :: J) 0 = some l := rfl
@[simp] theorem get_c1 : getL (o :: J) (n + 1) = getL J n := rfl
theorem set_same {l : List D} (h : getL S n = some l) : S.set n (.lst l) = S := by
  apply List.ext_getElem?
  intro i
  by_cases e : n = i
  · subst e; rw [List.getElem?_set_self (get_lt h), getL_some h]
  · rw [List.getElem?_set_ne e]
def kRng1 (ds : List D) (S : Store) : R Src := match ds with
  | [.int n] => if n.natAbs ≤ 16777216 then .ok ⟨(List.range n.toNat).map fun (i : Nat) => .int (i : Int), fun _ => True⟩ S else .bad
  | _ => .bad
@[simp] theorem ev_rng1 {mas : MA} {ρ : Rho} : mRng1 mas ρ S = (mas ρ S).bind kRng1 := rfl
@[simp] theorem k_rngN {k : Nat} (h : k ≤ 16777216) : kRng1 [.int (k : Int)] S = .ok ⟨(List.range k).map fun (i : Nat) => .int (i : Int), fun _ => True⟩ S := if_pos h
@[simp] theorem k_rng {i : Int} (h0 : 0 ≤ i) (h : i ≤ 16777216) : kRng1 [.int i] S = .ok ⟨(List.range i.toNat).map fun (i : Nat) => .int (i : Int), fun _ => True⟩ S := if_pos (by omega)
@[simp] theorem ev_for {mi : MI} {t : Tgt} {b : MS} {ρ : Rho} : mFor mi t b ρ S = (mi ρ S).stm ρ (kFor t b ρ) := rfl
@[simp] theorem recv_l {n : Nat} : recvD "list" S (.ref n) = (getL S n).isSome := by
  unfold recvD getL
  dsimp only
  cases h : S[n]? with
  | none => simp [h]
  | some o => cases o <;> simp [h]
@[simp] theorem gcF_eq {f : MF} {ds : List D} : gcF f ds S = gcR S (f ds S) := rfl
@[simp] theorem gc_ap {J : Store} {d : D} (b : Bel S.length d) : gcR S (.ok d (S ++ J)) = .ok d S := gc_app b
@[simp] theorem bel_i {i : Int} : Bel n (.int i) := by unfold Bel; trivial
@[simp] theorem bel_b {i : Bool} : Bel n (.bl i) := by unfold Bel; trivial
@[simp] theorem bel_s {i : Str} : Bel n (.str i) := by unfold Bel; trivial
@[simp] theorem bel_n : Bel n .non := by unfold Bel; trivial
@[simp] theorem bel_t {l : List D} : Bel n (.tup l) = BelL n l := by unfold Bel; rfl
@[simp] theorem belL_n : BelL n [] := by unfold BelL; trivial
@[simp] theorem belL_c {l : List D} : BelL n (d :: l) = (Bel n d ∧ BelL n l) := by rw [BelL]
@[simp] theorem belL_app {m : List D} : ∀ {l : List D}, BelL n (l ++ m) ↔ BelL n l ∧ BelL n m
  | [] => by simp
  | x :: l => by rw [List.cons_append, belL_c, belL_c, belL_app (l := l), and_assoc]
@[simp] theorem belL_ints : ∀ {l : List Int}, BelL n (l.map .int)
  | [] => belL_n
  | x :: l => by rw [List.map_cons, belL_c]; exact ⟨bel_i, belL_ints⟩
@[simp] theorem belO_l {l : List D} : BelO n (.lst l) = BelL n l := by unfold BelO; rfl
@[simp] theorem gc_self {d : D} (b : Bel S.length d) : gcR S (.ok d S) = .ok d S := gc_same b
theorem gc_set {d : D} {o : O} (b : Bel S.length d) (h : BelO S.length o) : gcR S (.ok d (S.set n o)) = .ok d (S.set n o) := by
  rw [gc_ok ⟨by simp, fun i hi => ?_⟩ b]
  · rw [show S.length = (S.set n o).length by simp, List.take_length]
  · by_cases e : n = i
    · subst e; exact .inr ⟨o, by rw [List.getElem?_set_self hi], h⟩
    · exact .inl (by rw [List.getElem?_set_ne e])
@[simp] theorem gc_e {c : Nat} {es : List D} {J : Store} (b : BelL S.length es) : gcR S (.err c es (S ++ J)) = .err c es S := by rw [gc_err cl_app b, List.take_left]
@[simp] theorem gc_e0 {c : Nat} {es : List D} (b : BelL S.length es) : gcR S (.err c es S) = .err c es S := by rw [gc_err cl_refl b, List.take_length]
theorem x_at {l : List D} {i : Int} {x : D} (h0 : 0 ≤ i) (h : l[i.toNat]? = some x) : atI l i = some x := by
  have hl := (List.getElem?_eq_some_iff.mp h).1
  unfold atI ixN
  rw [if_pos h0, if_pos (by omega)]
  exact h
theorem ixn_at {k : Nat} {i : Int} (h0 : 0 ≤ i) (h : i < k) : ixN k i = some i.toNat := by unfold ixN; rw [if_pos h0, if_pos h]
@[simp] theorem x_0 {x : D} {l : List D} : atI (x :: l) 0 = some x := x_at (by decide) rfl
@[simp] theorem x_1 {x y : D} {l : List D} : atI (x :: y :: l) 1 = some y := x_at (by decide) rfl
@[simp] theorem x_2 {x y z : D} {l : List D} : atI (x :: y :: z :: l) 2 = some z := x_at (by decide) rfl
@[simp] theorem x_3 {x y z w : D} {l : List D} : atI (x :: y :: z :: w :: l) 3 = some w := x_at (by decide) rfl
@[simp] theorem ixn_0 {k : Nat} : ixN (k + 1) 0 = some 0 := ixn_at (by decide) (by omega)
@[simp] theorem ixn_1 {k : Nat} : ixN (k + 1 + 1) 1 = some 1 := ixn_at (by decide) (by omega)
@[simp] theorem ixn_2 {k : Nat} : ixN (k + 1 + 1 + 1) 2 = some 2 := ixn_at (by decide) (by omega)
@[simp] theorem bix_t {l : List D} {i : Int} : bIx (.tup l) (.int i) S = match atI l i with | some z => .ok z S | none => .bad := rfl
@[simp] theorem bix_f {l : List D} {i : Int} : bIx (.fz l) (.int i) S = match atI l i with | some z => .ok z S | none => .bad := rfl
@[simp] theorem bix_r {i : Int} : bIx (.ref n) (.int i) S = match getL S n with | some l => (match atI l i with | some z => .ok z S | none => .bad) | none => .bad := rfl
@[simp] theorem len_t {l : List D} : fLen [.tup l] S = .ok (.int l.length) S := rfl
@[simp] theorem len_f {l : List D} : fLen [.fz l] S = .ok (.int l.length) S := rfl
@[simp] theorem len_r : fLen [.ref n] S = match getL S n with | some l => .ok (.int l.length) S | none => .bad := rfl
@[simp] theorem tup_t {l : List D} : fTup [.tup l] S = .ok (.tup l) S := rfl
@[simp] theorem tup_r : fTup [.ref n] S = match getL S n with | some l => .ok (.tup l) S | none => .bad := rfl
@[simp] theorem tup_f {l : List D} : fTup [.fz l] S = .ok (.tup l) S := rfl
@[simp] theorem set_d {i : Int} : setD (.ref n) (.int i) d S = match getL S n with | some ds => (match ixN ds.length i with | some j => some (S.set n (.lst (ds.set j d))) | none => none) | none => none := rfl
@[simp] theorem add_l {m : Nat} : bAdd (.ref n) (.ref m) S = match getL S n, getL S m with | some xs, some ys => if xs.length + ys.length ≤ 16777216 then .ok (.ref S.length) (S ++ [.lst (xs ++ ys)]) else .bad | _, _ => .bad := rfl
@[simp] theorem add_t {xs ys : List D} : bAdd (.tup xs) (.tup ys) S = if xs.length + ys.length ≤ 16777216 then .ok (.tup (xs ++ ys)) S else .bad := rfl
@[simp] theorem app_r : fAppend (.ref n) [d] S = match getL S n with | some l => if l.length < 16777216 then .ok .non (S.set n (.lst (l ++ [d]))) else .bad | none => .bad := rfl
@[simp] theorem ext_t {r : List D} : fExtend (.ref n) [.tup r] S = match getL S n with | some l => if l.length + r.length ≤ 16777216 then .ok .non (S.set n (.lst (l ++ r))) else .bad | none => .bad := rfl
@[simp] theorem ext_r {m : Nat} : fExtend (.ref n) [.ref m] S = match getL S n, getL S m with | some l, some r => if l.length + r.length ≤ 16777216 then .ok .non (S.set n (.lst (l ++ r))) else .bad | _, _ => .bad := rfl
@[simp] theorem pop_r : fPop (.ref n) [] S = match getL S n with | some l => (match l[l.length - 1]? with | some y => .ok y (S.set n (.lst l.dropLast)) | none => .bad) | none => .bad := rfl
@[simp] theorem tr_r : truD (.ref n) S = match S[n]? with | some (.lst ds) => some (!ds.isEmpty) | some (.dct kvs) => some (!kvs.isEmpty) | _ => none := by
  first
    | rfl
    | (unfold truD
       dsimp only
       cases h : S[n]? with
       | none => rfl
       | some o => cases o <;> rfl)
@[simp] theorem ev_gT {k : Nat} {u : Tgts} {l : List D} {ρ : Rho} : gT k u (.tup l) ρ S = if l.length = k then u l ρ S else none := by rfl
@[simp] theorem ev_gsc {t : Tgt} {u : Tgts} {l : List D} {ρ : Rho} : gsCons t u (d :: l) ρ S = (t d ρ S).bind fun ρ' => u l ρ' S := by
  unfold gsCons; rfl
@[simp] theorem ev_gsn {ρ : Rho} : gsNil [] ρ S = some ρ := rfl
theorem gc_top {b : Bool} {S' : Store} : gcR [] (.ok (.bl b) S') = .ok (.bl b) [] := by
  rw [gc_ok ⟨Nat.zero_le _, fun i hi => absurd hi (Nat.not_lt_zero _)⟩ bel_b]; rfl
theorem lc_pure {tg : Tgt} {el : ME} {n : Nat} {ρ : Rho} (f : D → D) : ∀ (ds acc : List D) (S : Store), (∀ d ∈ ds, ∀ S, ∃ ρ1, tg d ρ S = some ρ1 ∧ el ρ1 S = .ok (f d) S) → getL S n = some acc → acc.length + ds.length ≤ 16777216 →
    lcItems (fun _ => True) tg mYes el n ρ ds S = .ok (.ref n) (S.set n (.lst (acc ++ ds.map f)))
  | [], acc, S, _, g, _ => by
    rw [lcItems, if_pos trivial, List.map_nil, List.append_nil, set_same g]
  | d :: ds, acc, S, h, g, hl => by
    obtain ⟨ρ1, h1, h2⟩ := h d List.mem_cons_self S
    have hl2 : acc.length < 16777216 := by rw [List.length_cons] at hl; omega
    rw [lcItems, if_pos trivial, h1]
    simp only [ev_yes, h2, g, if_pos hl2]
    rw [lc_pure f ds (acc ++ [f d]) (S.set n (.lst (acc ++ [f d]))) (fun x hx => h x (List.mem_cons_of_mem _ hx)) (get_set (get_lt g)) (by rw [List.length_append, List.length_cons, List.length_nil]; rw [List.length_cons] at hl; omega), List.set_set, List.map_cons, List.append_assoc]
    rfl
theorem lc_guard {P : Store → Prop} {tg : Tgt} {el : ME} {n : Nat} {ρ : Rho} (f : D → D) (hP : ∀ S l, P S → P (S.set n (.lst l))) : ∀ (ds acc : List D) (S : Store), P S → (∀ d ∈ ds, ∀ S, ∃ ρ1, tg d ρ S = some ρ1 ∧ el ρ1 S = .ok (f d) S) → getL S n = some acc → acc.length + ds.length ≤ 16777216 →
    lcItems P tg mYes el n ρ ds S = .ok (.ref n) (S.set n (.lst (acc ++ ds.map f)))
  | [], acc, S, p, _, g, _ => by
    rw [lcItems, if_pos p, List.map_nil, List.append_nil, set_same g]
  | d :: ds, acc, S, p, h, g, hl => by
    obtain ⟨ρ1, h1, h2⟩ := h d List.mem_cons_self S
    have hl2 : acc.length < 16777216 := by rw [List.length_cons] at hl; omega
    rw [lcItems, if_pos p, h1]
    simp only [ev_yes, h2, g, if_pos hl2]
    rw [lc_guard f hP ds (acc ++ [f d]) (S.set n (.lst (acc ++ [f d]))) (hP _ _ p) (fun x hx => h x (List.mem_cons_of_mem _ hx)) (get_set (get_lt g)) (by rw [List.length_append, List.length_cons, List.length_nil]; rw [List.length_cons] at hl; omega), List.set_set, List.map_cons, List.append_assoc]
    rfl
end
end FL
end

section
set_option autoImplicit false
/-! defs that never raise, called within a suite -/
namespace FL
open PySem L2 PyProof.Rows
def noX : XK := fun _ _ _ => False
structure FnQ (P : Program) (w : World) (K : PySem.W.Frag) (mg : Str → Option Value) (base : Heap) (k : Nat) (f : Addr) (fd : FuncData) (ps : List Str) (sp : Sp) : Prop where
  len : ∀ vs H Q, sp vs H Q noX → vs.length = ps.length
  run : ∀ (A : Around) (outer : List Env) (s : Shared) (H : Hp) (args : Args) (us : List Value) (vs : List V) (Q : VK), L2H.RoomH k A → Env0 P w K mg base A outer s H → BindsTo s fd args (ps.zip us) → Vals vs us → sp vs H Q noX →
    codeAny (model P w) A (.call (.ref f) args) (CR (L2N.CX P w) outer P w H s Q noX) s
def cxQ (P : Program) (w : World) (K : PySem.W.Frag) (mg : Str → Option Value) (base : Heap) (N : List Str) (qual : Str) (scope : Scope) (f : Addr) (cd : Value) (A : Around) (outer : List Env) (s : Shared) (H : Hp) : Cx :=
  { cxOf (L2N.CX P w) P w K mg base N qual scope f cd A outer s H noX with calm := false }
theorem inv_startQ {P : Program} {w : World} {K : PySem.W.Frag} {mg : Str → Option Value} {base : Heap} {N ps : List Str} {qual : Str} {scope : Scope} {f : Addr} {cd : Value} {A : Around} {outer : List Env} {s s1 : Shared} {H : Hp} {us : List Value} {vs : List V}
    (S : FnScope N ps scope) (e0 : Env0 P w K mg base A outer s H) (hl : vs.length = ps.length) (r : Vals vs us)
    (xc : InCallC s s.heap.objs.size (bindL (envOfC qual scope s.heap.objs.size f cd).kindOf (ps.zip us) fun _ => none) (cellsFrom (s.heap.objs.size + 1) scope.names []) (bindC (envOfC qual scope s.heap.objs.size f cd).kindOf (ps.zip us) fun _ => none) s1) :
    Inv (cxQ P w K mg base N qual scope f cd A outer s H) [] (L2.start N vs) H s1 := by
  have e1 : Env0 P w K mg base { A with handled := none } outer s H := ⟨e0.frames, e0.mod, e0.bs, e0.bsz, e0.funs, e0.frf, e0.hok, e0.bare⟩
  have J : Inv (cxOf (L2N.CX P w) P w K mg base N qual scope f cd { A with handled := none } outer s H noX) [] (L2.start N vs) H s1 := inv_start (A := { A with handled := none }) S rfl e1 hl r xc
  have O : (cxQ P w K mg base N qual scope f cd A outer s H).Ok := ⟨J.ok.mod, J.ok.kind, J.ok.glob, J.ok.blt, J.ok.above, J.ok.inj, J.ok.has, J.ok.cab, (fun z => Bool.noConfusion (show false = true from z)), Around.frames_deeper e0.frames, J.ok.stk, J.ok.exf, J.ok.bs, J.ok.bsz, J.ok.noex, J.ok.exfs, J.ok.funs, J.ok.frf⟩
  exact ⟨O, J.os, J.bare, J.base, J.loc, J.cell, J.free, J.freeC, J.pin, J.hok, J.len⟩
section
variable {P : Program} {w : World} {mg : Str → Option Value} {base : Heap} {g : G}
/-- THE RULE for a def that never raises -/
theorem fn_okQ {x qual : Str} {st : Stmt} {f : Addr} {fd : FuncData} {N ps : List Str} {k : Nat} {ms : MS} (F : Fun g.K x qual st f fd) (Sc : FnScope N ps (defScope st))
    (h : ∀ (cdv : Value) (A : Around) (outer : List Env) (s : Shared) (H : Hp), L2H.RoomH k (A.deeper (envOfC qual (defScope st) s.heap.objs.size f cdv)) → FSs (cxQ P w g.K mg base N qual (defScope st) f cdv A outer s H) g none W0 (defBody st) ms) :
    FnQ P w g.K mg base (k + 1) f fd ps (spM g ps.length (mFn N.length ms)) := by
  obtain ⟨o1, o2, o3, o4, o5, o6, cdv, o7, o8, rfl, lk, hcd⟩ := F.ex
  have len : ∀ vs H Q, spM g ps.length (mFn N.length ms) vs H Q noX → vs.length = ps.length := fun vs H Q ⟨As, ds, S, h1, _, h2, _⟩ => by rw [← h1.len, h2]
  refine ⟨len, fun A outer s H args us vs Q hr e0 hb r hsp => ?_⟩
  have hl := len _ _ _ hsp
  have KX : g.K.In s.heap := e0.mod.kin.keeps fun b o e => (e0.bs b o e).1
  have lm : s.heap.NoLimit := e0.mod.nolimit.keeps fun b o e => (e0.bs b o e).1
  have kinds : ∀ z ∈ ps.zip us, (defScope st).names.lookup z.1 = some .local ∨ ((defScope st).names.lookup z.1 = some .cell ∧ ((cellsFrom (s.heap.objs.size + 1) (defScope st).names []).lookup z.1).isSome = true) := fun ⟨n, v⟩ hz => by
    rcases Sc.par n (List.of_mem_zip hz).1 with q | q
    · exact .inl q
    · exact Or.inr ⟨q, PySem.W.cellsFrom_some _ _ _ (Or.inl q)⟩
  refine codeAny_call_function hr.depth (KX _ _ lk) rfl Sc.co Sc.gen rfl (PySem.W.codeRec_of KX hcd) (hb _ _ _ _ ?_)
  refine wpAny_newFunctionEnv_cells Sc.kind kinds fun env he s1 x => ?_
  subst he
  refine ⟨lm.keeps x.toInCall.keep, codeAny_func ?_⟩
  obtain ⟨As, ds, S, i1, i2, i3, i4⟩ := hsp
  obtain ⟨_, t, pt, sn⟩ := (h cdv A outer s H (hr.deeper _)).ex
  have I : Inv (cxQ P w g.K mg base N qual (defScope st) f cdv A outer s H) [] (L2.start N vs) H s1 := inv_startQ Sc e0 hl r x
  have hq : t { nx := fun _ H' => Q .non H', rt := Q } (L2.start N vs) H := by
    refine sn _ H As (rho0 N.length ds) S (env0 i1) i2 _ ?_
    unfold mFn at i4
    cases r : ms (rho0 N.length ds) S with
    | nx ρ' S' => rw [r] at i4; exact fun σ' H' As' e st1 _ => i4 .non H' As' e st1 .non
    | rt d S' => rw [r] at i4; exact i4
    | err c es ρ' S' => rw [r] at i4; exact fun σ' dd H' As' e st1 _ x => i4 dd H' As' e st1 x
    | bk ρ' S' => rw [r] at i4; exact i4.elim
    | ct ρ' S' => rw [r] at i4; exact i4.elim
    | bad => rw [r] at i4; exact i4.elim
  refine wpAny_mono (pt.run [] s1 (L2.start N vs) H _ I hq) (fun fl s' hs => ?_) fun e s' hs => hs
  have done : ∀ {σ' : L2.St} {H' : Hp} {v : V} {u : Value}, Inv (cxQ P w g.K mg base N qual (defScope st) f cdv A outer s H) [] σ' H' s' → RelV v u → Q v H' → CE outer P w H s Q u s' :=
    fun {σ' H' v u} J rv hq => ⟨v, H', J.os, J.bare, J.base, J.hok, rv, hq⟩
  cases fl with
  | ret u => obtain ⟨v, σ', H', J, rv, q⟩ := hs; exact done J rv q
  | next => obtain ⟨σ', H', J, q⟩ := hs; exact done (v := V.non) (u := Value.none) J rfl q
  | brk => obtain ⟨_, _, _, q⟩ := hs; exact q.elim
  | cont => obtain ⟨_, _, _, q⟩ := hs; exact q.elim
theorem fn_gcQ {f : Addr} {fd : FuncData} {ps : List Str} {k n : Nat} {mf : MF} (F : FnQ P w g.K mg base k f fd ps (spM g n mf)) : FnQ P w g.K mg base k f fd ps (spM g n (gcF mf)) := by
  have im : ∀ vs H Q, spM g n (gcF mf) vs H Q noX → spM g n mf vs H Q noX := fun vs H Q ⟨As, ds, S, h1, h2, h3, h4⟩ => ⟨As, ds, S, h1, h2, h3, ?_⟩
  · exact ⟨fun vs H Q h => F.len vs H Q (im _ _ _ h), fun A outer s H args us vs Q hr e0 hb r h => F.run A outer s H args us vs Q hr e0 hb r (im _ _ _ h)⟩
  · have z := Post.gc (W := fun c d _ H => noX c d H) (σ := []) (Q := Q) (r := mf ds S) h2 (by
      unfold gcF at h4
      cases r : gcR S (mf ds S) with
      | ok d S' => rw [r] at h4; exact h4
      | err c es S' => rw [r] at h4; exact h4
      | bad => rw [r] at h4; exact h4)
    cases r : mf ds S with
    | ok d S' => rw [r] at z; exact z
    | err c es S' => rw [r] at z; exact z
    | bad => rw [r] at z; exact z
end
section
variable {X : Cx} {g : G} {hx : HX} {a b c e : Expr} {pos : Pos} {es : List Expr} {mas : MA}
theorem roomQ {k j : Nat} {A : Around} (r : Room k A) (h : j ≤ k) : L2H.RoomH j A := (L2H.roomH_of r).mono h
theorem unitsH {k : Nat} {A : Around} (r : L2H.RoomH k A) : A.units + 64 < cLine := by have := r.un; omega
theorem roomS {k j : Nat} {A A' : Around} (r : Room k A) (h : j ≤ k) (h1 : A'.depth = A.depth) (h2 : A'.units = A.units) : L2H.RoomH j A' := ⟨by rw [h1]; exact ((L2H.roomH_of r).mono h).dp, by rw [h2]; exact ((L2H.roomH_of r).mono h).un⟩
theorem fe_callQ {f : Addr} {fd : FuncData} {ps : List Str} {k n : Nat} {mf : MF} {x : Str} {p : Pos} (F : FnQ X.prog X.w g.K X.mg X.base k f fd ps (spM g n mf)) (hr : L2H.RoomH k X.A) (hm : X.mg x = some (.ref f)) (hk : PySem.W.keepIn g.K (.ref f) = true) (hb : Binds g.K fd ps [])
    (ha : FA X g hx W0 (e :: es) mas) (hn : ∀ ρ S ds S', mas ρ S = .ok ds S' → ds.length = n) (hg : Gl X x := by rfl) (hdb : (x == ("__debug__" : Str)) = false := by decide) (he : starEach (e :: es) X.env = (false, eval e X.env) :: starEach es X.env := by rfl) (hpl : (backTo pos (starEach es X.env)).any (·.1) = false := by rfl) :
    FE X g hx W0 (.Call (.Name x p) (e :: es) [] pos) (mCB mf mas) := by
  obtain ⟨hK, t, pa, s⟩ := ha.ex
  have F2 : FnQ X.prog X.w X.K X.mg X.base k f fd ps (spM g n mf) := by rw [hK]; exact F
  have hk2 : PySem.W.keepIn X.K (.ref f) = true := by rw [hK]; exact hk
  have hb2 : Binds X.K fd ps [] := by rw [hK]; exact hb
  refine ⟨hK, fun σ H Q => t σ H fun vs H1 => spM g n mf vs H1 Q noX, ⟨fun pins s σ H Q I h => ?_⟩, fun σ H As ρ S he hs Q hp => ?_⟩
  · refine wpAny_Call_Name_kw (ld_glob I hg hm ?_ hdb)
    refine PySem.W.callWith_K (h₀ := X.base) I.ok.mod.kin hk2 (thn (pa.run pos pins s σ H _ I h) fun us s1 ⟨vs, H1, I1, r, q⟩ => ⟨I1.kIn, ?_⟩) he hpl
    have hl : us.length = ps.length := by rw [← r.length]; exact F2.len _ _ _ q
    have bb := hb2 s1 us I1.kIn (by rw [List.append_nil]; exact hl)
    rw [List.append_nil] at bb
    refine wpAny_call (codeAny_mono (F2.run X.A X.stack s1 H1 ⟨us, []⟩ us vs Q hr I1.env0 bb r q) fun r s' hq => ?_)
    cases r with
    | error e =>
      obtain ⟨_, _, _, _, _, _, _, _, _, _, _, _, z⟩ := hq
      exact z.elim
    | ok fl =>
      cases fl with
      | ret u => exact I1.after hq
      | next => exact hq.elim
      | brk => exact hq.elim
      | cont => exact hq.elim
  · unfold mCB at hp
    cases r : mas ρ S with
    | err c es' S' => rw [r] at hp; exact s σ H As ρ S he hs _ (by rw [r]; exact hp)
    | bad => rw [r] at hp; exact hp.elim
    | ok ds S1 =>
      rw [r] at hp
      refine s σ H As ρ S he hs _ ?_
      rw [r]
      intro vs H1 As1 e1 s1 i1
      refine ⟨As1, ds, S1, i1, s1, hn ρ S ds S1 r, ?_⟩
      have hp2 := Post.up hp e1
      rw [bind_ok] at hp2
      cases q : mf ds S1 with
      | ok d S' => rw [q] at hp2; exact hp2
      | err c es' S' => rw [q] at hp2; exact hp2
      | bad => rw [q] at hp2; exact hp2
end
end FL
end

section
set_option autoImplicit false
/-! enumerate over a tuple, a text -/
namespace PySem
theorem fl_enumNew {v : Value} {o : Obj} {Hs : Heap → Prop} (B : Begins v o Hs) :
    Meets (Builtin.«enumerate.__new__» ⟨[.type "enumerate", v], []⟩) (fun _ R s => Hs s.heap ∧
      R (.ok (.ret (.ref (s.heap.push o).objs.size))) { s with heap := (s.heap.push o).push { cls := .type "enumerate", data := .fields #[.none, .bool false, .ref s.heap.objs.size, rawInt 0, .none, .none] } }) :=
  .of_wp fun prog w A R s hh => by
    obtain ⟨hp, gg, dd, tk, os⟩ := s
    obtain ⟨hb, hr⟩ := hh
    have hsub := sub_enumerate
    have qq : ∀ {A2 : Around} {E2 : Value → Shared → Prop} {Q2 : Value → Shared → Prop}, Q2 (.ref hp.objs.size) ⟨hp.push o, gg, dd, tk, os⟩ → wpAny (model prog w) A2 (pyIter v) Q2 E2 ⟨hp, gg, dd, tk, os⟩ :=
      fun z => B.iter prog w _ _ ⟨hp, gg, dd, tk, os⟩ _ hb z
    wp_walk using qq
    refine wpAny_stack_any fun _ => wpAny_pure ?_
    split
    · rename_i c _ _ _ _ _
      cases (c == Value.type "enumerate") <;> (wp_walk using qq; exact ⟨_, rfl, hr⟩)
    · wp_walk using qq
      exact ⟨_, rfl, hr⟩
theorem fl_enum {prog : Program} {w : World} {A : Around} {E : Value → Shared → Prop} {s : Shared} {v : Value} {o : Obj} {Hs : Heap → Prop} {Q : Value → Shared → Prop} (B : Begins v o Hs) (hb : Hs s.heap)
    (h : ∀ h2, IsEnum h2 (s.heap.objs.size + 1) s.heap.objs.size 0 .none → h2.get? s.heap.objs.size = some o → (∀ b u, s.heap.get? b = some u → h2.get? b = some u) → Q (.ref (s.heap.objs.size + 1)) { s with heap := h2 }) :
    wpAny (model prog w) A (call (.type "enumerate") [v]) Q E s := by
  have hz : (s.heap.push o).objs.size = Nat.succ s.heap.objs.size := Heap.size_push ..
  refine callType_new F.called_enumerate (by decide) (F.typeCall_enumerate_1 _) (F.newCall_enumerate_1 _) (fun x => F.args_object_init_2 x _) F.entry_enumerate_new (fl_enumNew B) ⟨hb, ?_⟩
  show _ ∧ _
  have he : IsEnum ((s.heap.push o).push { cls := .type "enumerate", data := .fields #[.none, .bool false, .ref s.heap.objs.size, rawInt 0, .none, .none] }) (s.heap.objs.size + 1) s.heap.objs.size 0 .none := by
    have z := Heap.get?_push_size (s.heap.push o) (o := { cls := .type "enumerate", data := .fields #[.none, .bool false, .ref s.heap.objs.size, rawInt 0, .none, .none] }) rfl
    rw [hz] at z
    exact z
  rw [hz]
  exact ⟨⟨_, he, rfl⟩, h _ he (Heap.get?_push_of_some _ (Heap.get?_push_size _ B.free)) fun b u x => Heap.get?_push_of_some _ (Heap.get?_push_of_some _ x)⟩
end PySem
namespace FL
open PySem L2 PyProof.Rows
/-- the pairs of a source: its items are told by row -/
def ItEn (src : Hp → Prop) (row : Nat → V → Hp → Prop) (n : Nat) : It :=
  ⟨fun i H => i < n ∧ src H, fun i H v H' => ∃ T x, v = .ref T ∧ H T = none ∧ H' = upd H T (.tup [.int (i : Nat), x]) ∧ row i x H, fun i H => i = n ∧ src H⟩
theorem en_turn {P : Program} {w : World} {K : PySem.W.Frag} {elts : List Expr} {kk : Nat} {tpos : Pos} (e it : Addr) (St0 : Nat → Heap → Prop) (src : Hp → Prop) (row : Nat → V → Hp → Prop) (n : Nat)
    (hcell : ∀ i h, St0 i h → ∃ o, h.get? it = some o ∧ ∀ v, o.data ≠ .cell v) (hat : ∀ i h h', St0 i h → (∀ o, h.get? it = some o → h'.get? it = some o) → St0 i h')
    (hD : ∀ (X : Cx), X.prog = P → X.w = w → X.K = K → X.calm = true → ∀ (pins : List (Addr × Obj)) (s : Shared) (σ : L2.St) (H : Hp), Inv X pins σ H s → src H → ∃ (fp : List Addr) (Pv : Nat → Value → Prop) (St : Nat → Heap → Prop), Draws P w X.A.in1 it fp n Pv St ∧
      (∀ i, St0 i s.heap → St i s.heap) ∧ (∀ i h, St i h → St0 i h) ∧ (∀ b ∈ fp, ∀ old i, St0 i s.heap → IsEnum s.heap e it i old → b ≠ e) ∧ ∀ i x, i < n → Pv i x → ∃ v, row i v H ∧ RelV v x) :
    Turn P w K (.Tuple elts kk tpos) (ItEn src row n) [e, it] e (fun i h => (∃ old, IsEnum h e it ((i : Nat) : Int) old) ∧ St0 i h ∧ e ≠ it) where
  mem := List.mem_cons_self
  obj := fun i h ⟨⟨old, he⟩, hs, _⟩ b hb => by
    rcases List.mem_cons.mp hb with hb | hb
    · subst hb; exact ⟨_, he, fun v q => nomatch q⟩
    · rw [List.mem_singleton.mp hb]; exact hcell i h hs
  keep := fun i h h' ⟨⟨old, he⟩, hs, hne⟩ k => ⟨⟨old, k e List.mem_cons_self _ he⟩, hat i h h' hs fun o q => k it (List.mem_cons_of_mem _ List.mem_cons_self) o q, hne⟩
  item := by
    intro X hP hw hK hc i pins s σ H E I hf st ⟨hi, hsrc⟩
    subst hP hw hK
    obtain ⟨⟨old, he⟩, h0, hne⟩ := st
    obtain ⟨fp, Pv, St, D, hin, hout, hfp, hrow⟩ := hD X rfl rfl rfl hc pins s σ H I hsrc
    have hef : e ∉ fp := fun m => hfp e m old i h0 he rfl
    have hel : e < s.heap.objs.size := by exact Heap.lt_size he
    have hil : it < s.heap.objs.size := by obtain ⟨o, q, _⟩ := hcell i _ h0; exact Heap.lt_size q
    refine wpAny_pyNext_enum_itemD D he (hin i h0) hi hne hef fun x h1 tk hP ho hs1 hT hsz hk => ?_
    refine ⟨_, rfl, wpAny_letOwnedTupleGo_enum (s := { s with heap := h1, toks := tk + 1 }) ho fun h2 he2 sb => ?_⟩
    obtain ⟨v, rv, rx⟩ := hrow i x hi hP
    have hT2 : h2.get? s.heap.objs.size = some { cls := .type "tuple", data := .seq #[.int i tk, x] } := (sb.2 _ (Nat.ne_of_gt hel)).trans hT
    have hnew : H s.heap.objs.size = none := I.hok.fresh (Nat.le_refl _)
    have new : ObjOk X.prog X.w (upd H s.heap.objs.size (.tup [.int (i : Nat), v])) h2 s.heap.objs.size (.tup [.int (i : Nat), v]) :=
      ⟨by show 2 ≤ sizeLine; decide, [.int i tk, x], .cons ⟨_, rfl⟩ (.cons rx .nil), ⟨_, hT2, rfl, _, rfl⟩⟩
    have I1 : Inv X pins σ (upd H s.heap.objs.size (.tup [.int (i : Nat), v])) { s with heap := h2, toks := tk + 1 } :=
      I.turnedNew (ch := [e, it]) (fun b ob hb q => by
        have h1 : b ≠ e := fun z => hb (by rw [z]; exact List.mem_cons_self)
        have h2 : b ≠ it := fun z => hb (by rw [z]; exact List.mem_cons_of_mem _ List.mem_cons_self)
        exact (sb.2 b h1).trans (hk b ob h1 h2 q)) hf (Nat.le_refl _) new
    refine ⟨.ref s.heap.objs.size, _, I1, rfl, ⟨_, v, rfl, hnew, rfl, rv⟩, ⟨⟨x, ?_⟩, hat _ _ _ (hout _ _ hs1) (fun o q => (sb.2 it (Ne.symm hne)).trans q), hne⟩, fun b hb => ?_⟩
    · have up1 : ((i + 1 : Nat) : Int) = (i : Int) + 1 := by omega
      rw [up1]
      exact he2
    · have hlt : b < s.heap.objs.size := by
        rcases List.mem_cons.mp hb with hb | hb
        · subst hb; exact hel
        · rw [List.mem_singleton.mp hb]; exact hil
      rw [upd_ne (Nat.ne_of_lt hlt)]; exact (hf b hb).1
  done := by
    intro X hP hw hK hc i pins s σ H E I hf st ⟨hi, hsrc⟩
    subst hP hw hK
    subst hi
    obtain ⟨⟨old, he⟩, h0, hne⟩ := st
    obtain ⟨fp, Pv, St, D, hin, hout, hfp, hrow⟩ := hD X rfl rfl rfl hc pins s σ H I hsrc
    obtain ⟨f0, f1, f2, f3, f4, f5⟩ := hf it (List.mem_cons_of_mem _ List.mem_cons_self)
    exact wpAny_pyNext_enum_endD D he (hin _ h0) fun h' eb => ⟨rfl, I.turned (t' := s.toks) (fun b o hb q => eb b o hb q) f0 f1 f3 f4 f5⟩
  self := fun A i s Q E st hq => let ⟨⟨_, he⟩, _⟩ := st; wpAny_pyIter_enum he hq
theorem walk_en {src : Hp → Prop} {row : Nat → V → Hp → Prop} {n : Nat} : Walk (ItEn src row n) n src (fun i H v H' => i < n ∧ ∃ T x, v = .ref T ∧ H T = none ∧ H' = upd H T (.tup [.int (i : Nat), x]) ∧ row i x H) where
  goes := fun i H hi g => ⟨hi, g⟩
  stops := fun H g => ⟨rfl, g⟩
  yields := fun i H v H' hi _ y => ⟨hi, y⟩
/-- the pairs (0, first item), (1, second item) .. -/
def pairsD : Nat → List D → List D
  | _, [] => []
  | k, d :: ds => .tup [.int (k : Nat), d] :: pairsD (k + 1) ds
theorem pairsD_len : ∀ (k : Nat) (ds : List D), (pairsD k ds).length = ds.length
  | _, [] => rfl
  | k, d :: ds => by unfold pairsD; rw [List.length_cons, List.length_cons, pairsD_len (k + 1) ds]
theorem pairsD_get : ∀ (k : Nat) (ds : List D) (i : Nat) (d : D), ds[i]? = some d → (pairsD k ds)[i]? = some (.tup [.int ((k + i : Nat) : Int), d])
  | _, [], _, _, h => by simp at h
  | k, e :: ds, 0, d, h => by simp at h; subst h; rfl
  | k, e :: ds, i + 1, d, h => by
    unfold pairsD
    rw [List.getElem?_cons_succ, pairsD_get (k + 1) ds i d (by simpa using h)]
    congr 5
    omega
section
variable {X : Cx} {g : G} {hx : HX} {W : WX} {e : Expr} {m : ME} {pos p tpos : Pos} {elts : List Expr} {kk : Nat}
def iEnT (K : PySem.W.Frag) (ta : TA) : TI := fun σ H R => ta σ H fun vs H1 => ∃ t xs, vs = [.ref t] ∧ SqT K H1 t xs ∧ R (ItEn (fun H => SqT K H t xs) (fun i x _ => xs[i]? = some x) xs.length) H1
theorem pi_enT {ta : TA} (hg : Gl X "enumerate") (hm : X.mg "enumerate" = none) (ha : PA X [e] ta) (hs : starEach [e] X.env = [(false, eval e X.env)]) : PI X (.Tuple elts kk tpos) (.Call (.Name "enumerate" p) [e] [] pos) (iEnT X.K ta) := by
  constructor
  intro pins s σ H R I hR
  refine Call_ (ld_blt I hg hm boot_enumerate (PyProof.Rows.callWith_type1 (thn (ha.run pos pins s σ H _ I hR) fun us s1 ⟨vs, H1, I1, r1, t, xs, ex, hq, q⟩ => ?_) hs rfl))
  subst ex
  cases r1 with
  | cons r rr =>
    cases rr
    cases r
    obtain ⟨its, rv, ht, hz⟩ := I1.tuple hq
    have htl : t < s1.heap.objs.size := ht.lt
    have hl := rv.length
    refine fl_enum (begins_tuple t its.toArray) (by obtain ⟨o, h1, h2, n, h3⟩ := ht; exact ⟨o, h1, h2, n, h3⟩) fun h2 he hit hk => wpAny_pyIter_enum he ?_
    have I2 : Inv X pins σ H1 { s1 with heap := h2 } := I1.kept (t' := s1.toks) hk
    refine ⟨s1.heap.objs.size + 1, [s1.heap.objs.size + 1, s1.heap.objs.size], _, _, H1, rfl, I2, en_turn (s1.heap.objs.size + 1) s1.heap.objs.size (fun i h => h.IsTupleIter s1.heap.objs.size t i) (fun H => SqT X.K H t xs) (fun i x _ => xs[i]? = some x) xs.length ?_ ?_ ?_, ⟨⟨.none, he⟩, ?_, Nat.succ_ne_self _⟩, fun b hb => ?_, q⟩
    · exact fun i h ⟨o, h1, h2, h3⟩ => ⟨o, h1, fun v z => by rw [h3] at z; cases z⟩
    · exact fun i h h' st k => st.at fun o z => k o z
    · intro Y hP hw hK hc pins2 s2 σ2 Hh J hsq
      obtain ⟨its2, rv2, ht2, hz2⟩ := J.tuple (by rw [hK]; exact hsq)
      have hl2 := rv2.length
      obtain ⟨o2, g1, g2, n2, g3⟩ := ht2
      refine ⟨[s1.heap.objs.size, t], fun i v => its2.toArray[i]? = some v, fun i h => h.IsTupleIter s1.heap.objs.size t i ∧ h.IsTuple t its2.toArray, ?_, fun i st => ⟨st, o2, g1, g2, n2, g3⟩, fun i h st => st.1, ?_, ?_⟩
      · have D := Draws.tuple (prog := X.prog) (w := X.w) (A := Y.A.in1) (J.ok.hd hc) s1.heap.objs.size t (Nat.ne_of_lt htl) its2.toArray
        rw [show its2.toArray.size = xs.length by simp; exact hl2.symm] at D
        exact D
      · intro b hb old i _ _
        have e' : b = s1.heap.objs.size ∨ b = t := by simpa using hb
        rcases e' with z | z
        · rw [z]; exact Nat.ne_of_lt (Nat.lt_succ_self _)
        · rw [z]; exact Nat.ne_of_lt (Nat.lt_succ_of_lt htl)
      · intro i x hi hx
        refine ⟨xs[i]'hi, by simp, ?_⟩
        obtain ⟨u, hu, ru⟩ := rv2.get (List.getElem?_eq_getElem hi)
        have hx' : its2[i]? = some x := by simpa using hx
        rw [hx'] at hu
        cases hu
        exact ru
    · exact ⟨_, hit, rfl, rfl⟩
    · have hle : s1.heap.objs.size ≤ b := by
        rcases List.mem_cons.mp hb with z | z
        · rw [z]; exact Nat.le_succ _
        · rw [List.mem_singleton.mp z]; exact Nat.le_refl _
      exact I1.fpOk hle (I1.hok.fresh hle)
def iEnS (ta : TA) : TI := fun σ H R => ta σ H fun vs H1 => ∃ z : Str, vs = [.str z] ∧ R (ItEn (fun _ => True) (fun i x _ => ∃ c, z.cps[i]? = some c ∧ x = .str ⟨#[c]⟩) z.cps.size) H1
theorem pi_enS {ta : TA} (hg : Gl X "enumerate") (hm : X.mg "enumerate" = none) (ha : PA X [e] ta) (hs : starEach [e] X.env = [(false, eval e X.env)]) : PI X (.Tuple elts kk tpos) (.Call (.Name "enumerate" p) [e] [] pos) (iEnS ta) := by
  constructor
  intro pins s σ H R I hR
  refine Call_ (ld_blt I hg hm boot_enumerate (PyProof.Rows.callWith_type1 (thn (ha.run pos pins s σ H _ I hR) fun us s1 ⟨vs, H1, I1, r1, y, ex, q⟩ => ?_) hs rfl))
  subst ex
  cases r1 with
  | cons r rr =>
    cases rr
    obtain ⟨tk, rfl⟩ := r
    refine fl_enum (begins_text y tk) trivial fun h2 he hit hk => wpAny_pyIter_enum he ?_
    have I2 : Inv X pins σ H1 { s1 with heap := h2 } := I1.kept (t' := s1.toks) hk
    refine ⟨s1.heap.objs.size + 1, [s1.heap.objs.size + 1, s1.heap.objs.size], _, _, H1, rfl, I2, en_turn (s1.heap.objs.size + 1) s1.heap.objs.size (fun i h => h.IsStrIter s1.heap.objs.size (strIterType y) y tk i) (fun _ => True) (fun i x _ => ∃ c, y.cps[i]? = some c ∧ x = .str ⟨#[c]⟩) y.cps.size ?_ ?_ ?_, ⟨⟨.none, he⟩, ?_, Nat.succ_ne_self _⟩, fun b hb => ?_, q⟩
    · exact fun i h ⟨o, h1, h2, h3⟩ => ⟨o, h1, fun v z => by rw [h3] at z; cases z⟩
    · exact fun i h h' ⟨o, h1, h2⟩ k => ⟨o, k o h1, h2⟩
    · intro Y hP hw hK hc pins2 s2 σ2 Hh J _
      refine ⟨[s1.heap.objs.size], fun i v => ∃ c u, y.cps[i]? = some c ∧ v = .str ⟨#[c]⟩ u, fun i h => h.IsStrIter s1.heap.objs.size (strIterType y) y tk i, Draws.text (prog := X.prog) (w := X.w) (A := Y.A.in1) (J.ok.hd hc) s1.heap.objs.size y tk, fun i st => st, fun i h st => st, ?_, ?_⟩
      · intro b hb old i _ _
        rw [List.mem_singleton.mp hb]
        exact Nat.ne_of_lt (Nat.lt_succ_self _)
      · rintro i x hi ⟨c, u, h1, rfl⟩
        exact ⟨.str ⟨#[c]⟩, ⟨c, h1, rfl⟩, ⟨u, rfl⟩⟩
    · exact ⟨_, hit, rfl, rfl⟩
    · have hle : s1.heap.objs.size ≤ b := by
        rcases List.mem_cons.mp hb with z | z
        · rw [z]; exact Nat.le_succ _
        · rw [List.mem_singleton.mp z]; exact Nat.le_refl _
      exact I1.fpOk hle (I1.hok.fresh hle)
def signsD (s : Str) : List D := s.cps.toList.map fun c => .str ⟨#[c]⟩
def mEnT (mas : MA) : MI := fun ρ S => (mas ρ S).bind fun ds S1 => match ds with
  | [.tup ds] => .ok ⟨pairsD 0 ds, fun _ => True⟩ S1
  | _ => .bad
def mEnS (mas : MA) : MI := fun ρ S => (mas ρ S).bind fun ds S1 => match ds with
  | [.str s] => .ok ⟨pairsD 0 (signsD s), fun _ => True⟩ S1
  | _ => .bad
def mEnL (mas : MA) : MI := fun ρ S => (mas ρ S).bind fun ds S1 => match ds with
  | [.ref n] => match getL S1 n with
    | some ds => .ok ⟨pairsD 0 ds, fun S => S[n]? = some (.lst ds)⟩ S1
    | none => .bad
  | _ => .bad
def kEnum (ds : List D) (S1 : Store) : R Src := match ds with
  | [.tup ds] => .ok ⟨pairsD 0 ds, fun _ => True⟩ S1
  | [.str s] => .ok ⟨pairsD 0 (signsD s), fun _ => True⟩ S1
  | [.ref n] => match getL S1 n with
    | some ds => .ok ⟨pairsD 0 ds, fun S => S[n]? = some (.lst ds)⟩ S1
    | none => .bad
  | _ => .bad
def mEnum (mas : MA) : MI := fun ρ S => (mas ρ S).bind kEnum
/-- the new pair is data -/
theorem en_new {H : Hp} {As : List Addr} {S : Store} {T : Addr} {x : V} {d : D} {i : Nat} (s : StOk g H As S) (hn : H T = none) (r : Is g.K H As d x) : Ext H As (upd H T (.tup [.int (i : Nat), x])) As ∧ StOk g (upd H T (.tup [.int (i : Nat), x])) As S ∧ Is g.K (upd H T (.tup [.int (i : Nat), x])) As (.tup [.int (i : Nat), d]) (.ref T) := by
  have ex := Ext.side (u := .tup [.int (i : Nat), x]) s hn
  exact ⟨ex, s.side hn, .tup (SqT.of upd_same) (.cons (.int _) (.cons (r.up ex) .nil))⟩
section
variable {mas : MA}
theorem fi_enT (hm : X.mg "enumerate" = none) (h : FA X g hx W [e] mas) (hg : Gl X "enumerate" := by rfl) (hs : starEach [e] X.env = [(false, eval e X.env)] := by rfl) : FI X g hx W (.Tuple elts kk tpos) (.Call (.Name "enumerate" p) [e] [] pos) (mEnT mas) := by
  obtain ⟨hk, t, pa, s⟩ := h.ex
  refine ⟨hk, _, pi_enT hg hm pa hs, fun σ H As ρ S he hS Q hp => ?_⟩
  refine s σ H As ρ S he hS _ (PostA.bind (P := fun r => PostI g W σ H As r Q) hp (fun ds S1 hp1 vs H1 As1 e1 s1 i1 => ?_) (fun _ _ _ q => q) id)
  split at hp1
  · rename_i ds
    cases i1 with
    | cons i1 i2 =>
      cases i2
      cases i1 with
      | tup h1 r =>
        rw [hk]
        refine ⟨_, _, rfl, h1, hp1 _ H1 As1 e1 s1 (SrcOk.mk walk_en (by rw [pairsD_len, r.len]) (fun H As S ex _ _ => ex.sqT h1) (fun i H As S x H' ex s2 _ hy => ?_))⟩
        obtain ⟨hi, T, y, rfl, hn, rfl, hx⟩ := hy
        obtain ⟨d, hd, iv⟩ := (r.up ex).getV hx
        obtain ⟨q1, q2, q3⟩ := en_new (i := i) s2 hn iv
        exact ⟨_, by have z := pairsD_get 0 _ i d hd; rw [Nat.zero_add] at z; exact z, q1, q2, q3⟩
  · exact False.elim hp1
theorem fi_enS (hm : X.mg "enumerate" = none) (h : FA X g hx W [e] mas) (hg : Gl X "enumerate" := by rfl) (hs : starEach [e] X.env = [(false, eval e X.env)] := by rfl) : FI X g hx W (.Tuple elts kk tpos) (.Call (.Name "enumerate" p) [e] [] pos) (mEnS mas) := by
  obtain ⟨hk, t, pa, s⟩ := h.ex
  refine ⟨hk, _, pi_enS hg hm pa hs, fun σ H As ρ S he hS Q hp => ?_⟩
  refine s σ H As ρ S he hS _ (PostA.bind (P := fun r => PostI g W σ H As r Q) hp (fun ds S1 hp1 vs H1 As1 e1 s1 i1 => ?_) (fun _ _ _ q => q) id)
  split at hp1
  · rename_i y
    cases i1 with
    | cons i1 i2 =>
      cases i2
      cases i1
      refine ⟨_, rfl, hp1 _ H1 As1 e1 s1 (SrcOk.mk walk_en (by rw [pairsD_len]; unfold signsD; simp) (fun H As S ex _ _ => trivial) (fun i H As S x H' ex s2 _ hy => ?_))⟩
      obtain ⟨hi, T, z, rfl, hn, rfl, c, hc, rfl⟩ := hy
      obtain ⟨q1, q2, q3⟩ := en_new (i := i) s2 hn (.str ⟨#[c]⟩)
      refine ⟨_, ?_, q1, q2, q3⟩
      have z := pairsD_get 0 (signsD y) i (.str ⟨#[c]⟩) (by unfold signsD; simp [hc])
      rw [Nat.zero_add] at z
      exact z
  · exact False.elim hp1
theorem walk_Ite {K : PySem.W.Frag} {a : Addr} {n : Nat} : Walk (Ite K a) n (fun H => ∃ xs : List V, SqL K H a xs ∧ xs.length = n) (fun i H v H' => ∃ T x, v = .ref T ∧ H T = none ∧ H' = upd H T (.tup [.int (i : Nat), x]) ∧ ∀ xs, SqL K H a xs → xs[i]? = some x) where
  goes := fun i H hi ⟨xs, h, e⟩ => ⟨xs, xs[i]'(by omega), h, by simp⟩
  stops := fun H ⟨xs, h, e⟩ => ⟨xs, h, by omega⟩
  yields := fun i H x H' hi _ y => y
theorem fi_enL (hm : X.mg "enumerate" = none) (h : FA X g hx W [e] mas) (hg : Gl X "enumerate" := by rfl) (hs : starEach [e] X.env = [(false, eval e X.env)] := by rfl) : FI X g hx W (.Tuple elts kk tpos) (.Call (.Name "enumerate" p) [e] [] pos) (mEnL mas) := by
  obtain ⟨hk, t, pa, s⟩ := h.ex
  refine ⟨hk, _, pi_enum hg hm pa hs, fun σ H As ρ S he hS Q hp => ?_⟩
  refine s σ H As ρ S he hS _ (PostA.bind (P := fun r => PostI g W σ H As r Q) hp (fun ds S1 hp1 vs H1 As1 e1 s1 i1 => ?_) (fun _ _ _ q => q) id)
  split at hp1
  · rename_i n
    cases i1 with
    | cons i1 i2 =>
      cases i2
      split at hp1
      · rename_i ds hq
        obtain ⟨a, rfl, ha⟩ := IsRef i1
        obtain ⟨a', xs, ha', h1, r⟩ := s1.lst (getL_some hq)
        rw [ha] at ha'
        cases ha'
        rw [hk]
        refine ⟨_, _, rfl, .inl (.inl h1), hp1 _ H1 As1 e1 s1 (SrcOk.mk (walk_Ite (n := ds.length)) (by rw [pairsD_len]) (fun H As S ex s2 hgd => ?_) (fun i H As S x H' ex s2 hgd hy => ?_))⟩
        · obtain ⟨a2, ys, ha2, h2, r2⟩ := s2.lst hgd
          rw [ex.get ha] at ha2
          cases ha2
          exact ⟨ys, .inl (.inl h2), r2.len.symm⟩
        · obtain ⟨a2, ys, ha2, h2, r2⟩ := s2.lst hgd
          rw [ex.get ha] at ha2
          cases ha2
          obtain ⟨T, y, rfl, hn, rfl, hx⟩ := hy
          obtain ⟨d, hd, iv⟩ := r2.getV (hx ys (.inl (.inl h2)))
          obtain ⟨q1, q2, q3⟩ := en_new (i := i) s2 hn iv
          exact ⟨_, by have z := pairsD_get 0 _ i d hd; rw [Nat.zero_add] at z; exact z, q1, q2, q3⟩
      · exact False.elim hp1
  · exact False.elim hp1
/-- for k, x in enumerate(..): a tuple, a text, a list -/
theorem fi_enum (hm : X.mg "enumerate" = none) (h : FA X g hx W [e] mas) (hg : Gl X "enumerate" := by rfl) (hs : starEach [e] X.env = [(false, eval e X.env)] := by rfl) : FI X g hx W (.Tuple elts kk tpos) (.Call (.Name "enumerate" p) [e] [] pos) (mEnum mas) :=
  fi_pick (fi_enT hm h hg hs) (fi_enS hm h hg hs) (fi_enL hm h hg hs) fun ρ S => by
    unfold mEnum mEnT mEnS mEnL
    cases r : mas ρ S with
    | err c es S' => exact .inl rfl
    | bad => exact .inl rfl
    | ok ds S1 =>
      show kEnum ds S1 = _ ∨ kEnum ds S1 = _ ∨ kEnum ds S1 = _
      rcases ds with _ | ⟨d, _ | ⟨d2, ds⟩⟩
      · exact .inl rfl
      · cases d with
        | tup ds => exact .inl rfl
        | str s => exact .inr (.inl rfl)
        | ref n => exact .inr (.inr rfl)
        | _ => exact .inl rfl
      · refine .inl ?_
        cases d <;> rfl
end
section
variable {ρ : Rho} {S : Store} {mas : MA} {ds : List D} {n : Nat}
@[simp] theorem ev_enum : mEnum mas ρ S = (mas ρ S).bind kEnum := rfl
@[simp] theorem en_t : kEnum [.tup ds] S = .ok ⟨pairsD 0 ds, fun _ => True⟩ S := rfl
@[simp] theorem en_s {s : Str} : kEnum [.str s] S = .ok ⟨pairsD 0 (signsD s), fun _ => True⟩ S := rfl
@[simp] theorem en_l : kEnum [.ref n] S = match getL S n with | some ds => .ok ⟨pairsD 0 ds, fun S => S[n]? = some (.lst ds)⟩ S | none => .bad := rfl
@[simp] theorem s_ne {a b : Str} : bNe (.str a) (.str b) S = .ok (.bl (!decide (a = b))) S := rfl
end
end
end FL
end

section
set_option autoImplicit false
/-! defs called within a suite, with loops over range; they may call themselves -/
namespace FL
open PySem L2 PyProof.Rows
/-- within a suite: the exception that is handled has no context -/
theorem hot_suite {X : Cx} {a : Addr} {oe : Obj} {cls : Value} {d : Option Addr} {pn : List (Addr × Obj)} (hz : L2N.Zn cls d oe) (hf : ∃ vs, oe.data = .fields vs) : L2H.HotC (X.suite a ((a, oe) :: pn)) := by
  obtain ⟨vs, e⟩ := hf
  exact ⟨(a, oe), ⟨rfl, vs, e, hz.2.2 vs e⟩, List.mem_cons_self⟩
section
variable {P : Program} {w : World} {mg : Str → Option Value} {base : Heap} {g : G}
/-- THE RULE for a def called within a suite -/
theorem fn_okH {x qual : Str} {st : Stmt} {f : Addr} {fd : FuncData} {N ps : List Str} {k : Nat} {ms : MS} (F : Fun g.K x qual st f fd) (Sc : FnScope N ps (defScope st))
    (h : ∀ (cdv : Value) (A : Around) (outer : List Env) (s : Shared) (H : Hp) (E : XK) (p : Addr × Obj), L2H.RoomH k (A.deeper (envOfC qual (defScope st) s.heap.objs.size f cdv)) →
      L2H.HotC (L2H.cxH (L2N.CX P w) P w g.K mg base N qual (defScope st) f cdv A outer s H E p) → FSs (L2H.cxH (L2N.CX P w) P w g.K mg base N qual (defScope st) f cdv A outer s H E p) g none (fun c d _ H' => E c d H') (defBody st) ms) :
    L2H.FnH P w g.K mg base (L2N.CX P w) (k + 1) f fd ps (spM g ps.length (mFn N.length ms)) := by
  obtain ⟨o1, o2, o3, o4, o5, o6, cdv, o7, o8, rfl, lk, hcd⟩ := F.ex
  refine L2H.fn_ofH lk hcd Sc (fun vs H Q E ⟨As, ds, S, h1, _, h2, _⟩ => by rw [← h1.len, h2]) (fun A outer s H vs Q E p hot hr ⟨As, ds, S, h1, h2, h3, h4⟩ => ?_)
  obtain ⟨_, t, pt, sn⟩ := (h cdv A outer s H E p hr ⟨p, ⟨hot.1, hot.2⟩, List.mem_cons_self⟩).ex
  refine ⟨t, pt, sn _ H As (rho0 N.length ds) S (env0 h1) h2 _ ?_⟩
  unfold mFn at h4
  cases r : ms (rho0 N.length ds) S with
  | nx ρ' S' => rw [r] at h4; exact fun σ' H' As' e st1 _ => h4 .non H' As' e st1 .non
  | rt d S' => rw [r] at h4; exact h4
  | err c es ρ' S' => rw [r] at h4; exact fun σ' dd H' As' e st1 _ x => h4 dd H' As' e st1 x
  | bk ρ' S' => rw [r] at h4; exact h4.elim
  | ct ρ' S' => rw [r] at h4; exact h4.elim
  | bad => rw [r] at h4; exact h4.elim
theorem fn_gcH {f : Addr} {fd : FuncData} {ps : List Str} {k n : Nat} {mf : MF} (F : L2H.FnH P w g.K mg base (L2N.CX P w) k f fd ps (spM g n mf)) : L2H.FnH P w g.K mg base (L2N.CX P w) k f fd ps (spM g n (gcF mf)) := by
  have im : ∀ vs H Q E, spM g n (gcF mf) vs H Q E → spM g n mf vs H Q E := fun vs H Q E ⟨As, ds, S, h1, h2, h3, h4⟩ => ⟨As, ds, S, h1, h2, h3, ?_⟩
  · exact ⟨fun vs H Q E h => F.len vs H Q E (im _ _ _ _ h), fun A outer s H args us vs Q E p hr hot hp e0 hb r h => F.run A outer s H args us vs Q E p hr hot hp e0 hb r (im _ _ _ _ h)⟩
  · have z := Post.gc (W := fun c d _ H => E c d H) (σ := []) (Q := Q) (r := mf ds S) h2 (by
      unfold gcF at h4
      cases r : gcR S (mf ds S) with
      | ok d S' => rw [r] at h4; exact h4
      | err c es S' => rw [r] at h4; exact h4
      | bad => rw [r] at h4; exact h4)
    cases r : mf ds S with
    | ok d S' => rw [r] at z; exact z
    | err c es S' => rw [r] at z; exact z
    | bad => rw [r] at z; exact z
theorem fn_badH {k : Nat} {f : Addr} {fd : FuncData} {ps : List Str} : L2H.FnH P w g.K mg base (L2N.CX P w) k f fd ps (spM g ps.length fun _ _ => .bad) :=
  ⟨fun vs H Q E ⟨_, _, _, _, _, _, h⟩ => h.elim, fun A outer s H args us vs Q E p _ _ _ _ _ _ ⟨_, _, _, _, _, _, h⟩ => h.elim⟩
end
section
variable {X : Cx} {g : G} {hx : HX} {W : WX} {a b c e tg : Expr} {ma mb mc m mo : ME} {pos : Pos} {es : List Expr} {mas : MA} {H : Hp} {As : List Addr} {S : Store} {st : Stmt} {sts us : List Stmt} {ms mt mu : MS} {t : MT}
theorem fe_callH {f : Addr} {fd : FuncData} {ps : List Str} {k n : Nat} {mf : MF} {x : Str} {p : Pos} (F : L2H.FnH X.prog X.w g.K X.mg X.base (L2N.CX X.prog X.w) k f fd ps (spM g n mf)) (hr : L2H.RoomH k X.A) (hc : L2H.HotC X) (hm : X.mg x = some (.ref f)) (hk : PySem.W.keepIn g.K (.ref f) = true) (hb : Binds g.K fd ps []) (tk : L2N.Takes X W)
    (ha : FA X g hx W (e :: es) mas) (hn : ∀ ρ S ds S', mas ρ S = .ok ds S' → ds.length = n) (hg : Gl X x := by rfl) (hdb : (x == ("__debug__" : Str)) = false := by decide) (he : starEach (e :: es) X.env = (false, eval e X.env) :: starEach es X.env := by rfl) (hpl : (backTo pos (starEach es X.env)).any (·.1) = false := by rfl) :
    FE X g hx W (.Call (.Name x p) (e :: es) [] pos) (mCB mf mas) := by
  obtain ⟨hK, t, pa, s⟩ := ha.ex
  refine ⟨hK, _, L2H.pe_callH (by rw [hK]; exact F) hr hc hg hm (by rw [hK]; exact hk) (by rw [hK]; exact hb) (fun σ => L2N.passAt tk σ) pa hdb he hpl, fun σ H As ρ S he hs Q hp => ?_⟩
  unfold mCB at hp
  cases r : mas ρ S with
  | err c es' S' => rw [r] at hp; exact s σ H As ρ S he hs _ (by rw [r]; exact hp)
  | bad => rw [r] at hp; exact hp.elim
  | ok ds S1 =>
    rw [r] at hp
    refine s σ H As ρ S he hs _ ?_
    rw [r]
    intro vs H1 As1 e1 s1 i1
    refine ⟨As1, ds, S1, i1, s1, hn ρ S ds S1 r, ?_⟩
    have hp2 := Post.up hp e1
    rw [bind_ok] at hp2
    cases q : mf ds S1 with
    | ok d S' => rw [q] at hp2; exact hp2
    | err c es' S' => rw [q] at hp2; exact hp2
    | bad => rw [q] at hp2; exact hp2
structure FIH (X : Cx) (g : G) (hx : HX) (W : WX) (tg e : Expr) (m : MI) : Prop where
  ex : X.K = g.K ∧ ∃ t, L2H.PIH X tg e t ∧ SnI g hx W t m
theorem fi_range1H {p : Pos} (hm : X.mg "range" = none) (h : FA X g hx W [e] mas) (hg : Gl X "range" := by rfl) (hs : starEach [e] X.env = [(false, eval e X.env)] := by rfl) : FIH X g hx W tg (.Call (.Name "range" p) [e] [] pos) (mRng1 mas) := by
  obtain ⟨hk, t, pa, s⟩ := h.ex
  refine ⟨hk, _, L2H.pi_range1H hg hm pa hs, fun σ H As ρ S he hs Q hp => ?_⟩
  refine s σ H As ρ S he hs _ (PostA.bind (P := fun r => PostI g W σ H As r Q) hp (fun ds S1 hp1 vs H1 As1 e1 s1 i1 => ?_) (fun _ _ _ q => q) id)
  split at hp1
  · split at hp1
    · rename_i n hb
      cases i1 with
      | cons i1 i2 =>
        cases i2; cases i1
        refine ⟨n, rfl, by omega, by omega, hp1 _ H1 As1 e1 s1 (SrcOk.mk (walk_range.mono (Y' := fun i H x H' => (i < n.toNat) ∧ H' = H ∧ x = V.int (0 + (i : Nat))) (fun _ h => h) (fun i H x H' hi _ y => ⟨hi, y⟩)) (by rw [List.length_map, List.length_range]) (fun H As S ex _ _ => trivial) (fun i H As S x H' ex s2 _ hy => ?_))⟩
        obtain ⟨hi, rfl, rfl⟩ := hy
        refine ⟨.int (i : Nat), ?_, Ext.refl _ _, s2, by rw [Int.zero_add]; exact .int _⟩
        rw [List.getElem?_map, List.getElem?_range hi]
        rfl
    · exact False.elim hp1
  · exact False.elim hp1
theorem fs_forH {mi : MI} {tt : Tgt} {sl : List Nat} (hp : PassesOwn (model X.prog X.w) X.A X.env X.xe) (hc : L2H.HotC X) (hi : FIH X g hx W tg e mi) (hg : FG X g hx tg sl tt) (hb : FSs X g hx W sts ms) (hs : ∀ x, foldedSetIterable e X.env x = pure x := by intro _; rfl) :
    FS X g hx W (.For tg e sts [] pos) (mFor mi tt ms) := by
  obtain ⟨hk, ti, pi, si⟩ := hi.ex
  obtain ⟨_, tgt, pg, sg⟩ := hg.ex
  obtain ⟨_, tb, pb, sb⟩ := hb.ex
  refine ⟨hk, _, L2H.ps_forH hp hc pi pg pb hs, fun σ H As ρ S he hs E hp => ?_⟩
  have key : PostI g W σ H As (mi ρ S) fun J H1 => ∃ W : Nat → Nat → L2.St → Hp → Prop, (∃ m, W 0 m σ H1) ∧ ∀ i m σ H, W i m σ H →
      (J.stop i H ∧ E.nx σ H) ∨ (J.go i H ∧ ∃ N : L2.St → Hp → Prop, (∀ σ' H', N σ' H' → ∃ m', m' < m ∧ W (i + 1) m' σ' H') ∧ ∀ x H', J.yld i H x H' → tgt x σ H' fun σ2 H2 => tb { E with nx := N, ct := N, bk := E.nx } σ2 H2) := by
    unfold mFor at hp
    cases r : mi ρ S with
    | err c ds S' => rw [r] at hp; exact PostS.err he hp
    | bad => rw [r] at hp; exact False.elim hp
    | ok src S1 =>
      rw [r, stm_ok] at hp
      intro J H1 As1 e1 st1 ⟨Gd, Y, wk, hG, hY⟩
      refine for_it wk (fun i σ H => ∃ As ρ S, Ext H1 As1 H As ∧ EnvOk g hx H As ρ σ ∧ StOk g H As S ∧ PostS g hx W H As (mItems src.guard tt ms (src.items.drop i) ρ S) E)
        ⟨As1, ρ, S1, Ext.refl _ _, he.up e1, st1, by rw [List.drop_zero]; exact hp.up e1⟩ ?_ ?_ ?_
      · rintro i σ H _ ⟨As, ρ, S, ex, he, hs, hp⟩
        refine hG H As S ex hs ?_
        apply Classical.byContradiction
        intro hn
        cases z : src.items.drop i with
        | nil => rw [z] at hp; unfold mItems at hp; rw [if_neg hn] at hp; exact hp
        | cons d ds => rw [z] at hp; unfold mItems at hp; rw [if_neg hn] at hp; exact hp
      · rintro i x σ H H' hi ⟨As, ρ, S, ex, he, hs, hp⟩ hy
        have hgd : src.guard S := by
          apply Classical.byContradiction
          intro hn
          rw [List.drop_eq_getElem_cons hi] at hp
          unfold mItems at hp
          rw [if_neg hn] at hp
          exact hp
        obtain ⟨d, hd, e2, s2, i2⟩ := hY i H As S x H' ex hs hgd hy
        have hdd : src.items.drop i = d :: src.items.drop (i + 1) := by
          rw [List.drop_eq_getElem_cons hi]
          obtain ⟨_, z⟩ := List.getElem?_eq_some_iff.mp hd
          rw [z]
        rw [hdd] at hp
        unfold mItems at hp
        rw [if_pos hgd] at hp
        cases q : tt d ρ S with
        | none => rw [q] at hp; exact False.elim hp
        | some ρ1 =>
          rw [q] at hp
          dsimp only at hp
          refine sg x σ H' As d ρ S ρ1 (he.up e2) s2 i2 q _ fun σ1 he1 _ => ?_
          refine sb σ1 H' As ρ1 S he1 s2 _ ?_
          have hp2 := hp.up e2
          have ex2 := ex.trans e2
          cases r : ms ρ1 S with
          | nx ρ' S' => rw [r] at hp2; exact fun σ' H'' As' e3 st3 v3 => ⟨As', ρ', S', ex2.trans e3, v3, st3, hp2.up e3⟩
          | ct ρ' S' => rw [r] at hp2; exact fun σ' H'' As' e3 st3 v3 => ⟨As', ρ', S', ex2.trans e3, v3, st3, hp2.up e3⟩
          | bk ρ' S' => rw [r] at hp2; exact hp2
          | rt d S' => rw [r] at hp2; exact hp2
          | err c ds ρ' S' => rw [r] at hp2; exact hp2
          | bad => rw [r] at hp2; exact hp2
      · rintro σ H ⟨As, ρ, S, ex, he, hs, hp⟩
        rw [List.drop_length] at hp
        unfold mItems at hp
        split at hp
        · exact hp σ H As (Ext.refl _ _) hs he
        · exact False.elim hp
  exact si σ H As ρ S he hs _ key
end
end FL
end

section
set_option autoImplicit false
/-! x < y of ints and booleans -/
namespace FL
open PySem L2 PyProof.Rows
theorem g_lt_bi (p : Bool) (b : Int) (u : Tok) : Gives (Builtin.«int.__lt__» ⟨[.bool p, .int b u], []⟩) (.val (Value.bool (decide ((if p = true then (1 : Int) else 0) < b)))) :=
  .of_wp fun M A E s Q h => by obtain ⟨s1, s2, s3, s4, s5⟩ := s; wp_walk; exact ⟨_, rfl, h⟩
theorem g_gt_bi (p : Bool) (b : Int) (u : Tok) : Gives (Builtin.«int.__gt__» ⟨[.bool p, .int b u], []⟩) (.val (Value.bool (decide ((if p = true then (1 : Int) else 0) > b)))) :=
  .of_wp fun M A E s Q h => by obtain ⟨s1, s2, s3, s4, s5⟩ := s; wp_walk; exact ⟨_, rfl, h⟩
section
variable {prog : Program} {w : World} {A : Around} {E : Value → Shared → Prop} {s : Shared}
theorem lt_bi {p : Bool} {b : Int} {u : Tok} {Q : Value → Shared → Prop} (h : Q (.bool (decide ((if p = true then (1 : Int) else 0) < b))) s) : wpAny (model prog w) A (compareOp .Lt (.bool p) (.int b u)) Q E s := by
  show wpAny _ A (richCompare .Lt _ _) Q E s
  exact SeqAt.rc_left_or (typeIs_bool' s p) (typeIs_int s b u) (by decide) F.sub_int_bool F.slot_bool_lt (call_gives F.slot_bool_lt rfl F.entry_int_lt (F.args_int_lt_2 _ _) (g_lt_bi p b u) ⟨nofun, h⟩) (.inl rfl)
theorem lt_ib {p : Bool} {b : Int} {u : Tok} {Q : Value → Shared → Prop} (h : Q (.bool (decide (b < (if p = true then (1 : Int) else 0)))) s) : wpAny (model prog w) A (compareOp .Lt (.int b u) (.bool p)) Q E s := by
  show wpAny _ A (richCompare .Lt _ _) Q E s
  exact SeqAt.rc_sub_first_or (typeIs_int s b u) (typeIs_bool' s p) (by decide) F.sub_bool_int F.slot_bool_gt (call_gives F.slot_bool_gt rfl F.entry_int_gt (F.args_int_gt_2 _ _) (g_gt_bi p b u) ⟨nofun, h⟩) (.inl rfl)
end
def numV : V → Option Int
  | .int i => some i
  | .bl b => some (if b = true then 1 else 0)
  | _ => none
def numD : D → Option Int
  | .int i => some i
  | .bl b => some (if b = true then 1 else 0)
  | _ => none
def rLtN : R2 := fun x y H Q => ∃ i j, numV x = some i ∧ numV y = some j ∧ Q (.bl (decide (i < j))) H
theorem op_ltN {X : Cx} : OpR X (compareOp .Lt) rLtN := by
  intro pins s σ H x y v u Q I rx ry ⟨i, j, hi, hj, q⟩
  have fin : EP X pins σ Q (.bool (decide (i < j))) s := ⟨.bl _, H, I, rfl, q⟩
  cases x with
  | int a =>
    cases hi
    obtain ⟨t, rfl⟩ := rx
    cases y with
    | int b => cases hj; obtain ⟨t', rfl⟩ := ry; exact PyProof.Rows.lt_int fin
    | bl b => cases hj; cases ry; exact lt_ib fin
    | _ => cases hj
  | bl a =>
    cases hi
    cases rx
    cases y with
    | int b => cases hj; obtain ⟨t', rfl⟩ := ry; exact lt_bi fin
    | bl b => cases hj; cases ry; exact lt_bool fin
    | _ => cases hj
  | _ => cases hi
def bLtN (d e : D) (S : Store) : R D := match numD d, numD e with
  | some i, some j => .ok (.bl (decide (i < j))) S
  | _, _ => .bad
theorem num_is {K : PySem.W.Frag} {H : Hp} {As : List Addr} {d : D} {x : V} {i : Int} (h : Is K H As d x) (e : numD d = some i) : numV x = some i := by
  cases d with
  | int a => cases h; exact e
  | bl a => cases h; exact e
  | _ => cases e
theorem rs_ltN {g : G} : RSn g rLtN bLtN := by
  intro H As S x y d e hs ix iy Q k ⟨z, S', he⟩
  have hz := he
  unfold bLtN at he
  split at he
  · rename_i i j q1 q2
    cases he
    exact ⟨i, j, num_is ix q1, num_is iy q2, RSn.pure hs hz k (.bl _)⟩
  · cases he
theorem ne_ltN : NoErr bLtN := by intro d e S c ds S' h; unfold bLtN at h; split at h <;> cases h
theorem cr_ltN {X : Cx} {g : G} : CmpR X g .Lt bLtN := ⟨_, op_ltN, rs_ltN, ne_ltN⟩
section
variable {S : Store} {i j : Int} {a b : Bool}
@[simp] theorem ltN_ii : bLtN (.int i) (.int j) S = .ok (.bl (decide (i < j))) S := rfl
@[simp] theorem ltN_bi : bLtN (.bl a) (.int j) S = .ok (.bl (decide ((if a = true then 1 else 0) < j))) S := rfl
@[simp] theorem ltN_ib : bLtN (.int i) (.bl b) S = .ok (.bl (decide (i < (if b = true then 1 else 0)))) S := rfl
@[simp] theorem ltN_bb : bLtN (.bl a) (.bl b) S = .ok (.bl (decide ((if a = true then (1 : Int) else 0) < (if b = true then 1 else 0)))) S := rfl
end
end FL
end

section
namespace K01
open PySem L2 FL
def sub_BadShape : Nat → Option Bool := fun c => if c = 0 then some false else if c = 1 then some false else if c = 2 then some true else if c = 3 then some false else none
noncomputable def b_is_int : MS :=
 (mRet (mAndV (mIsi "int" (mVar 0)) (mNotV (mIsi "bool" (mVar 0)))))
noncomputable def m_is_int : MF := gcF (mFn 1 b_is_int)
noncomputable def b_is_int_in : MS :=
 (mRet (mAndV (mCB m_is_int (mCons (mVar 0) mNil)) (mChain bLe bLe (mVar 1) (mVar 0) (mVar 2))))
noncomputable def m_is_int_in : MF := gcF (mFn 3 b_is_int_in)
noncomputable def b__is_simple : MS :=
 (mSeq (mIf (mOr (mNot (mTru (mIsi "tuple" (mVar 0)))) (mB (mOp bEq (mCB fLen (mCons (mVar 0) mNil)) (mC (.int 0))))) (mRet (mC (.bl false))) mNext)
 (mSeq (mSet 1 (mOp bIx (mVar 0) (mC (.int 0))))
 (mSeq (mIf (mB (mOp bEq (mVar 1) (mC (.str "int")))) (mSeq (mIf (mOr (mB (mOp bNe (mCB fLen (mCons (mVar 0) mNil)) (mC (.int 3)))) (mNot (mTru (mCB m_is_int_in (mCons (mOp bIx (mVar 0) (mC (.int 1))) (mCons (mNeg (mC (.int 1000000000))) (mCons (mC (.int 1000000000)) mNil))))))) (mRet (mC (.bl false))) mNext)
 (mRet (mCB m_is_int_in (mCons (mOp bIx (mVar 0) (mC (.int 2))) (mCons (mOp bIx (mVar 0) (mC (.int 1))) (mCons (mC (.int 1000000000)) mNil)))))) mNext)
 (mSeq (mIf (mB (mOp bEq (mVar 1) (mC (.str "text")))) (mRet (mAndV (mOp bEq (mCB fLen (mCons (mVar 0) mNil)) (mC (.int 2))) (mCB m_is_int_in (mCons (mOp bIx (mVar 0) (mC (.int 1))) (mCons (mC (.int 0)) (mCons (mC (.int 40)) mNil)))))) mNext)
 (mSeq (mIf (mB (mOp bEq (mVar 1) (mC (.str "ref")))) (mRet (mAndV (mOp bEq (mCB fLen (mCons (mVar 0) mNil)) (mC (.int 2))) (mCB m_is_int_in (mCons (mOp bIx (mVar 0) (mC (.int 1))) (mCons (mC (.int 1)) (mCons (mC (.int 60)) mNil)))))) mNext)
 (mRet (mOp bEq (mVar 0) (mTup (mCons (mC (.str "never")) mNil)))))))))
noncomputable def m__is_simple : MF := gcF (mFn 2 b__is_simple)
noncomputable def b__is_list : MS :=
 (mSeq (mIf (mOr (mNot (mTru (mIsi "tuple" (mVar 0)))) (mB (mOp bNe (mCB fLen (mCons (mVar 0) mNil)) (mC (.int 3))))) (mRet (mC (.bl false))) mNext)
 (mRet (mAndV (mOp bEq (mOp bIx (mVar 0) (mC (.int 0))) (mC (.str "list"))) (mCB m_is_int_in (mCons (mOp bIx (mVar 0) (mC (.int 2))) (mCons (mC (.int 0)) (mCons (mC (.int 40)) mNil)))))))
noncomputable def m__is_list : MF := gcF (mFn 1 b__is_list)
noncomputable def b_is_shape : MS :=
 (mSeq (mSet 1 (mVar 0))
 (mSeq (mFor (mRng1 (mCons (mC (.int 2)) mNil)) (gN 2) (mIf (mTru (mCB m__is_list (mCons (mVar 1) mNil))) (mSet 1 (mOp bIx (mVar 1) (mC (.int 1)))) mNext))
 (mRet (mCB m__is_simple (mCons (mVar 1) mNil)))))
noncomputable def m_is_shape : MF := gcF (mFn 3 b_is_shape)
noncomputable def b_check_shape : MS :=
 (mIf (mNot (mTru (mCB m_is_shape (mCons (mVar 0) mNil)))) (mRaise 2 (mCons (mVar 0) mNil)) mNext)
noncomputable def m_check_shape : MF := gcF (mFn 1 b_check_shape)
noncomputable def b_shape_refs : MS :=
 (mSeq (mSet 1 (mVar 0))
 (mSeq (mWhile (mB (mOp bEq (mOp bIx (mVar 1) (mC (.int 0))) (mC (.str "list")))) (mSet 1 (mOp bIx (mVar 1) (mC (.int 1)))))
 (mSeq (mIf (mB (mOp bEq (mOp bIx (mVar 1) (mC (.int 0))) (mC (.str "ref")))) (mRet (mTup (mCons (mOp bIx (mVar 1) (mC (.int 1))) mNil))) mNext)
 (mRet (mTup mNil)))))
noncomputable def m_shape_refs : MF := gcF (mFn 2 b_shape_refs)
noncomputable def b__law_numbers : MS :=
 (mSeq (mSet 1 (mLst mNil))
 (mSeq (mFor (mRng1 (mCons (mCB fMin2 (mCons (mCB fLen (mCons (mVar 0) mNil)) (mCons (mC (.int 63)) mNil))) mNil)) (gN 2) (mSeq (mSet 3 (mCB fAbs (mCons (mCB fInt (mCons (mOp bIx (mVar 0) (mVar 2)) mNil)) mNil)))
 (mIf (mB (mOp bGe (mVar 3) (mOp bPow (mC (.int 10)) (mC (.int 18))))) (mFor (mRng1 (mCons (mC (.int 60)) mNil)) (gN 4) (mIf (mB (mOp bGt (mVar 3) (mC (.int 0)))) (mSeq (mDrop (mMeth "list" fAppend (mVar 1) (mCons (mOp bMod (mCB fInt (mCons (mVar 3) mNil)) (mC (.int 1000))) mNil)))
 (mSet 3 (mOp bDiv (mVar 3) (mC (.int 1000))))) mNext)) (mFor (mRng1 (mCons (mC (.int 8)) mNil)) (gN 4) (mSeq (mSet 5 (mOp bAdd (mOp bMul (mOp bAdd (mVar 3) (mC (.int 1))) (mOp bAdd (mC (.int 48271)) (mOp bMul (mC (.int 2)) (mVar 4)))) (mOp bMul (mOp bAdd (mVar 2) (mC (.int 1))) (mOp bAdd (mC (.int 69621)) (mOp bMul (mC (.int 7919)) (mVar 4))))))
 (mDrop (mMeth "list" fAppend (mVar 1) (mCons (mOp bMod (mCB fInt (mCons (mOp bDiv (mOp bMod (mCB fInt (mCons (mVar 5) mNil)) (mC (.int 2147483647))) (mOp bAdd (mVar 4) (mC (.int 3)))) mNil)) (mC (.int 1000))) mNil))))))))
 (mRet (mVar 1))))
noncomputable def m__law_numbers : MF := id (mFn 6 b__law_numbers)
noncomputable def b__law_take : MS :=
 (mSeq (mSet 3 (mOp bIx (mVar 1) (mC (.int 0))))
 (mSeq (mSub (mVar 1) (mC (.int 0)) (mOp bAdd (mVar 3) (mC (.int 1))))
 (mSeq (mIf (mB (mOp bLt (mVar 3) (mCB fLen (mCons (mVar 0) mNil)))) (mRet (mOp bMod (mCB fInt (mCons (mOp bIx (mVar 0) (mVar 3)) mNil)) (mVar 2))) mNext)
 (mSeq (mIf (mB (mOp bEq (mCB fLen (mCons (mVar 0) mNil)) (mC (.int 0)))) (mRet (mC (.int 0))) mNext)
 (mRet (mOp bMod (mCB fInt (mCons (mOp bAdd (mOp bMul (mOp bIx (mVar 0) (mOp bMod (mCB fInt (mCons (mVar 3) mNil)) (mCB fLen (mCons (mVar 0) mNil)))) (mC (.int 31))) (mOp bMul (mVar 3) (mC (.int 17)))) mNil)) (mVar 2)))))))
noncomputable def m__law_take : MF := gcF (mFn 4 b__law_take)
noncomputable def b__law_great : MS :=
 (mSeq (mSet 3 (mC (.int 0)))
 (mSeq (mFor (mRng1 (mCons (mC (.int 4)) mNil)) (gN 4) (mSet 3 (mOp bAdd (mOp bMul (mVar 3) (mC (.int 1000))) (mCB m__law_take (mCons (mVar 0) (mCons (mVar 1) (mCons (mC (.int 1000)) mNil)))))))
 (mRet (mOp bMod (mCB fInt (mCons (mVar 3) mNil)) (mVar 2)))))
noncomputable def m__law_great : MF := gcF (mFn 5 b__law_great)
noncomputable def b__law_near : MS :=
 (mSeq (mSet 4 (mCB m__law_take (mCons (mVar 0) (mCons (mVar 1) (mCons (mC (.int 16)) mNil)))))
 (mSeq (mIf (mB (mOp bEq (mVar 4) (mC (.int 0)))) (mRet (mVar 2)) mNext)
 (mSeq (mIf (mB (mOp bEq (mVar 4) (mC (.int 1)))) (mRet (mVar 3)) mNext)
 (mSeq (mIf (mB (mOp bEq (mVar 4) (mC (.int 2)))) (mRet (mOp bSub (mVar 2) (mC (.int 1)))) mNext)
 (mSeq (mIf (mB (mOp bEq (mVar 4) (mC (.int 3)))) (mRet (mOp bAdd (mVar 3) (mC (.int 1)))) mNext)
 (mSeq (mIf (mB (mOp bEq (mVar 4) (mC (.int 4)))) (mRet (mOp bEq (mCB m__law_take (mCons (mVar 0) (mCons (mVar 1) (mCons (mC (.int 2)) mNil)))) (mC (.int 1)))) mNext)
 (mSeq (mIf (mB (mOp bEq (mVar 4) (mC (.int 5)))) (mRet (mOp bIx (mLst (mCons (mC .non) (mCons (mC (.str "3")) (mCons (mTup mNil) (mCons (mC (.str "")) (mCons (mTup (mCons (mC (.int 4)) mNil)) mNil)))))) (mCB m__law_take (mCons (mVar 0) (mCons (mVar 1) (mCons (mC (.int 5)) mNil)))))) mNext)
 (mRet (mOp bAdd (mVar 2) (mCB m__law_great (mCons (mVar 0) (mCons (mVar 1) (mCons (mOp bAdd (mOp bSub (mVar 3) (mVar 2)) (mC (.int 1))) mNil)))))))))))))
noncomputable def m__law_near : MF := gcF (mFn 5 b__law_near)
noncomputable def b__law_inner : MS :=
 (mSeq (mSet 2 (mCB m__law_take (mCons (mVar 0) (mCons (mVar 1) (mCons (mC (.int 8)) mNil)))))
 (mSeq (mIf (mB (mOp bLt (mVar 2) (mC (.int 2)))) (mSeq (mSet 3 (mCB m__law_near (mCons (mVar 0) (mCons (mVar 1) (mCons (mNeg (mC (.int 1000000000))) (mCons (mC (.int 1000000000)) mNil))))))
 (mSeq (mSet 4 (mCB m__law_near (mCons (mVar 0) (mCons (mVar 1) (mCons (mNeg (mC (.int 1000000000))) (mCons (mC (.int 1000000000)) mNil))))))
 (mSeq (mSet 5 (mAndV (mIsi "int" (mVar 3)) (mIsi "int" (mVar 4))))
 (mSeq (mIf (mAnd (mTru (mVar 5)) (mAnd (mB (mOp bLtN (mVar 4) (mVar 3))) (mB (mOp bGt (mCB m__law_take (mCons (mVar 0) (mCons (mVar 1) (mCons (mC (.int 5)) mNil)))) (mC (.int 0)))))) (mRet (mTup (mCons (mC (.str "int")) (mCons (mVar 4) (mCons (mVar 3) mNil))))) mNext)
 (mRet (mTup (mCons (mC (.str "int")) (mCons (mVar 3) (mCons (mVar 4) mNil))))))))) mNext)
 (mSeq (mIf (mB (mOp bLt (mVar 2) (mC (.int 4)))) (mRet (mTup (mCons (mC (.str "text")) (mCons (mCB m__law_near (mCons (mVar 0) (mCons (mVar 1) (mCons (mC (.int 0)) (mCons (mC (.int 40)) mNil))))) mNil)))) mNext)
 (mSeq (mIf (mB (mOp bLt (mVar 2) (mC (.int 6)))) (mRet (mTup (mCons (mC (.str "ref")) (mCons (mCB m__law_near (mCons (mVar 0) (mCons (mVar 1) (mCons (mC (.int 1)) (mCons (mC (.int 60)) mNil))))) mNil)))) mNext)
 (mSeq (mIf (mB (mOp bEq (mVar 2) (mC (.int 6)))) (mRet (mTup (mCons (mC (.str "never")) mNil))) mNext)
 (mRet (mOp bIx (mLst (mCons (mTup (mCons (mC (.str "none")) mNil)) (mCons (mTup mNil) (mCons (mTup (mCons (mC (.str "integer")) (mCons (mC (.int 0)) (mCons (mC (.int 1)) mNil)))) (mCons (mTup (mCons (mC (.int 5)) (mCons (mC (.int 0)) (mCons (mC (.int 1)) mNil)))) (mCons (mTup (mCons (mC (.str "list")) mNil)) (mCons (mTup (mCons (mC (.str "record")) (mCons (mC (.int 3)) mNil))) (mCons (mTup (mCons (mC (.str "Int")) (mCons (mC (.int 0)) (mCons (mC (.int 9)) mNil)))) (mCons (mTup (mCons (mC (.str "ref")) (mCons (mC (.str "point")) mNil))) mNil))))))))) (mCB m__law_take (mCons (mVar 0) (mCons (mVar 1) (mCons (mC (.int 8)) mNil)))))))))))
noncomputable def m__law_inner : MF := gcF (mFn 6 b__law_inner)
noncomputable def b__law_value : MS :=
 (mSeq (mIf (mB (mOp bEq (mCB m__law_take (mCons (mVar 0) (mCons (mVar 1) (mCons (mC (.int 9)) mNil)))) (mC (.int 4)))) (mRet (mOp bIx (mLst (mCons (mC .non) (mCons (mC (.bl true)) (mCons (mC (.int 0)) (mCons (mC (.str "int")) (mCons (mC (.str "")) (mCons (mC (.int 7)) (mCons (mNeg (mC (.int 41))) (mCons (mC (.str "never")) mNil))))))))) (mCB m__law_take (mCons (mVar 0) (mCons (mVar 1) (mCons (mC (.int 8)) mNil)))))) mNext)
 (mSeq (mSet 2 (mCB m__law_inner (mCons (mVar 0) (mCons (mVar 1) mNil))))
 (mSeq (mSet 3 (mCB m__law_take (mCons (mVar 0) (mCons (mVar 1) (mCons (mC (.int 8)) mNil)))))
 (mSeq (mIf (mB (mOp bGt (mVar 3) (mC (.int 3)))) (mSet 3 (mC (.int 0))) mNext)
 (mSeq (mFor (mRng1 (mCons (mVar 3) mNil)) (gN 4) (mSet 2 (mTup (mCons (mC (.str "list")) (mCons (mVar 2) (mCons (mCB m__law_near (mCons (mVar 0) (mCons (mVar 1) (mCons (mC (.int 0)) (mCons (mC (.int 40)) mNil))))) mNil))))))
 (mSeq (mSet 5 (mCB m__law_take (mCons (mVar 0) (mCons (mVar 1) (mCons (mC (.int 18)) mNil)))))
 (mSeq (mIf (mAnd (mB (mOp bEq (mVar 5) (mC (.int 0)))) (mB (mOp bGt (mCB fLen (mCons (mVar 2) mNil)) (mC (.int 0))))) (mRet (mSl (mVar 2) mNoP (mP (mNeg (mC (.int 1)))))) mNext)
 (mSeq (mIf (mB (mOp bEq (mVar 5) (mC (.int 1)))) (mRet (mOp bAdd (mVar 2) (mTup (mCons (mCB m__law_take (mCons (mVar 0) (mCons (mVar 1) (mCons (mC (.int 3)) mNil)))) mNil)))) mNext)
 (mSeq (mIf (mAnd (mB (mOp bEq (mVar 5) (mC (.int 2)))) (mB (mOp bGt (mCB fLen (mCons (mVar 2) mNil)) (mC (.int 0))))) (mRet (mOp bAdd (mTup (mCons (mOp bIx (mLst (mCons (mC (.str "list")) (mCons (mC (.str "int")) (mCons (mC (.str "text")) (mCons (mC (.str "ref")) (mCons (mC (.str "never")) (mCons (mC (.str "lists")) mNil))))))) (mCB m__law_take (mCons (mVar 0) (mCons (mVar 1) (mCons (mC (.int 6)) mNil))))) mNil)) (mSl (mVar 2) (mP (mC (.int 1))) mNoP))) mNext)
 (mRet (mVar 2)))))))))))
noncomputable def m__law_value : MF := gcF (mFn 6 b__law_value)
noncomputable def b__law_is_number : MS :=
 (mSeq (mIf (mOr (mTru (mIsi "bool" (mVar 0))) (mNot (mTru (mIsi "int" (mVar 0))))) (mRet (mC (.bl false))) mNext)
 (mRet (mAndV (mOp bLe (mVar 1) (mVar 0)) (mOp bLe (mVar 0) (mVar 2)))))
noncomputable def m__law_is_number : MF := gcF (mFn 3 b__law_is_number)
noncomputable def b__law_is_shape : MS :=
 (mSeq (mFor (mRng1 (mCons (mC (.int 3)) mNil)) (gN 1) (mSeq (mIf (mOr (mNot (mTru (mIsi "tuple" (mVar 0)))) (mOr (mB (mOp bEq (mCB fLen (mCons (mVar 0) mNil)) (mC (.int 0)))) (mNot (mTru (mIsi "str" (mOp bIx (mVar 0) (mC (.int 0)))))))) (mRet (mC (.bl false))) mNext)
 (mIf (mB (mOp bEq (mOp bIx (mVar 0) (mC (.int 0))) (mC (.str "list")))) (mSeq (mIf (mOr (mB (mOp bNe (mCB fLen (mCons (mVar 0) mNil)) (mC (.int 3)))) (mNot (mTru (mCB m__law_is_number (mCons (mOp bIx (mVar 0) (mC (.int 2))) (mCons (mC (.int 0)) (mCons (mC (.int 40)) mNil))))))) (mRet (mC (.bl false))) mNext)
 (mSet 0 (mOp bIx (mVar 0) (mC (.int 1))))) (mIf (mB (mOp bEq (mOp bIx (mVar 0) (mC (.int 0))) (mC (.str "int")))) (mSeq (mIf (mOr (mB (mOp bNe (mCB fLen (mCons (mVar 0) mNil)) (mC (.int 3)))) (mNot (mTru (mCB m__law_is_number (mCons (mOp bIx (mVar 0) (mC (.int 1))) (mCons (mNeg (mC (.int 1000000000))) (mCons (mC (.int 1000000000)) mNil))))))) (mRet (mC (.bl false))) mNext)
 (mRet (mCB m__law_is_number (mCons (mOp bIx (mVar 0) (mC (.int 2))) (mCons (mOp bIx (mVar 0) (mC (.int 1))) (mCons (mC (.int 1000000000)) mNil)))))) (mIf (mB (mOp bEq (mOp bIx (mVar 0) (mC (.int 0))) (mC (.str "text")))) (mRet (mAndV (mOp bEq (mCB fLen (mCons (mVar 0) mNil)) (mC (.int 2))) (mCB m__law_is_number (mCons (mOp bIx (mVar 0) (mC (.int 1))) (mCons (mC (.int 0)) (mCons (mC (.int 40)) mNil)))))) (mIf (mB (mOp bEq (mOp bIx (mVar 0) (mC (.int 0))) (mC (.str "ref")))) (mRet (mAndV (mOp bEq (mCB fLen (mCons (mVar 0) mNil)) (mC (.int 2))) (mCB m__law_is_number (mCons (mOp bIx (mVar 0) (mC (.int 1))) (mCons (mC (.int 1)) (mCons (mC (.int 60)) mNil)))))) (mRet (mAndV (mOp bEq (mOp bIx (mVar 0) (mC (.int 0))) (mC (.str "never"))) (mOp bEq (mCB fLen (mCons (mVar 0) mNil)) (mC (.int 1)))))))))))
 (mRet (mC (.bl false))))
noncomputable def m__law_is_shape : MF := gcF (mFn 2 b__law_is_shape)
noncomputable def b__law_same (mself : MF) : MS :=
 (mSeq (mIf (mOr (mTru (mIsi "tuple" (mVar 0))) (mTru (mIsi "tuple" (mVar 1)))) (mSeq (mIf (mOr (mNot (mTru (mIsi "tuple" (mVar 0)))) (mOr (mNot (mTru (mIsi "tuple" (mVar 1)))) (mB (mOp bNe (mCB fLen (mCons (mVar 0) mNil)) (mCB fLen (mCons (mVar 1) mNil)))))) (mRet (mC (.bl false))) mNext)
 (mSeq (mFor (mRng1 (mCons (mCB fLen (mCons (mVar 0) mNil)) mNil)) (gN 2) (mIf (mNot (mTru (mCB mself (mCons (mOp bIx (mVar 0) (mVar 2)) (mCons (mOp bIx (mVar 1) (mVar 2)) mNil))))) (mRet (mC (.bl false))) mNext))
 (mRet (mC (.bl true))))) mNext)
 (mSeq (mIf (mOr (mB (mOp bNe (mIsi "bool" (mVar 0)) (mIsi "bool" (mVar 1)))) (mB (mOp bNe (mIsi "str" (mVar 0)) (mIsi "str" (mVar 1))))) (mRet (mC (.bl false))) mNext)
 (mRet (mOp bEq (mVar 0) (mVar 1)))))
noncomputable def m__law_same : Nat → MF
  | 0 => fun _ _ => .bad
  | n + 1 => gcF (mFn 3 (b__law_same (m__law_same n)))
noncomputable def b__law_refs : MS :=
 (mSeq (mFor (mRng1 (mCons (mC (.int 3)) mNil)) (gN 1) (mSeq (mIf (mB (mOp bNe (mOp bIx (mVar 0) (mC (.int 0))) (mC (.str "list")))) mBreak mNext)
 (mSet 0 (mOp bIx (mVar 0) (mC (.int 1))))))
 (mSeq (mIf (mB (mOp bEq (mOp bIx (mVar 0) (mC (.int 0))) (mC (.str "ref")))) (mRet (mTup (mCons (mOp bIx (mVar 0) (mC (.int 1))) mNil))) mNext)
 (mRet (mTup mNil))))
noncomputable def m__law_refs : MF := gcF (mFn 2 b__law_refs)
noncomputable def b__law_right : MS :=
 (mSeq (mSet 1 (mCB m__law_is_shape (mCons (mVar 0) mNil)))
 (mSeq (mSet 2 (mC (.bl false)))
 (mSeq (mSet 3 (mC (.int 0)))
 (mSeq (mTry sub_BadShape 4 (mSet 3 (mCB m_check_shape (mCons (mVar 0) mNil))) (mSeq (mSet 2 (mAndV (mExcIs 2 4 true) (mExcIs 2 4 true)))
 (mIf (mOr (mTru (mExcIs 2 4 false)) (mOr (mTru (mExcIs 2 4 false)) (mNot (mTru (mCB (m__law_same 8) (mCons (mExcF ["shape"] 2 4 "shape") (mCons (mVar 0) mNil))))))) (mRet (mC (.bl false))) mNext)))
 (mSeq (mIf (mNot (mTru (mVar 1))) (mRet (mVar 2)) mNext)
 (mSeq (mIf (mOr (mTru (mVar 2)) (mB (mOp bNotN (mVar 3) (mC .non)))) (mRet (mC (.bl false))) mNext)
 (mSeq (mSet 5 (mCB m_shape_refs (mCons (mVar 0) mNil)))
 (mRet (mAndV (mIsi "tuple" (mVar 5)) (mCB (m__law_same 8) (mCons (mVar 5) (mCons (mCB m__law_refs (mCons (mVar 0) mNil)) mNil))))))))))))
noncomputable def m__law_right : MF := gcF (mFn 6 b__law_right)
noncomputable def b_law : MS :=
 (mSeq (mSet 1 (mCB m__law_numbers (mCons (mVar 0) mNil)))
 (mSeq (mSet 2 (mLst (mCons (mC (.int 0)) mNil)))
 (mSeq (mFor (mRng1 (mCons (mC (.int 3)) mNil)) (gN 3) (mIf (mNot (mTru (mCB m__law_right (mCons (mCB m__law_value (mCons (mVar 1) (mCons (mVar 2) mNil))) mNil)))) (mRet (mC (.bl false))) mNext))
 (mSeq (mSet 4 (mTup (mCons (mC (.str "list")) (mCons (mTup (mCons (mC (.str "list")) (mCons (mTup (mCons (mC (.str "ref")) (mCons (mC (.int 60)) mNil))) (mCons (mC (.int 0)) mNil)))) (mCons (mC (.int 40)) mNil)))))
 (mRet (mAndV (mCB m__law_right (mCons (mVar 4) mNil)) (mCB m__law_right (mCons (mTup (mCons (mC (.str "list")) (mCons (mVar 4) (mCons (mC (.int 1)) mNil)))) mNil))))))))
noncomputable def m_law : MF := gcF (mFn 5 b_law)
end K01
end

section
namespace K01
open PySem L2 FL
/-! ### plain data -/
def hdOk : List D → Bool
  | .tup _ :: _ => false
  | _ => true
def Pu : Nat → D → Bool
  | _, .non => true
  | _, .bl _ => true
  | _, .int _ => true
  | _, .str s => PyData.strOk s
  | n + 1, .tup ds => decide (ds.length ≤ 8) && (ds.all (Pu n) && hdOk ds)
  | _, _ => false
theorem pu_tup {n : Nat} {ds : List D} : Pu (n + 1) (.tup ds) = true ↔ ds.length ≤ 8 ∧ (∀ d ∈ ds, Pu n d = true) ∧ hdOk ds = true := by
  rw [Pu]
  simp
theorem pu_up : ∀ (n : Nat) (d : D), Pu n d = true → Pu (n + 1) d = true
  | _, .non, _ => by simp [Pu]
  | _, .bl _, _ => by simp [Pu]
  | _, .int _, _ => by simp [Pu]
  | 0, .str s, h => by simp [Pu] at h ⊢; exact h
  | n + 1, .str s, h => by simp [Pu] at h ⊢; exact h
  | 0, .tup ds, h => by simp [Pu] at h
  | n + 1, .tup ds, h => by
    rw [pu_tup] at h ⊢
    exact ⟨h.1, fun d hd => pu_up n d (h.2.1 d hd), h.2.2⟩
  | 0, .fz ds, h => by simp [Pu] at h
  | n + 1, .fz ds, h => by simp [Pu] at h
  | 0, .ref k, h => by simp [Pu] at h
  | n + 1, .ref k, h => by simp [Pu] at h
theorem pu_lay : ∀ (n : Nat) (d : D), Pu n d = true → (pyD d).canLay0 = true ∧ (pyD d).depth ≤ n
  | _, .non, _ => by simp [pyD, PyData.canLay0, PyData.depth]
  | _, .bl _, _ => by simp [pyD, PyData.canLay0, PyData.depth]
  | _, .int _, _ => by simp [pyD, PyData.canLay0, PyData.depth]
  | 0, .str s, h => by simp [Pu] at h; simp [pyD, PyData.canLay0, PyData.depth, h]
  | n + 1, .str s, h => by simp [Pu] at h; simp [pyD, PyData.canLay0, PyData.depth, h]
  | 0, .tup ds, h => by simp [Pu] at h
  | n + 1, .tup ds, h => by
    rw [pu_tup] at h
    have all : ∀ l : List D, (∀ d ∈ l, Pu n d = true) → PyData.canLayAll0 (pyL l) = true ∧ PyData.depthAll (pyL l) ≤ n := by
      intro l
      induction l with
      | nil => intro _; simp [pyL, PyData.canLayAll0, PyData.depthAll]
      | cons x l ih =>
        intro hl
        obtain ⟨a1, a2⟩ := ih fun d hd => hl d (List.mem_cons_of_mem _ hd)
        obtain ⟨b1, b2⟩ := pu_lay n x (hl x List.mem_cons_self)
        simp [pyL, PyData.canLayAll0, PyData.depthAll, a1, b1]
        omega
    obtain ⟨a1, a2⟩ := all ds h.2.1
    simp [pyD, PyData.canLay0, PyData.depth, a1]
    exact a2
  | 0, .fz ds, h => by simp [Pu] at h
  | n + 1, .fz ds, h => by simp [Pu] at h
  | 0, .ref k, h => by simp [Pu] at h
  | n + 1, .ref k, h => by simp [Pu] at h
theorem pu_bel : ∀ (n : Nat) (d : D) (k : Nat), Pu n d = true → Bel k d
  | _, .non, _, _ => bel_n
  | _, .bl _, _, _ => bel_b
  | _, .int _, _, _ => bel_i
  | _, .str _, _, _ => bel_s
  | 0, .tup ds, _, h => by simp [Pu] at h
  | n + 1, .tup ds, k, h => by
    rw [pu_tup] at h
    rw [bel_t]
    have all : ∀ l : List D, (∀ d ∈ l, Pu n d = true) → BelL k l := by
      intro l
      induction l with
      | nil => intro _; exact belL_n
      | cons x l ih => intro hl; rw [belL_c]; exact ⟨pu_bel n x k (hl x List.mem_cons_self), ih fun d hd => hl d (List.mem_cons_of_mem _ hd)⟩
    exact all ds h.2.1
  | 0, .fz ds, _, h => by simp [Pu] at h
  | n + 1, .fz ds, _, h => by simp [Pu] at h
  | 0, .ref k, _, h => by simp [Pu] at h
  | n + 1, .ref k, _, h => by simp [Pu] at h
/-- not a tuple -/
def flat : D → Bool
  | .non => true
  | .bl _ => true
  | .int _ => true
  | .str _ => true
  | _ => false
def isS (d : D) (s : Str) : Bool := match d with
  | .str t => decide (t = s)
  | _ => false
theorem eq_str {d : D} (h : flat d = true) (s : Str) (S : Store) : bEq d (.str s) S = .ok (.bl (isS d s)) S := by
  cases d with
  | non => rfl
  | bl b => rfl
  | int i => rfl
  | str t => rfl
  | _ => simp [flat] at h
theorem ne_str {d : D} (h : flat d = true) (s : Str) (S : Store) : bNe d (.str s) S = .ok (.bl (!isS d s)) S := by
  cases d with
  | non => rfl
  | bl b => rfl
  | int i => rfl
  | str t => rfl
  | _ => simp [flat] at h
theorem hd_flat {n : Nat} {d : D} {ds : List D} (h : Pu n (.tup (d :: ds)) = true) : flat d = true := by
  cases n with
  | zero => simp [Pu] at h
  | succ n =>
    rw [pu_tup] at h
    have h1 := h.2.1 d List.mem_cons_self
    have h2 := h.2.2
    cases d with
    | tup l => simp [hdOk] at h2
    | fz l => cases n <;> simp [Pu] at h1
    | ref l => cases n <;> simp [Pu] at h1
    | _ => rfl
def nv : List D → Bool
  | [.str t] => decide (t = ("never" : Str))
  | _ => false
theorem eq_never {n : Nat} {ds : List D} (h : Pu n (.tup ds) = true) (hn : n ≤ 60) (S : Store) : bEq (.tup ds) (.tup [.str "never"]) S = .ok (.bl (nv ds)) S := by
  refine bEq_of ?_
  obtain ⟨l1, l2⟩ := pu_lay n _ h
  have s1 : SeqAt.shaped (pyD (.tup ds)) = true := by unfold SeqAt.shaped; rw [l1]; simp; omega
  have s2 : SeqAt.shaped (pyD (.tup [.str "never"])) = true := by decide +kernel
  unfold eqD
  show (if SeqAt.shaped (pyD (.tup ds)) = true ∧ SeqAt.shaped (pyD (.tup [.str "never"])) = true then some _ else none) = _
  rw [if_pos ⟨s1, s2⟩]
  congr 1
  cases ds with
  | nil => rfl
  | cons d r =>
    have hf := hd_flat h
    cases r with
    | nil =>
      cases d with
      | str t => 
        show (PyData.eqv (.str t) (.str "never") && true) = decide (t = ("never" : Str))
        rw [Bool.and_true]
        by_cases e : t = ("never" : Str)
        · subst e; rw [decide_eq_true rfl]; decide +kernel
        · rw [decide_eq_false e]
          show (t == ("never" : Str)) = false
          exact beq_eq_false_iff_ne.mpr e
      | non => rfl
      | bl b => rfl
      | int i => rfl
      | _ => simp [flat] at hf
    | cons e r =>
      show (PyData.eqv (pyD d) (.str "never") && (PyData.eqvAll (pyD e :: pyL r) [])) = _
      rw [show PyData.eqvAll (pyD e :: pyL r) [] = false from rfl, Bool.and_false]
      cases d <;> rfl
/-! ### ints in a range -/
def inr (d : D) (lo hi : Int) : Bool := match d with
  | .int i => decide (lo ≤ i) && decide (i ≤ hi)
  | _ => false
theorem t_in (n : Nat) (d : D) (h : Pu n d = true) (lo hi : Int) (S : Store) : m_is_int_in [d, .int lo, .int hi] S = .ok (.bl (inr d lo hi)) S := by
  cases d with
  | int i =>
    by_cases h1 : lo ≤ i <;> simp [m_is_int_in, rho0, b_is_int_in, m_is_int, b_is_int, inr, h1]
  | non => simp [m_is_int_in, rho0, b_is_int_in, m_is_int, b_is_int, inr]
  | bl b => simp [m_is_int_in, rho0, b_is_int_in, m_is_int, b_is_int, inr]
  | str s => simp [m_is_int_in, rho0, b_is_int_in, m_is_int, b_is_int, inr]
  | tup s => simp [m_is_int_in, rho0, b_is_int_in, m_is_int, b_is_int, inr]
  | fz s => cases n <;> simp [Pu] at h
  | ref s => cases n <;> simp [Pu] at h
theorem k_nb : kitB "NoneType" "bool" = some false := by decide +kernel
theorem k_sb : kitB "str" "bool" = some false := by decide +kernel
theorem k_tb : kitB "tuple" "bool" = some false := by decide +kernel
theorem t_num (n : Nat) (d : D) (h : Pu n d = true) (lo hi : Int) (S : Store) : m__law_is_number [d, .int lo, .int hi] S = .ok (.bl (inr d lo hi)) S := by
  cases d with
  | int i =>
    by_cases h1 : lo ≤ i <;> simp [m__law_is_number, rho0, b__law_is_number, inr, h1]
  | non => simp [m__law_is_number, rho0, b__law_is_number, inr, k_nb]
  | bl b => simp [m__law_is_number, rho0, b__law_is_number, inr]
  | str s => simp [m__law_is_number, rho0, b__law_is_number, inr, k_sb]
  | tup s => simp [m__law_is_number, rho0, b__law_is_number, inr, k_tb]
  | fz s => cases n <;> simp [Pu] at h
  | ref s => cases n <;> simp [Pu] at h
/-! ### shapes -/
def smp (d : D) : Bool := match d with
  | .tup (.str w :: r) => if w = ("int" : Str) then (match r with
      | [.int i, b] => inr (.int i) (-1000000000) 1000000000 && inr b i 1000000000
      | _ => false)
    else if w = ("text" : Str) then (match r with
      | [a] => inr a 0 40
      | _ => false)
    else if w = ("ref" : Str) then (match r with
      | [a] => inr a 1 60
      | _ => false)
    else decide (w = ("never" : Str)) && r.isEmpty
  | _ => false
def isl (d : D) : Bool := match d with
  | .tup [.str w, _, b] => decide (w = ("list" : Str)) && inr b 0 40
  | _ => false
def unl (d : D) : D := match d with
  | .tup [.str w, x, b] => if (decide (w = ("list" : Str)) && inr b 0 40) = true then x else d
  | d => d
theorem k_nT : kitB "NoneType" "tuple" = some false := k_nt
theorem t_simple (n : Nat) (hn : n ≤ 60) (d : D) (h : Pu n d = true) (S : Store) : m__is_simple [d] S = .ok (.bl (smp d)) S := by
  cases d with
  | non => simp [m__is_simple, rho0, b__is_simple, smp]
  | bl b => simp [m__is_simple, rho0, b__is_simple, smp]
  | int i => simp [m__is_simple, rho0, b__is_simple, smp]
  | str s => simp [m__is_simple, rho0, b__is_simple, smp]
  | fz s => cases n <;> simp [Pu] at h
  | ref s => cases n <;> simp [Pu] at h
  | tup ds =>
    cases n with
    | zero => simp [Pu] at h
    | succ n =>
    have hp := (pu_tup.mp h).2.1
    cases ds with
    | nil => simp [m__is_simple, rho0, b__is_simple, smp]
    | cons d r =>
      have hf := hd_flat h
      have e1 := fun s S => eq_str hf s S
      have en := fun S => eq_never h hn S
      have hl : ¬ ((r.length : Int) + 1 = 0) := by omega
      cases d with
      | str w =>
        by_cases w1 : w = ("int" : Str)
        · subst w1
          rcases r with _ | ⟨a, _ | ⟨b, _ | ⟨c, r⟩⟩⟩
          · simp [m__is_simple, rho0, b__is_simple, smp]
          · simp [m__is_simple, rho0, b__is_simple, smp]
          · have pa := hp a (by simp)
            have pb := hp b (by simp)
            have ia := fun lo hi S => t_in n a pa lo hi S
            have ib := fun lo hi S => t_in n b pb lo hi S
            cases a with
            | int i =>
              by_cases z : inr (.int i) (-1000000000) 1000000000 = true
              · simp [m__is_simple, rho0, b__is_simple, smp, ia, ib, z]
              · simp [m__is_simple, rho0, b__is_simple, smp, ia, ib, z]
            | _ => simp [m__is_simple, rho0, b__is_simple, smp, ia, inr]
          · have q : ¬ ((r.length : Int) + 1 + 1 + 1 + 1 = 3) := by omega
            have q0 : ¬ ((r.length : Int) + 1 + 1 + 1 + 1 = 0) := by omega
            simp [m__is_simple, rho0, b__is_simple, smp, q, q0]
        · by_cases w2 : w = ("text" : Str)
          · subst w2
            rcases r with _ | ⟨a, _ | ⟨b, r⟩⟩
            · simp [m__is_simple, rho0, b__is_simple, smp, w1]
            · have ia := fun lo hi S => t_in n a (hp a (by simp)) lo hi S
              simp [m__is_simple, rho0, b__is_simple, smp, ia, w1]
            · have q : ¬ ((r.length : Int) + 1 + 1 + 1 = 2) := by omega
              have q0 : ¬ ((r.length : Int) + 1 + 1 + 1 = 0) := by omega
              simp [m__is_simple, rho0, b__is_simple, smp, q, q0, w1]
          · by_cases w3 : w = ("ref" : Str)
            · subst w3
              rcases r with _ | ⟨a, _ | ⟨b, r⟩⟩
              · simp [m__is_simple, rho0, b__is_simple, smp, w1, w2]
              · have ia := fun lo hi S => t_in n a (hp a (by simp)) lo hi S
                simp [m__is_simple, rho0, b__is_simple, smp, ia, w1, w2]
              · have q : ¬ ((r.length : Int) + 1 + 1 + 1 = 2) := by omega
                have q0 : ¬ ((r.length : Int) + 1 + 1 + 1 = 0) := by omega
                simp [m__is_simple, rho0, b__is_simple, smp, q, q0, w1, w2]
            · simp [m__is_simple, rho0, b__is_simple, smp, hl, w1, w2, w3, en]
              cases r <;> simp [nv]
      | non => 
        simp [m__is_simple, rho0, b__is_simple, smp, hl, e1, isS, en]
        cases r <;> simp [nv]
      | bl b => simp [m__is_simple, rho0, b__is_simple, smp, hl, e1, isS, en]; cases r <;> simp [nv]
      | int b => simp [m__is_simple, rho0, b__is_simple, smp, hl, e1, isS, en]; cases r <;> simp [nv]
      | _ => simp [flat] at hf
theorem isl_non {d : D} (h : ∀ w x b, d ≠ .tup [.str w, x, b]) : isl d = false := by
  unfold isl
  split
  · rename_i w x b; exact absurd rfl (h w x b)
  · rfl
theorem t_list (n : Nat) (d : D) (h : Pu n d = true) (S : Store) : m__is_list [d] S = .ok (.bl (isl d)) S := by
  cases d with
  | non => simp [m__is_list, rho0, b__is_list, isl]
  | bl b => simp [m__is_list, rho0, b__is_list, isl]
  | int i => simp [m__is_list, rho0, b__is_list, isl]
  | str s => simp [m__is_list, rho0, b__is_list, isl]
  | fz s => cases n <;> simp [Pu] at h
  | ref s => cases n <;> simp [Pu] at h
  | tup ds =>
    cases n with
    | zero => simp [Pu] at h
    | succ n =>
    have hp := (pu_tup.mp h).2.1
    rcases ds with _ | ⟨a, _ | ⟨b, _ | ⟨c, _ | ⟨e, r⟩⟩⟩⟩
    · simp [m__is_list, rho0, b__is_list, isl]
    · simp [m__is_list, rho0, b__is_list, isl]
    · simp [m__is_list, rho0, b__is_list, isl]
    · have hf := hd_flat h
      have e1 := fun s S => eq_str hf s S
      have ic := fun lo hi S => t_in n c (hp c (by simp)) lo hi S
      cases a with
      | str w =>
        by_cases w1 : w = ("list" : Str)
        · simp [m__is_list, rho0, b__is_list, isl, w1, ic]
        · simp [m__is_list, rho0, b__is_list, isl, w1]
      | non => simp [m__is_list, rho0, b__is_list, isl, e1, isS]
      | bl b => simp [m__is_list, rho0, b__is_list, isl, e1, isS]
      | int b => simp [m__is_list, rho0, b__is_list, isl, e1, isS]
      | _ => simp [flat] at hf
    · have q : ¬ ((r.length : Int) + 1 + 1 + 1 + 1 = 3) := by omega
      simp [m__is_list, rho0, b__is_list, isl, q]
theorem isl_form {d : D} (h : isl d = true) : ∃ x b, d = .tup [.str "list", x, b] ∧ inr b 0 40 = true ∧ unl d = x := by
  unfold isl at h
  split at h
  · rename_i w x b
    have hh := h
    rw [Bool.and_eq_true] at h
    have e := of_decide_eq_true h.1
    subst e
    exact ⟨x, b, rfl, h.2, by unfold unl; exact if_pos hh⟩
  · cases h
theorem unl_same {d : D} (h : isl d = false) : unl d = d := by
  unfold unl
  split
  · rename_i w x b
    have h' : (decide (w = ("list" : Str)) && inr b 0 40) = false := h
    rw [if_neg (by rw [h']; exact Bool.false_ne_true)]
  · rfl
theorem pu_unl {n : Nat} {d : D} (h : Pu n d = true) : Pu n (unl d) = true := by
  cases hi : isl d with
  | false => rw [unl_same hi]; exact h
  | true =>
    obtain ⟨x, b, e, _, e2⟩ := isl_form hi
    rw [e2]
    subst e
    cases n with
    | zero => simp [Pu] at h
    | succ n => exact pu_up n x ((pu_tup.mp h).2.1 x (by simp))
def shp (d : D) : Bool := smp (unl (unl d))
noncomputable def shB : MS := (mIf (mTru (mCB m__is_list (mCons (mVar 1) mNil))) (mSet 1 (mOp bIx (mVar 1) (mC (.int 1)))) mNext)
theorem is_shape_eq : b_is_shape = (mSeq (mSet 1 (mVar 0))
 (mSeq (mFor (mRng1 (mCons (mC (.int 2)) mNil)) (gN 2) shB)
 (mRet (mCB m__is_simple (mCons (mVar 1) mNil))))) := rfl
theorem t_shB (n : Nat) (d : D) (h : Pu n d = true) (x y : Sl) (S : Store) : shB [x, .dat d, y] S = .nx [x, .dat (unl d), y] S := by
  have w := t_list n d h S
  cases hi : isl d with
  | false => simp [shB, w, hi, unl_same hi]
  | true =>
    obtain ⟨x, b, e, _, e2⟩ := isl_form hi
    rw [e2]
    rw [hi] at w
    subst e
    simp [shB, w]
theorem t_shape (n : Nat) (hn : n ≤ 60) (d : D) (h : Pu n d = true) (S : Store) : m_is_shape [d] S = .ok (.bl (shp d)) S := by
  have h1 := pu_unl h
  have h2 := pu_unl h1
  have b1 := fun x y S => t_shB n d h x y S
  have b2 := fun x y S => t_shB n (unl d) h1 x y S
  have w := fun S => t_simple n hn (unl (unl d)) h2 S
  have r2 : List.range 2 = [0, 1] := rfl
  simp [m_is_shape, rho0, is_shape_eq, r2, b1, b2, w, shp]
/-! ### the law's own judgement -/
noncomputable def lsB : MS := (mSeq (mIf (mOr (mNot (mTru (mIsi "tuple" (mVar 0)))) (mOr (mB (mOp bEq (mCB fLen (mCons (mVar 0) mNil)) (mC (.int 0)))) (mNot (mTru (mIsi "str" (mOp bIx (mVar 0) (mC (.int 0)))))))) (mRet (mC (.bl false))) mNext)
 (mIf (mB (mOp bEq (mOp bIx (mVar 0) (mC (.int 0))) (mC (.str "list")))) (mSeq (mIf (mOr (mB (mOp bNe (mCB fLen (mCons (mVar 0) mNil)) (mC (.int 3)))) (mNot (mTru (mCB m__law_is_number (mCons (mOp bIx (mVar 0) (mC (.int 2))) (mCons (mC (.int 0)) (mCons (mC (.int 40)) mNil))))))) (mRet (mC (.bl false))) mNext)
 (mSet 0 (mOp bIx (mVar 0) (mC (.int 1))))) (mIf (mB (mOp bEq (mOp bIx (mVar 0) (mC (.int 0))) (mC (.str "int")))) (mSeq (mIf (mOr (mB (mOp bNe (mCB fLen (mCons (mVar 0) mNil)) (mC (.int 3)))) (mNot (mTru (mCB m__law_is_number (mCons (mOp bIx (mVar 0) (mC (.int 1))) (mCons (mNeg (mC (.int 1000000000))) (mCons (mC (.int 1000000000)) mNil))))))) (mRet (mC (.bl false))) mNext)
 (mRet (mCB m__law_is_number (mCons (mOp bIx (mVar 0) (mC (.int 2))) (mCons (mOp bIx (mVar 0) (mC (.int 1))) (mCons (mC (.int 1000000000)) mNil)))))) (mIf (mB (mOp bEq (mOp bIx (mVar 0) (mC (.int 0))) (mC (.str "text")))) (mRet (mAndV (mOp bEq (mCB fLen (mCons (mVar 0) mNil)) (mC (.int 2))) (mCB m__law_is_number (mCons (mOp bIx (mVar 0) (mC (.int 1))) (mCons (mC (.int 0)) (mCons (mC (.int 40)) mNil)))))) (mIf (mB (mOp bEq (mOp bIx (mVar 0) (mC (.int 0))) (mC (.str "ref")))) (mRet (mAndV (mOp bEq (mCB fLen (mCons (mVar 0) mNil)) (mC (.int 2))) (mCB m__law_is_number (mCons (mOp bIx (mVar 0) (mC (.int 1))) (mCons (mC (.int 1)) (mCons (mC (.int 60)) mNil)))))) (mRet (mAndV (mOp bEq (mOp bIx (mVar 0) (mC (.int 0))) (mC (.str "never"))) (mOp bEq (mCB fLen (mCons (mVar 0) mNil)) (mC (.int 1))))))))))
theorem lis_eq : b__law_is_shape = (mSeq (mFor (mRng1 (mCons (mC (.int 3)) mNil)) (gN 1) lsB)
 (mRet (mC (.bl false)))) := rfl
theorem t_lsB (n : Nat) (d : D) (h : Pu n d = true) (y : Sl) (S : Store) : lsB [.dat d, y] S = if isl d = true then .nx [.dat (unl d), y] S else .rt (.bl (smp d)) S := by
  cases d with
  | non => simp [lsB, isl, smp]
  | bl b => simp [lsB, isl, smp]
  | int i => simp [lsB, isl, smp]
  | str s => simp [lsB, isl, smp]
  | fz s => cases n <;> simp [Pu] at h
  | ref s => cases n <;> simp [Pu] at h
  | tup ds =>
    cases n with
    | zero => simp [Pu] at h
    | succ n =>
    have hp := (pu_tup.mp h).2.1
    cases ds with
    | nil => simp [lsB, isl, smp]
    | cons d r =>
      have hf := hd_flat h
      have hl : ¬ ((r.length : Int) + 1 = 0) := by omega
      cases d with
      | non => simp [lsB, hl, isl, smp]
      | bl b => simp [lsB, hl, isl, smp]
      | int i => simp [lsB, hl, isl, smp]
      | tup l => simp [flat] at hf
      | fz l => simp [flat] at hf
      | ref l => simp [flat] at hf
      | str w =>
        by_cases w0 : w = ("list" : Str)
        · subst w0
          have n1 : ¬ (("list" : Str) = ("int" : Str)) := by decide +kernel
          have n2 : ¬ (("list" : Str) = ("text" : Str)) := by decide +kernel
          have n3 : ¬ (("list" : Str) = ("ref" : Str)) := by decide +kernel
          have n4 : ¬ (("list" : Str) = ("never" : Str)) := by decide +kernel
          rcases r with _ | ⟨a, _ | ⟨b, _ | ⟨c, r⟩⟩⟩
          · simp [lsB, isl, smp, n1, n2, n3, n4]
          · simp [lsB, isl, smp, n1, n2, n3, n4]
          · have ib := fun lo hi S => t_num n b (hp b (by simp)) lo hi S
            cases z : inr b 0 40 with
            | true => simp [lsB, isl, smp, n1, n2, n3, n4, ib, z, unl]
            | false => simp [lsB, isl, smp, n1, n2, n3, n4, ib, z]
          · have q : ¬ ((r.length : Int) + 1 + 1 + 1 + 1 = 3) := by omega
            have q0 : ¬ ((r.length : Int) + 1 + 1 + 1 + 1 = 0) := by omega
            simp [lsB, isl, smp, n1, n2, n3, n4, q, q0]
        · have ni : isl (.tup (.str w :: r)) = false := by
            unfold isl
            split
            · rename_i q; cases q; rw [decide_eq_false w0]; rfl
            · rfl
          rw [if_neg (by rw [ni]; exact Bool.false_ne_true)]
          by_cases w1 : w = ("int" : Str)
          · subst w1
            rcases r with _ | ⟨a, _ | ⟨b, _ | ⟨c, r⟩⟩⟩
            · simp [lsB, smp, w0]
            · simp [lsB, smp, w0]
            · have ia := fun lo hi S => t_num n a (hp a (by simp)) lo hi S
              have ib := fun lo hi S => t_num n b (hp b (by simp)) lo hi S
              cases a with
              | int i =>
                cases z : inr (.int i) (-1000000000) 1000000000 with
                | true => simp [lsB, smp, w0, ia, ib, z]
                | false => simp [lsB, smp, w0, ia, ib, z]
              | _ => simp [lsB, smp, w0, ia, inr]
            · have q : ¬ ((r.length : Int) + 1 + 1 + 1 + 1 = 3) := by omega
              have q0 : ¬ ((r.length : Int) + 1 + 1 + 1 + 1 = 0) := by omega
              simp [lsB, smp, w0, q, q0]
          · by_cases w2 : w = ("text" : Str)
            · subst w2
              rcases r with _ | ⟨a, _ | ⟨b, r⟩⟩
              · simp [lsB, smp, w0, w1]
              · have ia := fun lo hi S => t_num n a (hp a (by simp)) lo hi S
                simp [lsB, smp, w0, w1, ia]
              · have q : ¬ ((r.length : Int) + 1 + 1 + 1 = 2) := by omega
                have q0 : ¬ ((r.length : Int) + 1 + 1 + 1 = 0) := by omega
                simp [lsB, smp, w0, w1, q, q0]
            · by_cases w3 : w = ("ref" : Str)
              · subst w3
                rcases r with _ | ⟨a, _ | ⟨b, r⟩⟩
                · simp [lsB, smp, w0, w1, w2]
                · have ia := fun lo hi S => t_num n a (hp a (by simp)) lo hi S
                  simp [lsB, smp, w0, w1, w2, ia]
                · have q : ¬ ((r.length : Int) + 1 + 1 + 1 = 2) := by omega
                  have q0 : ¬ ((r.length : Int) + 1 + 1 + 1 = 0) := by omega
                  simp [lsB, smp, w0, w1, w2, q, q0]
              · by_cases w4 : w = ("never" : Str)
                · subst w4
                  cases r with
                  | nil => simp [lsB, smp, w0, w1, w2, w3]
                  | cons a r =>
                    have q : ¬ ((r.length : Int) + 1 + 1 = 1) := by omega
                    have q0 : ¬ ((r.length : Int) + 1 + 1 = 0) := by omega
                    simp [lsB, smp, w0, w1, w2, w3, q, q0]
                · simp [lsB, smp, hl, w0, w1, w2, w3, w4]
theorem smp_list {d : D} (h : isl d = true) : smp d = false := by
  obtain ⟨x, b, e, _, _⟩ := isl_form h
  subst e
  have n1 : ¬ (("list" : Str) = ("int" : Str)) := by decide +kernel
  have n2 : ¬ (("list" : Str) = ("text" : Str)) := by decide +kernel
  have n3 : ¬ (("list" : Str) = ("ref" : Str)) := by decide +kernel
  have n4 : ¬ (("list" : Str) = ("never" : Str)) := by decide +kernel
  simp [smp, n1, n2, n3, n4]
theorem t_lis (n : Nat) (d : D) (h : Pu n d = true) (S : Store) : m__law_is_shape [d] S = .ok (.bl (shp d)) S := by
  have h1 := pu_unl h
  have h2 := pu_unl h1
  have r3 : List.range 3 = [0, 1, 2] := rfl
  have b1 := fun y S => t_lsB n d h y S
  have b2 := fun y S => t_lsB n (unl d) h1 y S
  have b3 := fun y S => t_lsB n (unl (unl d)) h2 y S
  unfold shp
  cases i1 : isl d with
  | false =>
    have e1 := unl_same i1
    simp [i1] at b1
    simp [m__law_is_shape, rho0, lis_eq, r3, b1, e1]
  | true =>
    simp [i1] at b1
    cases i2 : isl (unl d) with
    | false =>
      have e2 := unl_same i2
      simp [i2] at b2
      simp [m__law_is_shape, rho0, lis_eq, r3, b1, b2, e2]
    | true =>
      simp [i2] at b2
      cases i3 : isl (unl (unl d)) with
      | false =>
        simp [i3] at b3
        simp [m__law_is_shape, rho0, lis_eq, r3, b1, b2, b3]
      | true =>
        simp [i3] at b3
        simp [m__law_is_shape, rho0, lis_eq, r3, b1, b2, b3, smp_list i3]
theorem t_check_ok (n : Nat) (hn : n ≤ 60) (d : D) (h : Pu n d = true) (S : Store) (hs : shp d = true) : m_check_shape [d] S = .ok .non S := by
  have w := fun S => t_shape n hn d h S
  simp [m_check_shape, rho0, b_check_shape, w, hs]
theorem t_check_bad (n : Nat) (hn : n ≤ 60) (d : D) (h : Pu n d = true) (S : Store) (hs : shp d = false) : m_check_shape [d] S = .err 2 [d] S := by
  have w := fun S => t_shape n hn d h S
  have b := pu_bel n d S.length h
  simp [m_check_shape, rho0, b_check_shape, w, hs, b]
/-! ### the number that a shape refers to -/
theorem smp_form {d : D} (h : smp d = true) : ∃ w r, d = .tup (.str w :: r) ∧ ¬ w = ("list" : Str) ∧ (w = ("ref" : Str) → ∃ i : Int, r = [.int i]) := by
  unfold smp at h
  split at h
  · rename_i w r
    refine ⟨w, r, rfl, fun e => ?_, fun e => ?_⟩
    · subst e
      have n1 : ¬ (("list" : Str) = ("int" : Str)) := by decide +kernel
      have n2 : ¬ (("list" : Str) = ("text" : Str)) := by decide +kernel
      have n3 : ¬ (("list" : Str) = ("ref" : Str)) := by decide +kernel
      have n4 : ¬ (("list" : Str) = ("never" : Str)) := by decide +kernel
      simp [n1, n2, n3, n4] at h
    · subst e
      have n1 : ¬ (("ref" : Str) = ("int" : Str)) := by decide +kernel
      have n2 : ¬ (("ref" : Str) = ("text" : Str)) := by decide +kernel
      rw [if_neg n1, if_neg n2, if_pos rfl] at h
      split at h
      · rename_i a
        cases a with
        | int i => exact ⟨i, rfl⟩
        | _ => simp [inr] at h
      · cases h
  · cases h
def rfv (d : D) : D := match d with
  | .tup (.str w :: a :: _) => if w = ("ref" : Str) then .tup [a] else .tup []
  | _ => .tup []
noncomputable def rfB : MS := (mSeq (mIf (mB (mOp bNe (mOp bIx (mVar 0) (mC (.int 0))) (mC (.str "list")))) mBreak mNext)
 (mSet 0 (mOp bIx (mVar 0) (mC (.int 1)))))
theorem rf_eq : b__law_refs = (mSeq (mFor (mRng1 (mCons (mC (.int 3)) mNil)) (gN 1) rfB)
 (mSeq (mIf (mB (mOp bEq (mOp bIx (mVar 0) (mC (.int 0))) (mC (.str "ref")))) (mRet (mTup (mCons (mOp bIx (mVar 0) (mC (.int 1))) mNil))) mNext)
 (mRet (mTup mNil)))) := rfl
theorem rfB_list (x b : D) (y : Sl) (S : Store) : rfB [.dat (.tup [.str "list", x, b]), y] S = .nx [.dat x, y] S := by
  simp [rfB, s_ne]
theorem rfB_other (w : Str) (r : List D) (h : ¬ w = ("list" : Str)) (y : Sl) (S : Store) : rfB [.dat (.tup (.str w :: r)), y] S = .bk [.dat (.tup (.str w :: r)), y] S := by
  simp [rfB, s_ne, h]
theorem rf_two (w : Str) (r : List D) (hr : w = ("ref" : Str) → ∃ i : Int, r = [.int i]) : (w = ("ref" : Str) ∧ ∃ i : Int, r = [.int i] ∧ rfv (.tup (.str w :: r)) = .tup [.int i]) ∨ (¬ w = ("ref" : Str) ∧ rfv (.tup (.str w :: r)) = .tup []) := by
  by_cases e : w = ("ref" : Str)
  · obtain ⟨i, rfl⟩ := hr e
    exact .inl ⟨e, i, rfl, by simp [rfv, e]⟩
  · exact .inr ⟨e, by cases r <;> simp [rfv, e]⟩
theorem fuel3 : ∃ f, fuelW = f + 1 + 1 + 1 := ⟨99999997, rfl⟩
/-- a shape: no list, a list of such, a list of lists -/
inductive Sh : D → D → Prop
  | none (w : Str) (r : List D) : ¬ w = ("list" : Str) → (w = ("ref" : Str) → ∃ i : Int, r = [.int i]) → Sh (.tup (.str w :: r)) (.tup (.str w :: r))
  | one (w : Str) (r : List D) (b : D) : ¬ w = ("list" : Str) → (w = ("ref" : Str) → ∃ i : Int, r = [.int i]) → Sh (.tup [.str "list", .tup (.str w :: r), b]) (.tup (.str w :: r))
  | two (w : Str) (r : List D) (b c : D) : ¬ w = ("list" : Str) → (w = ("ref" : Str) → ∃ i : Int, r = [.int i]) → Sh (.tup [.str "list", .tup [.str "list", .tup (.str w :: r), b], c]) (.tup (.str w :: r))
theorem sh_of {d : D} (h : shp d = true) : ∃ e, Sh d e := by
  unfold shp at h
  obtain ⟨w, r, e, h1, h2⟩ := smp_form h
  cases i1 : isl d with
  | false =>
    rw [unl_same i1, unl_same i1] at e
    subst e
    exact ⟨_, .none w r h1 h2⟩
  | true =>
    obtain ⟨x, b, e1, _, e2⟩ := isl_form i1
    rw [e2] at e
    cases i2 : isl x with
    | false =>
      rw [unl_same i2] at e
      subst e
      subst e1
      exact ⟨_, .one w r b h1 h2⟩
    | true =>
      obtain ⟨y, c, e3, _, e4⟩ := isl_form i2
      rw [e4] at e
      subst e
      subst e3
      subst e1
      exact ⟨_, .two w r c b h1 h2⟩
theorem t_srefs {d e : D} (h : Sh d e) (S : Store) : m_shape_refs [d] S = .ok (rfv e) S := by
  obtain ⟨f, fu⟩ := fuel3
  cases h with
  | none w r h1 h2 =>
    rcases rf_two w r h2 with ⟨q1, i, q2, q3⟩ | ⟨q1, q3⟩
    · subst q2
      rw [q3]
      subst q1
      simp [m_shape_refs, rho0, b_shape_refs, mWhile, fu, ev_wh, h1]
    · rw [q3]
      simp [m_shape_refs, rho0, b_shape_refs, mWhile, fu, ev_wh, h1, q1]
  | one w r b h1 h2 =>
    rcases rf_two w r h2 with ⟨q1, i, q2, q3⟩ | ⟨q1, q3⟩
    · subst q2
      rw [q3]
      subst q1
      simp [m_shape_refs, rho0, b_shape_refs, mWhile, fu, ev_wh, h1]
    · rw [q3]
      simp [m_shape_refs, rho0, b_shape_refs, mWhile, fu, ev_wh, h1, q1]
  | two w r b c h1 h2 =>
    rcases rf_two w r h2 with ⟨q1, i, q2, q3⟩ | ⟨q1, q3⟩
    · subst q2
      rw [q3]
      subst q1
      simp [m_shape_refs, rho0, b_shape_refs, mWhile, fu, ev_wh, h1]
    · rw [q3]
      simp [m_shape_refs, rho0, b_shape_refs, mWhile, fu, ev_wh, h1, q1]
theorem t_lrefs {d e : D} (h : Sh d e) (S : Store) : m__law_refs [d] S = .ok (rfv e) S := by
  have r3 : List.range 3 = [0, 1, 2] := rfl
  cases h with
  | none w r h1 h2 =>
    have b := fun y S => rfB_other w r h1 y S
    rcases rf_two w r h2 with ⟨q1, i, q2, q3⟩ | ⟨q1, q3⟩
    · subst q2
      rw [q3]
      subst q1
      simp [m__law_refs, rho0, rf_eq, r3, b]
    · rw [q3]
      simp [m__law_refs, rho0, rf_eq, r3, b, q1]
  | one w r c h1 h2 =>
    have b := fun y S => rfB_other w r h1 y S
    rcases rf_two w r h2 with ⟨q1, i, q2, q3⟩ | ⟨q1, q3⟩
    · subst q2
      rw [q3]
      subst q1
      simp [m__law_refs, rho0, rf_eq, r3, rfB_list, b]
    · rw [q3]
      simp [m__law_refs, rho0, rf_eq, r3, rfB_list, b, q1]
  | two w r c c2 h1 h2 =>
    have b := fun y S => rfB_other w r h1 y S
    rcases rf_two w r h2 with ⟨q1, i, q2, q3⟩ | ⟨q1, q3⟩
    · subst q2
      rw [q3]
      subst q1
      simp [m__law_refs, rho0, rf_eq, r3, rfB_list, b]
    · rw [q3]
      simp [m__law_refs, rho0, rf_eq, r3, rfB_list, b, q1]
theorem rf_pu {d e : D} (h : Sh d e) : Pu 1 (rfv e) = true ∧ ∃ l, rfv e = .tup l := by
  cases h with
  | none w r h1 h2 => rcases rf_two w r h2 with ⟨q1, i, q2, q3⟩ | ⟨q1, q3⟩ <;> rw [q3] <;> exact ⟨by simp [Pu, hdOk], _, rfl⟩
  | one w r c h1 h2 => rcases rf_two w r h2 with ⟨q1, i, q2, q3⟩ | ⟨q1, q3⟩ <;> rw [q3] <;> exact ⟨by simp [Pu, hdOk], _, rfl⟩
  | two w r c c2 h1 h2 => rcases rf_two w r h2 with ⟨q1, i, q2, q3⟩ | ⟨q1, q3⟩ <;> rw [q3] <;> exact ⟨by simp [Pu, hdOk], _, rfl⟩
/-! ### the same -/
abbrev smB (mself : MF) : MS := (mIf (mNot (mTru (mCB mself (mCons (mOp bIx (mVar 0) (mVar 2)) (mCons (mOp bIx (mVar 1) (mVar 2)) mNil))))) (mRet (mC (.bl false))) mNext)
open Classical in
theorem t_smloop (ds : List D) (mself : MF) (hm : ∀ d ∈ ds, ∀ S, mself [d, d] S = .ok (.bl true) S) (S : Store) : ∀ (js : List Nat) (x : Sl), (∀ j ∈ js, j < ds.length) → ∃ y,
    mItems (fun _ => True) (gN 2) (smB mself) (js.map fun (i : Nat) => D.int (i : Int)) [.dat (.tup ds), .dat (.tup ds), x] S = .nx [.dat (.tup ds), .dat (.tup ds), y] S
  | [], x, _ => ⟨x, by simp⟩
  | j :: js, x, h => by
    obtain ⟨y, ih⟩ := t_smloop ds mself hm S js (.dat (.int (j : Int))) (fun i hi => h i (List.mem_cons_of_mem _ hi))
    refine ⟨y, ?_⟩
    have hj : j < ds.length := h j List.mem_cons_self
    have e : atI ds (j : Int) = some ds[j] := by unfold atI; rw [ixn_at (by omega) (by omega)]; exact List.getElem?_eq_getElem hj
    have w := hm ds[j] (List.getElem_mem hj) S
    rw [List.map_cons]
    simp [e, w]
    exact ih
theorem ne_bl (a b : Bool) (S : Store) : bNe (.bl a) (.bl b) S = .ok (.bl (!decide (a = b))) S := rfl
theorem eq_bl (a b : Bool) (S : Store) : bEq (.bl a) (.bl b) S = .ok (.bl (decide (a = b))) S := rfl
theorem eq_non (S : Store) : bEq .non .non S = .ok (.bl true) S := rfl
theorem t_same : ∀ (n : Nat) (d : D), Pu n d = true → ∀ S, m__law_same (n + 1) [d, d] S = .ok (.bl true) S
  | n, .non, h, S => by simp [m__law_same, rho0, b__law_same, k_nb, ne_bl, eq_bl, eq_non]
  | n, .bl b, h, S => by simp [m__law_same, rho0, b__law_same, ne_bl, eq_bl, eq_non]
  | n, .int b, h, S => by simp [m__law_same, rho0, b__law_same, ne_bl, eq_bl, eq_non]
  | n, .str b, h, S => by simp [m__law_same, rho0, b__law_same, k_sb, ne_bl, eq_bl, eq_non]
  | 0, .tup ds, h, S => by simp [Pu] at h
  | n + 1, .tup ds, h, S => by
    rw [pu_tup] at h
    obtain ⟨y, w⟩ := t_smloop ds (m__law_same (n + 1)) (fun d hd S => t_same n d (h.2.1 d hd) S) S (List.range ds.length) .un (by simp)
    have hl : ds.length ≤ 16777216 := by omega
    rw [m__law_same]
    simp [rho0, b__law_same, hl, w]
  | 0, .fz ds, h, S => by simp [Pu] at h
  | n + 1, .fz ds, h, S => by simp [Pu] at h
  | 0, .ref k, h, S => by simp [Pu] at h
  | n + 1, .ref k, h, S => by simp [Pu] at h
theorem t_same8 (n : Nat) (hn : n ≤ 7) (d : D) (h : Pu n d = true) (S : Store) : m__law_same 8 [d, d] S = .ok (.bl true) S := by
  have up : ∀ k, Pu (n + k) d = true := fun k => by
    induction k with
    | zero => exact h
    | succ k ih => exact pu_up _ _ ih
  have z := up (7 - n)
  rw [show n + (7 - n) = 7 by omega] at z
  exact t_same 7 d z S
theorem t_right (n : Nat) (hn : n ≤ 7) (d : D) (h : Pu n d = true) (S : Store) : m__law_right [d] S = .ok (.bl true) S := by
  have w1 := fun S => t_lis n d h S
  cases hs : shp d with
  | false =>
    have w2 := fun S => t_check_bad n (by omega) d h S hs
    have w3 := fun S => t_same8 n hn d h S
    simp [m__law_right, rho0, b__law_right, w1, w2, w3, hs, sub_BadShape, clr]
  | true =>
    have w2 := fun S => t_check_ok n (by omega) d h S hs
    obtain ⟨e, he⟩ := sh_of hs
    have w3 := fun S => t_srefs he S
    have w4 := fun S => t_lrefs he S
    obtain ⟨p1, l, p2⟩ := rf_pu he
    have w5 := fun S => t_same8 1 (by omega) (rfv e) p1 S
    rw [p2] at w3 w4 w5
    simp [m__law_right, rho0, b__law_right, w1, w2, w3, w4, w5, hs]
/-! ### draws -/
def TS (S : Store) : Prop := ∃ (l : List Int) (k : Int), getL S 0 = some (l.map .int) ∧ getL S 1 = some [.int k] ∧ 0 ≤ k
structure Nx (S S' : Store) : Prop where
  ts : TS S'
  le : S.length ≤ S'.length
  at_ : ∀ j : Nat, j ≠ 1 → j < S.length → S'[j]? = S[j]?
theorem TS.lt {S : Store} (h : TS S) : 1 < S.length := by obtain ⟨l, at_, g0, g, _⟩ := h; exact get_lt g
theorem TS.app {S : Store} (h : TS S) (J : Store) : TS (S ++ J) := by
  obtain ⟨l, k, g0, g, t⟩ := h
  exact ⟨l, k, by rw [get_app (get_lt g0)]; exact g0, by rw [get_app (get_lt g)]; exact g, t⟩
theorem Nx.refl {S : Store} (h : TS S) : Nx S S := ⟨h, Nat.le_refl _, fun _ _ _ => rfl⟩
theorem Nx.app {S : Store} (h : TS S) (J : Store) : Nx S (S ++ J) := ⟨h.app J, by rw [List.length_append]; omega, fun j _ hj => List.getElem?_append_left hj⟩
theorem Nx.trans {S S1 S2 : Store} (a : Nx S S1) (b : Nx S1 S2) : Nx S S2 := ⟨b.ts, Nat.le_trans a.le b.le, fun j h1 h2 => (b.at_ j h1 (Nat.lt_of_lt_of_le h2 a.le)).trans (a.at_ j h1 h2)⟩
theorem Nx.get {S S' : Store} (h : Nx S S') {j : Nat} {l : List D} (hj : j ≠ 1) (g : getL S j = some l) : getL S' j = some l := by
  have e := h.at_ j hj (get_lt g)
  unfold getL at g ⊢
  rw [e]; exact g
theorem Nx.cl {S S' : Store} (h0 : TS S) (h : Nx S S') : Cl S S' := ⟨h.le, fun i hi => by
  by_cases e : i = 1
  · subst e
    obtain ⟨l, k, g0, g, _⟩ := h.ts
    exact .inr ⟨_, getL_some g, by simp⟩
  · exact .inl (h.at_ i e hi)⟩
theorem Nx.cut {S S' : Store} (h0 : TS S) (h : Nx S S') : Nx S (S'.take S.length) ∧ (S'.take S.length).length = S.length := by
  have hl : (S'.take S.length).length = S.length := by rw [List.length_take]; have := h.le; omega
  obtain ⟨l, k, g0, g, t⟩ := h.ts
  have lt := h0.lt
  refine ⟨⟨⟨l, k, ?_, ?_, t⟩, by omega, fun j h1 h2 => ?_⟩, hl⟩
  · unfold getL
    rw [List.getElem?_take_of_lt (by omega), getL_some g0]
  · unfold getL
    rw [List.getElem?_take_of_lt lt, getL_some g]
  · rw [List.getElem?_take_of_lt h2]; exact h.at_ j h1 h2
theorem Nx.gc {S S' : Store} (h0 : TS S) (h : Nx S S') {d : D} (b : Bel S.length d) : ∃ S2, gcR S (.ok d S') = .ok d S2 ∧ Nx S S2 ∧ S2.length = S.length :=
  ⟨_, gc_ok (h.cl h0) b, h.cut h0⟩
theorem t_tk (S : Store) (h : TS S) (m : Int) (hm : 0 < m) : ∃ d S', m__law_take [.ref 0, .ref 1, .int m] S = .ok (.int d) S' ∧ 0 ≤ d ∧ d < m ∧ Nx S S' ∧ S'.length = S.length := by
  have h0 := h
  obtain ⟨l, k, g0, g1, hk⟩ := h
  have gg : getL (S.set 1 (.lst [.int (k + 1)])) 1 = some [.int (k + 1)] := get_set (get_lt g1)
  have g0' : getL (S.set 1 (.lst [.int (k + 1)])) 0 = some (l.map .int) := by unfold getL; rw [List.getElem?_set_ne (by decide), getL_some g0]
  have nx : Nx S (S.set 1 (.lst [.int (k + 1)])) := ⟨⟨l, k + 1, g0', gg, by omega⟩, by simp, fun j h1 h2 => List.getElem?_set_ne (fun z => h1 z.symm)⟩
  have gc : ∀ d : Int, gcR S (.ok (.int d) (S.set 1 (.lst [.int (k + 1)]))) = .ok (.int d) (S.set 1 (.lst [.int (k + 1)])) := fun d => gc_set bel_i (by simp)
  have md : ∀ x, 0 ≤ x % m ∧ x % m < m := fun x => ⟨Int.emod_nonneg _ (by omega), Int.emod_lt_of_pos _ hm⟩
  by_cases c1 : k < l.length
  · have e : atI (l.map D.int) k = some (.int (l[k.toNat]'(by omega))) := by
      unfold atI; rw [ixn_at hk (by rw [List.length_map]; exact c1)]
      show (l.map D.int)[k.toNat]? = _
      rw [List.getElem?_map, List.getElem?_eq_getElem (by omega)]; rfl
    refine ⟨_, _, ?_, (md (l[k.toNat]'(by omega))).1, (md _).2, nx, by simp⟩
    simp [m__law_take, rho0, b__law_take, g1, gg, g0', c1, e, hm, gc]
  · by_cases c2 : (l.length : Int) = 0
    · refine ⟨0, _, ?_, by omega, hm, nx, by simp⟩
      have c3 : l.length = 0 := by omega
      have c1' : ¬ k < 0 := by omega
      simp [m__law_take, rho0, b__law_take, g1, gg, g0', c3, c1', gc]
    · have lp : (0 : Int) < l.length := by omega
      have r0 : 0 ≤ k % (l.length : Int) := Int.emod_nonneg _ (by omega)
      have r1 : k % (l.length : Int) < l.length := Int.emod_lt_of_pos _ lp
      have e : atI (l.map D.int) (k % (l.length : Int)) = some (.int (l[(k % (l.length : Int)).toNat]'(by omega))) := by
        unfold atI; rw [ixn_at r0 (by rw [List.length_map]; exact r1)]
        show (l.map D.int)[(k % (l.length : Int)).toNat]? = _
        rw [List.getElem?_map, List.getElem?_eq_getElem (by omega)]; rfl
      refine ⟨_, _, ?_, (md ((l[(k % (l.length : Int)).toNat]'(by omega)) * 31 + k * 17)).1, (md _).2, nx, by simp⟩
      have c3 : ¬ l.length = 0 := by omega
      have lp' : 0 < l.length := by omega
      simp [m__law_take, rho0, b__law_take, g1, gg, g0', c1, c3, lp, lp', e, hm, gc]
theorem t_great (S : Store) (h : TS S) (m : Int) (hm : 0 < m) : ∃ d S', m__law_great [.ref 0, .ref 1, .int m] S = .ok (.int d) S' ∧ Nx S S' := by
  obtain ⟨d1, S1, w1, _, _, n1, _⟩ := t_tk S h 1000 (by decide)
  obtain ⟨d2, S2, w2, _, _, n2, _⟩ := t_tk S1 n1.ts 1000 (by decide)
  obtain ⟨d3, S3, w3, _, _, n3, _⟩ := t_tk S2 n2.ts 1000 (by decide)
  obtain ⟨d4, S4, w4, _, _, n4, _⟩ := t_tk S3 n3.ts 1000 (by decide)
  obtain ⟨S', g1, g2, _⟩ := (((n1.trans n2).trans n3).trans n4).gc h (d := .int (((((0 * 1000 + d1) * 1000 + d2) * 1000 + d3) * 1000 + d4) % m)) bel_i
  have r4 : List.range 4 = [0, 1, 2, 3] := rfl
  refine ⟨((((0 * 1000 + d1) * 1000 + d2) * 1000 + d3) * 1000 + d4) % m, S', ?_, g2⟩
  simp at g1
  simp [m__law_great, rho0, b__law_great, r4, w1, w2, w3, w4, hm, g1]
theorem t_near (S : Store) (h : TS S) (lo hi : Int) (hlh : lo ≤ hi) : ∃ d S', m__law_near [.ref 0, .ref 1, .int lo, .int hi] S = .ok d S' ∧ Pu 1 d = true ∧ Nx S S' := by
  obtain ⟨p, S1, w1, p0, p1, n1, _⟩ := t_tk S h 16 (by decide)
  by_cases c0 : p = 0
  · obtain ⟨S', g1, g2, _⟩ := n1.gc h (d := .int lo) bel_i
    exact ⟨.int lo, S', by simp [m__law_near, rho0, b__law_near, w1, c0, g1], by simp [Pu], g2⟩
  by_cases c1 : p = 1
  · obtain ⟨S', g1, g2, _⟩ := n1.gc h (d := .int hi) bel_i
    exact ⟨.int hi, S', by simp [m__law_near, rho0, b__law_near, w1, c0, c1, g1], by simp [Pu], g2⟩
  by_cases c2 : p = 2
  · obtain ⟨S', g1, g2, _⟩ := n1.gc h (d := .int (lo - 1)) bel_i
    exact ⟨.int (lo - 1), S', by simp [m__law_near, rho0, b__law_near, w1, c0, c1, c2, g1], by simp [Pu], g2⟩
  by_cases c3 : p = 3
  · obtain ⟨S', g1, g2, _⟩ := n1.gc h (d := .int (hi + 1)) bel_i
    exact ⟨.int (hi + 1), S', by simp [m__law_near, rho0, b__law_near, w1, c0, c1, c2, c3, g1], by simp [Pu], g2⟩
  by_cases c4 : p = 4
  · obtain ⟨q, S2, w2, _, _, n2, _⟩ := t_tk S1 n1.ts 2 (by decide)
    obtain ⟨S', g1, g2, _⟩ := (n1.trans n2).gc h (d := .bl (decide (q = 1))) bel_b
    exact ⟨.bl (decide (q = 1)), S', by simp [m__law_near, rho0, b__law_near, w1, c0, c1, c2, c3, c4, w2, g1], by simp [Pu], g2⟩
  by_cases c5 : p = 5
  · have n2 : Nx S1 (S1 ++ [.lst [.non, .str "3", .tup [], .str "", .tup [.int 4]]]) := Nx.app n1.ts _
    obtain ⟨q, S2, w2, q0, q1, n3, _⟩ := t_tk _ n2.ts 5 (by decide)
    have gL : getL S2 S1.length = some [.non, .str "3", .tup [], .str "", .tup [.int 4]] := n3.get (by have := n1.ts.lt; omega) st_get0
    obtain ⟨d, e, pd⟩ : ∃ d, atI [D.non, .str "3", .tup [], .str "", .tup [.int 4]] q = some d ∧ Pu 1 d = true := by
      have hh : q = 0 ∨ q = 1 ∨ q = 2 ∨ q = 3 ∨ q = 4 := by omega
      rcases hh with rfl | rfl | rfl | rfl | rfl <;> exact ⟨_, x_at (by decide) rfl, by decide +kernel⟩
    obtain ⟨S', g1, g2, _⟩ := ((n1.trans n2).trans n3).gc h (d := d) (pu_bel 1 d _ pd)
    exact ⟨d, S', by simp [m__law_near, rho0, b__law_near, w1, c0, c1, c2, c3, c4, c5, w2, gL, e, g1], pd, g2⟩
  · obtain ⟨q, S2, w2, n2⟩ := t_great S1 n1.ts (hi - lo + 1) (by omega)
    obtain ⟨S', g1, g2, _⟩ := (n1.trans n2).gc h (d := .int (lo + q)) bel_i
    exact ⟨.int (lo + q), S', by simp [m__law_near, rho0, b__law_near, w1, c0, c1, c2, c3, c4, c5, w2, g1], by simp [Pu], g2⟩
theorem is_num {d : D} (h : Pu 1 d = true) (S : Store) : ((tyD S d).bind fun t => kitB t "int") = some (numD d).isSome := by
  cases d with
  | fz l => simp [Pu] at h
  | ref l => simp [Pu] at h
  | _ => simp [numD]
theorem lt_num {d e : D} {i j : Int} (h1 : numD d = some i) (h2 : numD e = some j) (S : Store) : bLtN d e S = .ok (.bl (decide (i < j))) S := by
  unfold bLtN; rw [h1, h2]
theorem pu2 {w : Str} {a : D} {n : Nat} (hw : PyData.strOk w = true) (ha : Pu n a = true) : Pu (n + 1) (.tup [.str w, a]) = true := by
  rw [pu_tup]
  refine ⟨by simp, fun d hd => ?_, rfl⟩
  simp at hd
  rcases hd with rfl | rfl
  · cases n <;> simp [Pu, hw]
  · exact ha
theorem pu3 {w : Str} {a b : D} {n : Nat} (hw : PyData.strOk w = true) (ha : Pu n a = true) (hb : Pu n b = true) : Pu (n + 1) (.tup [.str w, a, b]) = true := by
  rw [pu_tup]
  refine ⟨by simp, fun d hd => ?_, rfl⟩
  simp at hd
  rcases hd with rfl | rfl | rfl
  · cases n <;> simp [Pu, hw]
  · exact ha
  · exact hb
theorem t_inner (S : Store) (h : TS S) : ∃ ds S', m__law_inner [.ref 0, .ref 1] S = .ok (.tup ds) S' ∧ Pu 2 (.tup ds) = true ∧ Nx S S' ∧ ds.length ≤ 3 := by
  obtain ⟨p, S1, w1, p0, p1, n1, _⟩ := t_tk S h 8 (by decide)
  have ki : PyData.strOk "int" = true := by decide +kernel
  have kt : PyData.strOk "text" = true := by decide +kernel
  have kr : PyData.strOk "ref" = true := by decide +kernel
  by_cases c0 : p < 2
  · obtain ⟨a, S2, w2, pa, n2⟩ := t_near S1 n1.ts (-1000000000) 1000000000 (by decide)
    obtain ⟨b, S3, w3, pb, n3⟩ := t_near S2 n2.ts (-1000000000) 1000000000 (by decide)
    have na := fun S => is_num pa S
    have nb := fun S => is_num pb S
    have pab := pu3 ki pa pb
    have pba := pu3 ki pb pa
    cases ha : numD a with
    | none =>
      obtain ⟨S', g1, g2, _⟩ := ((n1.trans n2).trans n3).gc h (d := .tup [.str "int", a, b]) (pu_bel _ _ _ pab)
      exact ⟨_, S', by simp [m__law_inner, rho0, b__law_inner, w1, c0, w2, w3, na, ha, g1], pab, g2, by simp⟩
    | some i =>
      cases hb : numD b with
      | none =>
        obtain ⟨S', g1, g2, _⟩ := ((n1.trans n2).trans n3).gc h (d := .tup [.str "int", a, b]) (pu_bel _ _ _ pab)
        exact ⟨_, S', by simp [m__law_inner, rho0, b__law_inner, w1, c0, w2, w3, na, ha, nb, hb, g1], pab, g2, by simp⟩
      | some j =>
        have lt := fun S => lt_num hb ha S
        by_cases c : j < i
        · obtain ⟨q, S4, w4, q0, q1, n4, _⟩ := t_tk S3 n3.ts 5 (by decide)
          by_cases c2 : 0 < q
          · obtain ⟨S', g1, g2, _⟩ := (((n1.trans n2).trans n3).trans n4).gc h (d := .tup [.str "int", b, a]) (pu_bel _ _ _ pba)
            exact ⟨_, S', by simp [m__law_inner, rho0, b__law_inner, w1, c0, w2, w3, na, ha, nb, hb, lt, c, w4, c2, g1], pba, g2, by simp⟩
          · obtain ⟨S', g1, g2, _⟩ := (((n1.trans n2).trans n3).trans n4).gc h (d := .tup [.str "int", a, b]) (pu_bel _ _ _ pab)
            exact ⟨_, S', by simp [m__law_inner, rho0, b__law_inner, w1, c0, w2, w3, na, ha, nb, hb, lt, c, w4, c2, g1], pab, g2, by simp⟩
        · obtain ⟨S', g1, g2, _⟩ := ((n1.trans n2).trans n3).gc h (d := .tup [.str "int", a, b]) (pu_bel _ _ _ pab)
          exact ⟨_, S', by simp [m__law_inner, rho0, b__law_inner, w1, c0, w2, w3, na, ha, nb, hb, lt, c, g1], pab, g2, by simp⟩
  by_cases c1 : p < 4
  · obtain ⟨a, S2, w2, pa, n2⟩ := t_near S1 n1.ts 0 40 (by decide)
    have pr := pu2 kt pa
    obtain ⟨S', g1, g2, _⟩ := (n1.trans n2).gc h (d := .tup [.str "text", a]) (pu_bel _ _ _ pr)
    exact ⟨_, S', by simp [m__law_inner, rho0, b__law_inner, w1, c0, c1, w2, g1], pr, g2, by simp⟩
  by_cases c2 : p < 6
  · obtain ⟨a, S2, w2, pa, n2⟩ := t_near S1 n1.ts 1 60 (by decide)
    have pr := pu2 kr pa
    obtain ⟨S', g1, g2, _⟩ := (n1.trans n2).gc h (d := .tup [.str "ref", a]) (pu_bel _ _ _ pr)
    exact ⟨_, S', by simp [m__law_inner, rho0, b__law_inner, w1, c0, c1, c2, w2, g1], pr, g2, by simp⟩
  by_cases c3 : p = 6
  · obtain ⟨S', g1, g2, _⟩ := n1.gc h (d := .tup [.str "never"]) (by simp)
    exact ⟨[.str "never"], S', by simp [m__law_inner, rho0, b__law_inner, w1, c0, c1, c2, c3, g1], by decide +kernel, g2, by simp⟩
  · have n2 : Nx S1 (S1 ++ [.lst [.tup [.str "none"], .tup [], .tup [.str "integer", .int 0, .int 1], .tup [.int 5, .int 0, .int 1], .tup [.str "list"], .tup [.str "record", .int 3], .tup [.str "Int", .int 0, .int 9], .tup [.str "ref", .str "point"]]]) := Nx.app n1.ts _
    obtain ⟨q, S2, w2, q0, q1, n3, _⟩ := t_tk _ n2.ts 8 (by decide)
    have gL : getL S2 S1.length = some [.tup [.str "none"], .tup [], .tup [.str "integer", .int 0, .int 1], .tup [.int 5, .int 0, .int 1], .tup [.str "list"], .tup [.str "record", .int 3], .tup [.str "Int", .int 0, .int 9], .tup [.str "ref", .str "point"]] := n3.get (by have := n1.ts.lt; omega) st_get0
    obtain ⟨d, e, pd, dl⟩ : ∃ d, atI [D.tup [.str "none"], .tup [], .tup [.str "integer", .int 0, .int 1], .tup [.int 5, .int 0, .int 1], .tup [.str "list"], .tup [.str "record", .int 3], .tup [.str "Int", .int 0, .int 9], .tup [.str "ref", .str "point"]] q = some (.tup d) ∧ Pu 2 (.tup d) = true ∧ d.length ≤ 3 := by
      have hh : q = 0 ∨ q = 1 ∨ q = 2 ∨ q = 3 ∨ q = 4 ∨ q = 5 ∨ q = 6 ∨ q = 7 := by omega
      rcases hh with rfl | rfl | rfl | rfl | rfl | rfl | rfl | rfl <;> exact ⟨_, x_at (by decide) rfl, by decide +kernel, by decide⟩
    obtain ⟨S', g1, g2, _⟩ := ((n1.trans n2).trans n3).gc h (d := .tup d) (pu_bel 2 _ _ pd)
    exact ⟨d, S', by simp [m__law_inner, rho0, b__law_inner, w1, c0, c1, c2, c3, w2, gL, e, g1], pd, g2, dl⟩
def kP (d : D) (S : Store) : R (Option Int) := match d with
  | .int i => .ok (some i) S
  | _ => .bad
theorem ev_p {m : ME} {ρ : Rho} {S : Store} : mP m ρ S = (m ρ S).bind kP := rfl
theorem q_p {i : Int} {S : Store} : kP (.int i) S = .ok (some i) S := rfl
theorem ev_nop {ρ : Rho} {S : Store} : mNoP ρ S = .ok none S := rfl
def kL2 (d : D) (l : Option Int) (h : Option Int) (S : Store) : R D := slD d l h S
def kL1 (hi : MO) (ρ : Rho) (d : D) (l : Option Int) (S : Store) : R D := (hi ρ S).bind (kL2 d l)
def kL0 (lo hi : MO) (ρ : Rho) (d : D) (S : Store) : R D := (lo ρ S).bind (kL1 hi ρ d)
theorem ev_sl {m : ME} {lo hi : MO} {ρ : Rho} {S : Store} : mSl m lo hi ρ S = (m ρ S).bind (kL0 lo hi ρ) := rfl
theorem q_l0 {lo hi : MO} {ρ : Rho} {d : D} {S : Store} : kL0 lo hi ρ d S = (lo ρ S).bind (kL1 hi ρ d) := rfl
theorem q_l1 {hi : MO} {ρ : Rho} {d : D} {l : Option Int} {S : Store} : kL1 hi ρ d l S = (hi ρ S).bind (kL2 d l) := rfl
theorem q_l2 {d : D} {l h : Option Int} {S : Store} : kL2 d l h S = slD d l h S := rfl
theorem pu_le {n m : Nat} {d : D} (h : Pu n d = true) (hm : n ≤ m) : Pu m d = true := by
  induction m with
  | zero => have e : n = 0 := by omega
            subst e; exact h
  | succ m ih =>
    by_cases e : n = m + 1
    · subst e; exact h
    · exact pu_up m d (ih (by omega))
noncomputable abbrev vlB : MS := (mSet 2 (mTup (mCons (mC (.str "list")) (mCons (mVar 2) (mCons (mCB m__law_near (mCons (mVar 0) (mCons (mVar 1) (mCons (mC (.int 0)) (mCons (mC (.int 40)) mNil))))) mNil)))))
theorem t_vloop (x3 x5 : Sl) : ∀ (js : List D) (n : Nat) (ds : List D) (x : Sl) (S : Store), TS S → Pu (n + 1) (.tup ds) = true → ds.length ≤ 3 → ∃ x' ds' S',
    mItems (fun _ => True) (gN 4) vlB js [.dat (.ref 0), .dat (.ref 1), .dat (.tup ds), x3, x, x5] S = .nx [.dat (.ref 0), .dat (.ref 1), .dat (.tup ds'), x3, x', x5] S' ∧ Pu (n + 1 + js.length) (.tup ds') = true ∧ Nx S S' ∧ ds'.length ≤ 3
  | [], n, ds, x, S, h, hp, hl => ⟨x, ds, S, by simp, hp, Nx.refl h, hl⟩
  | j :: js, n, ds, x, S, h, hp, hl => by
    obtain ⟨a, S1, w, pa, n1⟩ := t_near S h 0 40 (by decide)
    have kl : PyData.strOk "list" = true := by decide +kernel
    obtain ⟨x', ds', S', e, q1, q2, q3⟩ := t_vloop x3 x5 js (n + 1) [.str "list", .tup ds, a] (.dat j) S1 n1.ts (pu3 kl hp (pu_le pa (by omega))) (by simp)
    refine ⟨x', ds', S', ?_, by rw [List.length_cons, show n + 1 + (js.length + 1) = n + 1 + 1 + js.length by omega]; exact q1, n1.trans q2, q3⟩
    simp [vlB, w]
    exact e
theorem hdOk_take : ∀ (ds : List D) (k : Nat), hdOk ds = true → hdOk (ds.take k) = true
  | [], k, h => by simp [hdOk]
  | d :: ds, 0, h => by simp [hdOk]
  | d :: ds, k + 1, h => by
    rw [List.take_succ_cons]
    cases d <;> first | rfl | simp [hdOk] at h
theorem cut_mem {ds : List D} {lo hi : Option Int} {d : D} (h : d ∈ cutD ds lo hi) : d ∈ ds := List.mem_of_mem_drop (List.mem_of_mem_take h)
theorem cut_len {ds : List D} {lo hi : Option Int} : (cutD ds lo hi).length ≤ ds.length := by
  unfold cutD
  rw [List.length_take, List.length_drop]
  omega
theorem pu_cut0 {n : Nat} {ds : List D} (h : Pu (n + 1) (.tup ds) = true) : Pu (n + 1) (.tup (cutD ds none (some (-1)))) = true := by
  rw [pu_tup] at h ⊢
  refine ⟨Nat.le_trans cut_len h.1, fun d hd => h.2.1 d (cut_mem hd), ?_⟩
  have e : cutD ds none (some (-1)) = ds.take (HT.sIx ds.length ds.length (some (-1)) - 0) := rfl
  rw [e]
  exact hdOk_take _ _ h.2.2
theorem pu_cons {n : Nat} {ds : List D} {w : Str} (hw : PyData.strOk w = true) (h : Pu (n + 1) (.tup ds) = true) (hl : ds.length ≤ 3) : Pu (n + 1) (.tup (.str w :: cutD ds (some 1) none)) = true := by
  rw [pu_tup] at h ⊢
  have := cut_len (ds := ds) (lo := some 1) (hi := none)
  refine ⟨by rw [List.length_cons]; omega, fun d hd => ?_, rfl⟩
  rcases List.mem_cons.mp hd with z | z
  · subst z; cases n <;> simp [Pu, hw]
  · exact h.2.1 d (cut_mem z)
theorem pu_snoc {n : Nat} {ds : List D} {i : Int} (h : Pu (n + 1) (.tup ds) = true) (hl : ds.length ≤ 3) : Pu (n + 1) (.tup (ds ++ [.int i])) = true := by
  rw [pu_tup] at h ⊢
  refine ⟨by rw [List.length_append, List.length_singleton]; omega, fun d hd => ?_, ?_⟩
  · rcases List.mem_append.mp hd with z | z
    · exact h.2.1 d z
    · rw [List.mem_singleton.mp z]; simp [Pu]
  · cases ds with
    | nil => rfl
    | cons d ds =>
      have z := h.2.2
      cases d <;> first | rfl | exact z
theorem sl_t {ds : List D} {l h : Option Int} {S : Store} : slD (.tup ds) l h S = .ok (.tup (cutD ds l h)) S := rfl
noncomputable def vTail : MS := (mSeq (mSet 5 (mCB m__law_take (mCons (mVar 0) (mCons (mVar 1) (mCons (mC (.int 18)) mNil)))))
 (mSeq (mIf (mAnd (mB (mOp bEq (mVar 5) (mC (.int 0)))) (mB (mOp bGt (mCB fLen (mCons (mVar 2) mNil)) (mC (.int 0))))) (mRet (mSl (mVar 2) mNoP (mP (mNeg (mC (.int 1)))))) mNext)
 (mSeq (mIf (mB (mOp bEq (mVar 5) (mC (.int 1)))) (mRet (mOp bAdd (mVar 2) (mTup (mCons (mCB m__law_take (mCons (mVar 0) (mCons (mVar 1) (mCons (mC (.int 3)) mNil)))) mNil)))) mNext)
 (mSeq (mIf (mAnd (mB (mOp bEq (mVar 5) (mC (.int 2)))) (mB (mOp bGt (mCB fLen (mCons (mVar 2) mNil)) (mC (.int 0))))) (mRet (mOp bAdd (mTup (mCons (mOp bIx (mLst (mCons (mC (.str "list")) (mCons (mC (.str "int")) (mCons (mC (.str "text")) (mCons (mC (.str "ref")) (mCons (mC (.str "never")) (mCons (mC (.str "lists")) mNil))))))) (mCB m__law_take (mCons (mVar 0) (mCons (mVar 1) (mCons (mC (.int 6)) mNil))))) mNil)) (mSl (mVar 2) (mP (mC (.int 1))) mNoP))) mNext)
 (mRet (mVar 2))))))
theorem value_eq : b__law_value = (mSeq (mIf (mB (mOp bEq (mCB m__law_take (mCons (mVar 0) (mCons (mVar 1) (mCons (mC (.int 9)) mNil)))) (mC (.int 4)))) (mRet (mOp bIx (mLst (mCons (mC .non) (mCons (mC (.bl true)) (mCons (mC (.int 0)) (mCons (mC (.str "int")) (mCons (mC (.str "")) (mCons (mC (.int 7)) (mCons (mNeg (mC (.int 41))) (mCons (mC (.str "never")) mNil))))))))) (mCB m__law_take (mCons (mVar 0) (mCons (mVar 1) (mCons (mC (.int 8)) mNil)))))) mNext)
 (mSeq (mSet 2 (mCB m__law_inner (mCons (mVar 0) (mCons (mVar 1) mNil))))
 (mSeq (mSet 3 (mCB m__law_take (mCons (mVar 0) (mCons (mVar 1) (mCons (mC (.int 8)) mNil)))))
 (mSeq (mIf (mB (mOp bGt (mVar 3) (mC (.int 3)))) (mSet 3 (mC (.int 0))) mNext)
 (mSeq (mFor (mRng1 (mCons (mVar 3) mNil)) (gN 4) (mSet 2 (mTup (mCons (mC (.str "list")) (mCons (mVar 2) (mCons (mCB m__law_near (mCons (mVar 0) (mCons (mVar 1) (mCons (mC (.int 0)) (mCons (mC (.int 40)) mNil))))) mNil))))))
 vTail))))) := rfl
theorem t_vtail (S0 S : Store) (h0 : TS S0) (h : Nx S0 S) (ds : List D) (hp : Pu 5 (.tup ds) = true) (hl : ds.length ≤ 3) (x3 x4 : Sl) : ∃ d S', gcR S0 (vTail [.dat (.ref 0), .dat (.ref 1), .dat (.tup ds), x3, x4, .un] S).fin = .ok d S' ∧ Pu 5 d = true ∧ Nx S0 S' := by
  obtain ⟨c, S1, w1, k0, k1, n1, _⟩ := t_tk S h.ts 18 (by decide)
  have hne : (0 < (ds.length : Int)) ∨ ¬ (0 < (ds.length : Int)) := Classical.em _
  have plain : ∃ S', gcR S0 (.ok (.tup ds) S1) = .ok (.tup ds) S' ∧ Nx S0 S' ∧ S'.length = S0.length := (h.trans n1).gc h0 (pu_bel _ _ _ hp)
  obtain ⟨Sp, g1, g2, _⟩ := plain
  by_cases c0 : c = 0
  · by_cases z : 0 < ds.length
    · have pc := pu_cut0 hp
      obtain ⟨S', e1, e2, _⟩ := (h.trans n1).gc h0 (d := .tup (cutD ds none (some (-1)))) (pu_bel _ _ _ pc)
      exact ⟨_, S', by simp [vTail, w1, c0, z, ev_sl, q_l0, q_l1, q_l2, ev_p, q_p, ev_nop, sl_t, e1], pc, e2⟩
    · exact ⟨_, Sp, by simp [vTail, w1, c0, z, g1], hp, g2⟩
  by_cases c1 : c = 1
  · obtain ⟨q, S2, w2, _, _, n2, _⟩ := t_tk S1 n1.ts 3 (by decide)
    have ps := pu_snoc (i := q) hp hl
    have hl2 : ds.length + 1 ≤ 16777216 := by omega
    obtain ⟨S', e1, e2, _⟩ := ((h.trans n1).trans n2).gc h0 (d := .tup (ds ++ [.int q])) (pu_bel _ _ _ ps)
    exact ⟨_, S', by simp [vTail, w1, c0, c1, w2, hl2, e1], ps, e2⟩
  by_cases c2 : c = 2
  · by_cases z : 0 < ds.length
    · have n2 : Nx S1 (S1 ++ [.lst [.str "list", .str "int", .str "text", .str "ref", .str "never", .str "lists"]]) := Nx.app n1.ts _
      obtain ⟨q, S2, w2, q0, q1, n3, _⟩ := t_tk _ n2.ts 6 (by decide)
      have gL : getL S2 S1.length = some [.str "list", .str "int", .str "text", .str "ref", .str "never", .str "lists"] := n3.get (by have := n1.ts.lt; omega) st_get0
      obtain ⟨w, e, pw⟩ : ∃ w, atI [D.str "list", .str "int", .str "text", .str "ref", .str "never", .str "lists"] q = some (.str w) ∧ PyData.strOk w = true := by
        have hh : q = 0 ∨ q = 1 ∨ q = 2 ∨ q = 3 ∨ q = 4 ∨ q = 5 := by omega
        rcases hh with rfl | rfl | rfl | rfl | rfl | rfl <;> exact ⟨_, x_at (by decide) rfl, by decide +kernel⟩
      have pc := pu_cons pw hp hl
      have cl := cut_len (ds := ds) (lo := some 1) (hi := none)
      have hl2 : 1 + (cutD ds (some 1) none).length ≤ 16777216 := by omega
      obtain ⟨S', e1, e2, _⟩ := (((h.trans n1).trans n2).trans n3).gc h0 (d := .tup (.str w :: cutD ds (some 1) none)) (pu_bel _ _ _ pc)
      exact ⟨_, S', by simp [vTail, w1, c0, c1, c2, z, w2, gL, e, ev_sl, q_l0, q_l1, q_l2, ev_p, q_p, ev_nop, sl_t, hl2, e1], pc, e2⟩
    · exact ⟨_, Sp, by simp [vTail, w1, c0, c1, c2, z, g1], hp, g2⟩
  · exact ⟨_, Sp, by simp [vTail, w1, c0, c1, c2, g1], hp, g2⟩
theorem t_value (S : Store) (h : TS S) : ∃ d S', m__law_value [.ref 0, .ref 1] S = .ok d S' ∧ Pu 5 d = true ∧ Nx S S' := by
  obtain ⟨p, S1, w1, p0, p1, n1, _⟩ := t_tk S h 9 (by decide)
  by_cases c0 : p = 4
  · have n2 : Nx S1 (S1 ++ [.lst [.non, .bl true, .int 0, .str "int", .str "", .int 7, .int (-41), .str "never"]]) := Nx.app n1.ts _
    obtain ⟨q, S2, w2, q0, q1, n3, _⟩ := t_tk _ n2.ts 8 (by decide)
    have gL : getL S2 S1.length = some [.non, .bl true, .int 0, .str "int", .str "", .int 7, .int (-41), .str "never"] := n3.get (by have := n1.ts.lt; omega) st_get0
    obtain ⟨d, e, pd⟩ : ∃ d, atI [D.non, .bl true, .int 0, .str "int", .str "", .int 7, .int (-41), .str "never"] q = some d ∧ Pu 5 d = true := by
      have hh : q = 0 ∨ q = 1 ∨ q = 2 ∨ q = 3 ∨ q = 4 ∨ q = 5 ∨ q = 6 ∨ q = 7 := by omega
      rcases hh with rfl | rfl | rfl | rfl | rfl | rfl | rfl | rfl <;> exact ⟨_, x_at (by decide) rfl, by decide +kernel⟩
    obtain ⟨S', g1, g2, _⟩ := ((n1.trans n2).trans n3).gc h (d := d) (pu_bel 5 d _ pd)
    exact ⟨d, S', by simp [m__law_value, rho0, b__law_value, w1, c0, w2, gL, e, g1], pd, g2⟩
  obtain ⟨ds, S2, w2, pd, n2, dl⟩ := t_inner S1 n1.ts
  obtain ⟨l0, S3, w3, l1, l2, n3, _⟩ := t_tk S2 n2.ts 8 (by decide)
  obtain ⟨li, hli, li0, li3⟩ : ∃ li : Int, li = (if 3 < l0 then 0 else l0) ∧ 0 ≤ li ∧ li ≤ 3 := by
    split
    · exact ⟨0, rfl, by omega, by omega⟩
    · exact ⟨l0, rfl, by omega, by omega⟩
  obtain ⟨x', es, S4, w4, pe, n4, el⟩ := t_vloop (.dat (.int li)) .un ((List.range li.toNat).map fun (i : Nat) => D.int (i : Int)) 1 ds .un S3 n3.ts pd dl
  have pe5 : Pu 5 (.tup es) = true := pu_le pe (by simp; omega)
  have N4 := ((n1.trans n2).trans n3).trans n4
  have rg := fun S => k_rng (S := S) li0 (by omega : li ≤ 16777216)
  obtain ⟨d, S', e1, e2, e3⟩ := t_vtail S S4 h N4 es pe5 el (.dat (.int li)) x'
  refine ⟨d, S', ?_, e2, e3⟩
  by_cases c3 : 3 < l0
  · rw [if_pos c3] at hli
    subst hli
    simp at w4
    obtain ⟨⟨rfl, rfl⟩, rfl⟩ := w4
    simp [m__law_value, rho0, value_eq, w1, c0, w2, w3, c3, e1]
  · rw [if_neg c3] at hli
    subst hli
    simp [m__law_value, rho0, value_eq, w1, c0, w2, w3, c3, rg, w4, e1]
/-! ### the numbers -/
noncomputable def nA : MS := (mIf (mB (mOp bGt (mVar 3) (mC (.int 0)))) (mSeq (mDrop (mMeth "list" fAppend (mVar 1) (mCons (mOp bMod (mCB fInt (mCons (mVar 3) mNil)) (mC (.int 1000))) mNil)))
 (mSet 3 (mOp bDiv (mVar 3) (mC (.int 1000))))) mNext)
noncomputable def nB : MS := (mSeq (mSet 5 (mOp bAdd (mOp bMul (mOp bAdd (mVar 3) (mC (.int 1))) (mOp bAdd (mC (.int 48271)) (mOp bMul (mC (.int 2)) (mVar 4)))) (mOp bMul (mOp bAdd (mVar 2) (mC (.int 1))) (mOp bAdd (mC (.int 69621)) (mOp bMul (mC (.int 7919)) (mVar 4))))))
 (mDrop (mMeth "list" fAppend (mVar 1) (mCons (mOp bMod (mCB fInt (mCons (mOp bDiv (mOp bMod (mCB fInt (mCons (mVar 5) mNil)) (mC (.int 2147483647))) (mOp bAdd (mVar 4) (mC (.int 3)))) mNil)) (mC (.int 1000))) mNil))))
noncomputable def nO : MS := (mSeq (mSet 3 (mCB fAbs (mCons (mCB fInt (mCons (mOp bIx (mVar 0) (mVar 2)) mNil)) mNil)))
 (mIf (mB (mOp bGe (mVar 3) (mOp bPow (mC (.int 10)) (mC (.int 18))))) (mFor (mRng1 (mCons (mC (.int 60)) mNil)) (gN 4) nA) (mFor (mRng1 (mCons (mC (.int 8)) mNil)) (gN 4) nB)))
theorem numbers_eq : b__law_numbers = (mSeq (mSet 1 (mLst mNil))
 (mSeq (mFor (mRng1 (mCons (mCB fMin2 (mCons (mCB fLen (mCons (mVar 0) mNil)) (mCons (mC (.int 63)) mNil))) mNil)) (gN 2) nO)
 (mRet (mVar 1)))) := rfl
theorem t_nA (x0 x2 x5 : Sl) : ∀ (js : List D) (c : Int) (x : Sl) (S : Store) (l : List Int), getL S 0 = some (l.map .int) → l.length + js.length ≤ 1000000 → ∃ (c' : Int) (x' : Sl) (l' : List Int),
    mItems (fun _ => True) (gN 4) nA js [x0, .dat (.ref 0), x2, .dat (.int c), x, x5] S = .nx [x0, .dat (.ref 0), x2, .dat (.int c'), x', x5] (S.set 0 (.lst (l'.map .int))) ∧ l'.length ≤ l.length + js.length
  | [], c, x, S, l, g, hl => ⟨c, x, l, by simp [set_same g], by simp⟩
  | j :: js, c, x, S, l, g, hl => by
    rw [List.length_cons] at hl
    by_cases h : 0 < c
    · have hl2 : l.length < 16777216 := by omega
      obtain ⟨c', x', l', e, q⟩ := t_nA x0 x2 x5 js (c / 1000) (.dat j) (S.set 0 (.lst ((l ++ [c % 1000]).map .int))) (l ++ [c % 1000]) (get_set (get_lt g)) (by rw [List.length_append, List.length_singleton]; omega)
      refine ⟨c', x', l', ?_, by rw [List.length_append, List.length_singleton] at q; rw [List.length_cons]; omega⟩
      simp at e
      simp [nA, h, g, hl2]
      exact e
    · obtain ⟨c', x', l', e, q⟩ := t_nA x0 x2 x5 js c (.dat j) S l g (by omega)
      refine ⟨c', x', l', ?_, by rw [List.length_cons]; omega⟩
      simp [nA, h]
      exact e
theorem t_nB (x0 : Sl) (a c : Int) : ∀ (js : List Nat) (x y : Sl) (S : Store) (l : List Int), (∀ j ∈ js, j < 8) → getL S 0 = some (l.map .int) → l.length + js.length ≤ 1000000 → ∃ (x' y' : Sl) (l' : List Int),
    mItems (fun _ => True) (gN 4) nB (js.map fun (i : Nat) => D.int (i : Int)) [x0, .dat (.ref 0), .dat (.int a), .dat (.int c), x, y] S = .nx [x0, .dat (.ref 0), .dat (.int a), .dat (.int c), x', y'] (S.set 0 (.lst (l'.map .int))) ∧ l'.length ≤ l.length + js.length
  | [], x, y, S, l, _, g, hl => ⟨x, y, l, by simp [set_same g], by simp⟩
  | j :: js, x, y, S, l, hj, g, hl => by
    rw [List.length_cons] at hl
    have hl2 : l.length < 16777216 := by omega
    have j8 : j < 8 := hj j List.mem_cons_self
    have b1 : ((48271 : Int) + 2 * (j : Int)).natAbs < 18446744073709551616 := by omega
    have b2 : ((69621 : Int) + 7919 * (j : Int)).natAbs < 18446744073709551616 := by omega
    have b3 : (0 : Int) < (j : Int) + 3 := by omega
    have big : (10 : Nat) ^ 77 ≥ 2000 := by decide
    have b4 : ((j : Int) + 3).natAbs ≤ 10 ^ 77 := Nat.le_trans (by omega : _ ≤ 2000) big
    obtain ⟨x', y', l', e, q⟩ := t_nB x0 a c js (.dat (.int (j : Int))) (.dat (.int ((c + 1) * (48271 + 2 * (j : Int)) + (a + 1) * (69621 + 7919 * (j : Int))))) (S.set 0 (.lst ((l ++ [((c + 1) * (48271 + 2 * (j : Int)) + (a + 1) * (69621 + 7919 * (j : Int))) % 2147483647 / ((j : Int) + 3) % 1000]).map .int))) (l ++ [((c + 1) * (48271 + 2 * (j : Int)) + (a + 1) * (69621 + 7919 * (j : Int))) % 2147483647 / ((j : Int) + 3) % 1000]) (fun i hi => hj i (List.mem_cons_of_mem _ hi)) (get_set (get_lt g)) (by rw [List.length_append, List.length_singleton]; omega)
    refine ⟨x', y', l', ?_, by rw [List.length_append, List.length_singleton] at q; rw [List.length_cons]; omega⟩
    simp at e
    have m1 : ∀ S, bMul (.int (c + 1)) (.int (48271 + 2 * (j : Int))) S = .ok (.int ((c + 1) * (48271 + 2 * (j : Int)))) S := fun S => i_mul2 b1
    have m2 : ∀ S, bMul (.int (a + 1)) (.int (69621 + 7919 * (j : Int))) S = .ok (.int ((a + 1) * (69621 + 7919 * (j : Int)))) S := fun S => i_mul2 b2
    have m3 : ∀ x S, bDiv (.int x) (.int ((j : Int) + 3)) S = .ok (.int (x / ((j : Int) + 3))) S := fun x S => i_div b3 b4
    rw [List.map_cons]
    simp [nB, g, hl2, m1, m2, m3]
    exact e
theorem t_nO (ns : List Int) : ∀ (js : List Nat) (x3 x4 x5 x2 : Sl) (S : Store) (l : List Int), (∀ j ∈ js, j < ns.length) → getL S 0 = some (l.map .int) → l.length + 100 * js.length ≤ 1000000 → ∃ (y2 y3 y4 y5 : Sl) (l' : List Int),
    mItems (fun _ => True) (gN 2) nO (js.map fun (i : Nat) => D.int (i : Int)) [.dat (.fz (ns.map .int)), .dat (.ref 0), x2, x3, x4, x5] S = .nx [.dat (.fz (ns.map .int)), .dat (.ref 0), y2, y3, y4, y5] (S.set 0 (.lst (l'.map .int)))
  | [], x3, x4, x5, x2, S, l, _, g, hl => ⟨x2, x3, x4, x5, l, by simp [set_same g]⟩
  | j :: js, x3, x4, x5, x2, S, l, hj, g, hl => by
    rw [List.length_cons] at hl
    have hjl : j < ns.length := hj j List.mem_cons_self
    have e : atI (ns.map D.int) (j : Int) = some (.int ns[j]) := x_at (i := (j : Int)) (Int.natCast_nonneg j) (by simp [hjl])
    by_cases h : 1000000000000000000 ≤ (if ns[j] < 0 then -ns[j] else ns[j])
    · obtain ⟨c', x', l', e1, q⟩ := t_nA (.dat (.fz (ns.map .int))) (.dat (.int (j : Int))) x5 ((List.range 60).map fun (i : Nat) => D.int (i : Int)) (if ns[j] < 0 then -ns[j] else ns[j]) x4 S l g (by simp; omega)
      obtain ⟨y2, y3, y4, y5, l'', e2⟩ := t_nO ns js (.dat (.int c')) x' x5 (.dat (.int (j : Int))) (S.set 0 (.lst (l'.map .int))) l' (fun i hi => hj i (List.mem_cons_of_mem _ hi)) (get_set (get_lt g)) (by simp at q; omega)
      refine ⟨y2, y3, y4, y5, l'', ?_⟩
      rw [List.map_cons]
      simp at e2
      simp [nO, e, h, e1]
      exact e2
    · obtain ⟨x', y', l', e1, q⟩ := t_nB (.dat (.fz (ns.map .int))) (j : Int) (if ns[j] < 0 then -ns[j] else ns[j]) (List.range 8) x4 x5 S l (fun i hi => List.mem_range.mp hi) g (by simp; omega)
      obtain ⟨y2, y3, y4, y5, l'', e2⟩ := t_nO ns js (.dat (.int (if ns[j] < 0 then -ns[j] else ns[j]))) x' y' (.dat (.int (j : Int))) (S.set 0 (.lst (l'.map .int))) l' (fun i hi => hj i (List.mem_cons_of_mem _ hi)) (get_set (get_lt g)) (by simp at q; omega)
      refine ⟨y2, y3, y4, y5, l'', ?_⟩
      rw [List.map_cons]
      simp at e2
      simp [nO, e, h, e1]
      exact e2
theorem t_numbers (ns : List Int) (hl : ns.length ≤ 63) : ∃ l : List Int, m__law_numbers [.fz (ns.map .int)] [] = .ok (.ref 0) [.lst (l.map .int)] := by
  obtain ⟨y2, y3, y4, y5, l', w⟩ := t_nO ns (List.range ns.length) .un .un .un .un [.lst []] [] (fun i hi => List.mem_range.mp hi) rfl (by simp; omega)
  have m : (if (63 : Int) < (ns.length : Int) then (63 : Int) else (ns.length : Int)) = (ns.length : Int) := if_neg (by omega)
  have fm : ∀ S, fMin2 [.int (ns.length : Int), .int 63] S = .ok (.int (ns.length : Int)) S := fun S => by
    show R.ok (D.int (if (63 : Int) < (ns.length : Int) then (63 : Int) else (ns.length : Int))) S = _
    rw [m]
  have rg := fun S => k_rngN (S := S) (by omega : ns.length ≤ 16777216)
  refine ⟨l', ?_⟩
  simp at w
  simp [m__law_numbers, rho0, numbers_eq, fm, rg, w]
theorem law_true : ∀ ns : List Int, ns.length ≤ 63 → ∃ S', m_law [.fz (ns.map FL.D.int)] [] = .ok (.bl true) S' := by
  intro ns hl
  obtain ⟨l, w0⟩ := t_numbers ns hl
  have T0 : TS [.lst (l.map .int), .lst [.int 0]] := ⟨l, 0, rfl, rfl, by omega⟩
  obtain ⟨v1, S1, w1, p1, n1⟩ := t_value _ T0
  obtain ⟨v2, S2, w2, p2, n2⟩ := t_value S1 n1.ts
  obtain ⟨v3, S3, w3, p3, n3⟩ := t_value S2 n2.ts
  have r1 := fun S => t_right 5 (by omega) v1 p1 S
  have r2 := fun S => t_right 5 (by omega) v2 p2 S
  have r3 := fun S => t_right 5 (by omega) v3 p3 S
  have r4 := fun S => t_right 5 (by omega) (.tup [.str "list", .tup [.str "list", .tup [.str "ref", .int 60], .int 0], .int 40]) (by decide +kernel) S
  have r5 := fun S => t_right 5 (by omega) (.tup [.str "list", .tup [.str "list", .tup [.str "list", .tup [.str "ref", .int 60], .int 0], .int 40], .int 1]) (by decide +kernel) S
  have rr : List.range 3 = [0, 1, 2] := rfl
  refine ⟨[], ?_⟩
  simp [m_law, rho0, b_law, w0, rr, w1, w2, w3, r1, r2, r3, r4, r5, gc_top]
end K01
end

section
namespace K01
open PySem L2 FL
def top (i : Nat) : Stmt := PySem.Challenge.pw_trunkcall_k01_check_shape.main.body.getD i (.Pass ⟨0, 0, 0, 0⟩)
abbrev s_is_int : Stmt := top 10
abbrev s_is_int_in : Stmt := top 11
abbrev s__is_simple : Stmt := top 13
abbrev s__is_list : Stmt := top 14
abbrev s_is_shape : Stmt := top 15
abbrev s_check_shape : Stmt := top 16
abbrev s_shape_refs : Stmt := top 17
abbrev s__law_numbers : Stmt := top 19
abbrev s__law_take : Stmt := top 20
abbrev s__law_great : Stmt := top 21
abbrev s__law_near : Stmt := top 22
abbrev s__law_inner : Stmt := top 23
abbrev s__law_value : Stmt := top 24
abbrev s__law_is_number : Stmt := top 25
abbrev s__law_is_shape : Stmt := top 26
abbrev s__law_same : Stmt := top 27
abbrev s__law_refs : Stmt := top 28
abbrev s__law_right : Stmt := top 29
abbrev s_law : Stmt := top 30
abbrev i_BadShape : Stmt := inClass (top 3) 0
def fnmL : List (List Str) := [[], ["number"], ["shape"], ["mode"]]
abbrev gg (K : PySem.W.Frag) (ec : Nat → Addr) : G := ⟨K, ec, fun n => fnmL.getD n [], fun _ => 0⟩
structure Fx (K : PySem.W.Frag) (mg : Str → Option Value) (fa : Nat → Addr) (fd : Nat → FuncData) (ec : Nat → Addr) (fi : Nat → Addr) (di : Nat → FuncData) : Prop where
  z_isinstance : mg "isinstance" = none
  z_int : mg "int" = none
  z_bool : mg "bool" = none
  F_is_int : Fun K "is_int" "is_int" s_is_int (fa 0) (fd 0)
  kp_is_int : PySem.W.keepIn K (.ref (fa 0)) = true
  g_is_int : mg "is_int" = some (.ref (fa 0))
  b_is_int : Binds K (fd 0) ["value"] []
  F_is_int_in : Fun K "is_int_in" "is_int_in" s_is_int_in (fa 1) (fd 1)
  kp_is_int_in : PySem.W.keepIn K (.ref (fa 1)) = true
  g_is_int_in : mg "is_int_in" = some (.ref (fa 1))
  b_is_int_in : Binds K (fd 1) ["value", "low", "high"] []
  z_tuple : mg "tuple" = none
  z_len : mg "len" = none
  c_MOST_INT : ∃ t, mg "MOST_INT" = some (.int 1000000000 t)
  c_MOST_LENGTH : ∃ t, mg "MOST_LENGTH" = some (.int 40 t)
  c_MOST_NUMBER : ∃ t, mg "MOST_NUMBER" = some (.int 60 t)
  F__is_simple : Fun K "_is_simple" "_is_simple" s__is_simple (fa 2) (fd 2)
  kp__is_simple : PySem.W.keepIn K (.ref (fa 2)) = true
  g__is_simple : mg "_is_simple" = some (.ref (fa 2))
  b__is_simple : Binds K (fd 2) ["shape"] []
  F__is_list : Fun K "_is_list" "_is_list" s__is_list (fa 3) (fd 3)
  kp__is_list : PySem.W.keepIn K (.ref (fa 3)) = true
  g__is_list : mg "_is_list" = some (.ref (fa 3))
  b__is_list : Binds K (fd 3) ["shape"] []
  c_MOST_NESTING : ∃ t, mg "MOST_NESTING" = some (.int 2 t)
  z_range : mg "range" = none
  F_is_shape : Fun K "is_shape" "is_shape" s_is_shape (fa 4) (fd 4)
  kp_is_shape : PySem.W.keepIn K (.ref (fa 4)) = true
  g_is_shape : mg "is_shape" = some (.ref (fa 4))
  b_is_shape : Binds K (fd 4) ["shape"] []
  ox_BadShape : OexC K (ec 2)
  gc_BadShape : mg "BadShape" = some (.ref (ec 2))
  na_BadShape_shape : PySem.W.findIn K (.ref (ec 2)) "shape" = some none
  F_check_shape : Fun K "check_shape" "check_shape" s_check_shape (fa 5) (fd 5)
  kp_check_shape : PySem.W.keepIn K (.ref (fa 5)) = true
  g_check_shape : mg "check_shape" = some (.ref (fa 5))
  b_check_shape : Binds K (fd 5) ["shape"] []
  F_shape_refs : Fun K "shape_refs" "shape_refs" s_shape_refs (fa 6) (fd 6)
  kp_shape_refs : PySem.W.keepIn K (.ref (fa 6)) = true
  g_shape_refs : mg "shape_refs" = some (.ref (fa 6))
  b_shape_refs : Binds K (fd 6) ["shape"] []
  z_min : mg "min" = none
  z_abs : mg "abs" = none
  F__law_numbers : Fun K "_law_numbers" "_law_numbers" s__law_numbers (fa 7) (fd 7)
  kp__law_numbers : PySem.W.keepIn K (.ref (fa 7)) = true
  g__law_numbers : mg "_law_numbers" = some (.ref (fa 7))
  b__law_numbers : Binds K (fd 7) ["script"] []
  F__law_take : Fun K "_law_take" "_law_take" s__law_take (fa 8) (fd 8)
  kp__law_take : PySem.W.keepIn K (.ref (fa 8)) = true
  g__law_take : mg "_law_take" = some (.ref (fa 8))
  b__law_take : Binds K (fd 8) ["numbers", "spot", "many"] []
  F__law_great : Fun K "_law_great" "_law_great" s__law_great (fa 9) (fd 9)
  kp__law_great : PySem.W.keepIn K (.ref (fa 9)) = true
  g__law_great : mg "_law_great" = some (.ref (fa 9))
  b__law_great : Binds K (fd 9) ["numbers", "spot", "span"] []
  F__law_near : Fun K "_law_near" "_law_near" s__law_near (fa 10) (fd 10)
  kp__law_near : PySem.W.keepIn K (.ref (fa 10)) = true
  g__law_near : mg "_law_near" = some (.ref (fa 10))
  b__law_near : Binds K (fd 10) ["numbers", "spot", "low", "high"] []
  F__law_inner : Fun K "_law_inner" "_law_inner" s__law_inner (fa 11) (fd 11)
  kp__law_inner : PySem.W.keepIn K (.ref (fa 11)) = true
  g__law_inner : mg "_law_inner" = some (.ref (fa 11))
  b__law_inner : Binds K (fd 11) ["numbers", "spot"] []
  F__law_value : Fun K "_law_value" "_law_value" s__law_value (fa 12) (fd 12)
  kp__law_value : PySem.W.keepIn K (.ref (fa 12)) = true
  g__law_value : mg "_law_value" = some (.ref (fa 12))
  b__law_value : Binds K (fd 12) ["numbers", "spot"] []
  F__law_is_number : Fun K "_law_is_number" "_law_is_number" s__law_is_number (fa 13) (fd 13)
  kp__law_is_number : PySem.W.keepIn K (.ref (fa 13)) = true
  g__law_is_number : mg "_law_is_number" = some (.ref (fa 13))
  b__law_is_number : Binds K (fd 13) ["value", "low", "high"] []
  z_str : mg "str" = none
  F__law_is_shape : Fun K "_law_is_shape" "_law_is_shape" s__law_is_shape (fa 14) (fd 14)
  kp__law_is_shape : PySem.W.keepIn K (.ref (fa 14)) = true
  g__law_is_shape : mg "_law_is_shape" = some (.ref (fa 14))
  b__law_is_shape : Binds K (fd 14) ["value"] []
  F__law_same : Fun K "_law_same" "_law_same" s__law_same (fa 15) (fd 15)
  kp__law_same : PySem.W.keepIn K (.ref (fa 15)) = true
  g__law_same : mg "_law_same" = some (.ref (fa 15))
  b__law_same : Binds K (fd 15) ["one", "two"] []
  F__law_refs : Fun K "_law_refs" "_law_refs" s__law_refs (fa 16) (fd 16)
  kp__law_refs : PySem.W.keepIn K (.ref (fa 16)) = true
  g__law_refs : mg "_law_refs" = some (.ref (fa 16))
  b__law_refs : Binds K (fd 16) ["value"] []
  ek_BadShape : ExcK K (ec 2)
  kit_BadShape_TrunkError : PySem.W.kitOne K (.ref (ec 2)) (.ref (ec 0)) = some true
  gc_TrunkError : mg "TrunkError" = some (.ref (ec 0))
  kit_BadShape_ValueError : PySem.W.kitOne K (.ref (ec 2)) (.type "ValueError") = some true
  z_ValueError : mg "ValueError" = none
  kit_BadShape_BadNumber : PySem.W.kitOne K (.ref (ec 2)) (.ref (ec 1)) = some false
  gc_BadNumber : mg "BadNumber" = some (.ref (ec 1))
  kit_BadShape_BadMode : PySem.W.kitOne K (.ref (ec 2)) (.ref (ec 3)) = some false
  gc_BadMode : mg "BadMode" = some (.ref (ec 3))
  xf_BadShape : XfC K (ec 2)
  exm_TrunkError_BadShape : PySem.W.exmOne K (.ref (ec 0)) (.ref (ec 2)) = some false
  exm_BadNumber_BadShape : PySem.W.exmOne K (.ref (ec 1)) (.ref (ec 2)) = some false
  exm_BadShape_BadShape : PySem.W.exmOne K (.ref (ec 2)) (.ref (ec 2)) = some true
  exm_BadMode_BadShape : PySem.W.exmOne K (.ref (ec 3)) (.ref (ec 2)) = some false
  F__law_right : Fun K "_law_right" "_law_right" s__law_right (fa 17) (fd 17)
  kp__law_right : PySem.W.keepIn K (.ref (fa 17)) = true
  g__law_right : mg "_law_right" = some (.ref (fa 17))
  b__law_right : Binds K (fd 17) ["value"] []
  F_law : Fun K "law" "law" s_law (fa 18) (fd 18)
  kp_law : PySem.W.keepIn K (.ref (fa 18)) = true
  g_law : mg "law" = some (.ref (fa 18))
  b_law : Binds K (fd 18) ["script"] []
  Fi_BadShape : Fun K "__init__" "BadShape.__init__" i_BadShape (fi 2) (di 2)
  ii_BadShape : PySem.W.findIn K (.ref (ec 2)) "__init__" = some (some (.ref (fi 2)))
  ti_BadShape : PySem.W.typeIn K (.ref (fi 2)) = some (.type "function")
  bi_BadShape : Binds K (di 2) ["self", "shape"] []
section
variable {P : Program} {w : World} {K : PySem.W.Frag} {mg : Str → Option Value} {base : Heap} {fa : Nat → Addr} {fd : Nat → FuncData} {ec fi : Nat → Addr} {di : Nat → FuncData}
theorem sci_BadShape : FnScope ["self", "shape"] ["self", "shape"] (defScope i_BadShape) := ⟨rfl, rfl, rfl, by decide +kernel, rfl, by decide +kernel, by decide +kernel⟩
theorem oi_BadShape (T : Fx K mg fa fd ec fi di) : FnOk P w K mg base CX0 1 (fi 2) (di 2) ["self", "shape"] (spInit (ec 2) ["shape"]) := T.Fi_BadShape.ok sci_BadShape (init_len rfl) fun cdv A outer s H vs Q E hr h => ⟨_, pss_one (ps_ost (pv 0) (pv 1)), init1 (g := gg K ec) (N := ["self", "shape"]) rfl T.ox_BadShape T.na_BadShape_shape h⟩
theorem hsub_BadShape (T : Fx K mg fa fd ec fi di) : ∀ c b, sub_BadShape c = some b → PySem.W.exmOne (gg K ec).K (.ref ((gg K ec).ec c)) (.ref (ec 2)) = some b := by
  intro c b h
  unfold sub_BadShape at h
  split at h
  · rename_i e; subst e; cases h; exact T.exm_TrunkError_BadShape
  split at h
  · rename_i e; subst e; cases h; exact T.exm_BadNumber_BadShape
  split at h
  · rename_i e; subst e; cases h; exact T.exm_BadShape_BadShape
  split at h
  · rename_i e; subst e; cases h; exact T.exm_BadMode_BadShape
  cases h
theorem sc_is_int : FnScope ["value"] ["value"] (defScope s_is_int) := ⟨rfl, rfl, rfl, by decide +kernel, rfl, by decide +kernel, by decide +kernel⟩
theorem ok_is_int (T : Fx K mg fa fd ec fi di) : FnOk P w K mg base (L2N.CX P w) 1 (fa 0) (fd 0) ["value"] (spM (gg K ec) 1 m_is_int) := by
  refine fn_gc (fn_ok (g := gg K ec) T.F_is_int sc_is_int (fun cdv A outer s H E hr => ?_))
  exact (fs_one (fs_ret (fe_and (fe_isi (T := "int") T.z_isinstance T.z_int (by decide +kernel) (f_var rfl 0)) (fe_one (fe_not (fe_isi (T := "bool") T.z_isinstance T.z_bool (by decide +kernel) (f_var rfl 0)))))))
theorem sc_is_int_in : FnScope ["value", "low", "high"] ["value", "low", "high"] (defScope s_is_int_in) := ⟨rfl, rfl, rfl, by decide +kernel, rfl, by decide +kernel, by decide +kernel⟩
theorem ok_is_int_in (T : Fx K mg fa fd ec fi di) : FnOk P w K mg base (L2N.CX P w) 2 (fa 1) (fd 1) ["value", "low", "high"] (spM (gg K ec) 3 m_is_int_in) := by
  refine fn_gc (fn_ok (g := gg K ec) T.F_is_int_in sc_is_int_in (fun cdv A outer s H E hr => ?_))
  exact (fs_one (fs_ret (fe_and (fe_call (ok_is_int T) (hr.mono (by decide)) T.g_is_int T.kp_is_int T.b_is_int (L2N.takes_of rfl rfl rfl rfl) (fa_cons (f_var rfl 0) (fa_nil rfl)) (na_cons na_nil)) (fe_one (fe_chain cr_le cr_le (f_var rfl 1) (f_var rfl 0) (f_var rfl 2))))))
theorem sc__is_simple : FnScope ["shape", "word"] ["shape"] (defScope s__is_simple) := ⟨rfl, rfl, rfl, by decide +kernel, rfl, by decide +kernel, by decide +kernel⟩
theorem ok__is_simple (T : Fx K mg fa fd ec fi di) : FnOk P w K mg base (L2N.CX P w) 3 (fa 2) (fd 2) ["shape"] (spM (gg K ec) 1 m__is_simple) := by
  refine fn_gc (fn_ok (g := gg K ec) T.F__is_simple sc__is_simple (fun cdv A outer s H E hr => ?_))
  exact (fs_cons (fs_if (ft_w (fw_or (ft_not (ft_tru (fe_isi (T := "tuple") T.z_isinstance T.z_tuple (by decide +kernel) (f_var rfl 0)))) (fw_or1 (ft_cmp (cr_eq rfl hr.units) (fe_blt (br_len rfl) T.z_len (fa_cons (f_var rfl 0) (fa_nil rfl))) (f_int rfl))))) (fs_one (fs_ret (f_bl rfl))) (fs_nil rfl))
 (fs_cons (fs_set (i := 1) sc__is_simple.nd (fe_ix (f_var rfl 0) (f_int rfl)))
 (fs_cons (fs_if (ft_cmp (cr_eq rfl hr.units) (f_var rfl 1) (f_str rfl)) (fs_cons (fs_if (ft_w (fw_or (ft_cmp (cr_ne rfl hr.units) (fe_blt (br_len rfl) T.z_len (fa_cons (f_var rfl 0) (fa_nil rfl))) (f_int rfl)) (fw_or1 (ft_not (ft_tru (fe_call (ok_is_int_in T) (hr.mono (by decide)) T.g_is_int_in T.kp_is_int_in T.b_is_int_in (L2N.takes_of rfl rfl rfl rfl) (fa_cons (fe_ix (f_var rfl 0) (f_int rfl)) (fa_cons (f_neg (f_gint rfl T.c_MOST_INT)) (fa_cons (f_gint rfl T.c_MOST_INT) (fa_nil rfl)))) (na_cons (na_cons (na_cons na_nil))))))))) (fs_one (fs_ret (f_bl rfl))) (fs_nil rfl))
 (fs_one (fs_ret (fe_call (ok_is_int_in T) (hr.mono (by decide)) T.g_is_int_in T.kp_is_int_in T.b_is_int_in (L2N.takes_of rfl rfl rfl rfl) (fa_cons (fe_ix (f_var rfl 0) (f_int rfl)) (fa_cons (fe_ix (f_var rfl 0) (f_int rfl)) (fa_cons (f_gint rfl T.c_MOST_INT) (fa_nil rfl)))) (na_cons (na_cons (na_cons na_nil))))))) (fs_nil rfl))
 (fs_cons (fs_if (ft_cmp (cr_eq rfl hr.units) (f_var rfl 1) (f_str rfl)) (fs_one (fs_ret (fe_and (fe_cmp (cr_eq rfl hr.units) (fe_blt (br_len rfl) T.z_len (fa_cons (f_var rfl 0) (fa_nil rfl))) (f_int rfl)) (fe_one (fe_call (ok_is_int_in T) (hr.mono (by decide)) T.g_is_int_in T.kp_is_int_in T.b_is_int_in (L2N.takes_of rfl rfl rfl rfl) (fa_cons (fe_ix (f_var rfl 0) (f_int rfl)) (fa_cons (f_int rfl) (fa_cons (f_gint rfl T.c_MOST_LENGTH) (fa_nil rfl)))) (na_cons (na_cons (na_cons na_nil)))))))) (fs_nil rfl))
 (fs_cons (fs_if (ft_cmp (cr_eq rfl hr.units) (f_var rfl 1) (f_str rfl)) (fs_one (fs_ret (fe_and (fe_cmp (cr_eq rfl hr.units) (fe_blt (br_len rfl) T.z_len (fa_cons (f_var rfl 0) (fa_nil rfl))) (f_int rfl)) (fe_one (fe_call (ok_is_int_in T) (hr.mono (by decide)) T.g_is_int_in T.kp_is_int_in T.b_is_int_in (L2N.takes_of rfl rfl rfl rfl) (fa_cons (fe_ix (f_var rfl 0) (f_int rfl)) (fa_cons (f_int rfl) (fa_cons (f_gint rfl T.c_MOST_NUMBER) (fa_nil rfl)))) (na_cons (na_cons (na_cons na_nil)))))))) (fs_nil rfl))
 (fs_one (fs_ret (fe_cmp (cr_eq rfl hr.units) (f_var rfl 0) (fe_tup (fa_cons (f_str rfl) (fa_nil rfl)))))))))))
theorem sc__is_list : FnScope ["shape"] ["shape"] (defScope s__is_list) := ⟨rfl, rfl, rfl, by decide +kernel, rfl, by decide +kernel, by decide +kernel⟩
theorem ok__is_list (T : Fx K mg fa fd ec fi di) : FnOk P w K mg base (L2N.CX P w) 3 (fa 3) (fd 3) ["shape"] (spM (gg K ec) 1 m__is_list) := by
  refine fn_gc (fn_ok (g := gg K ec) T.F__is_list sc__is_list (fun cdv A outer s H E hr => ?_))
  exact (fs_cons (fs_if (ft_w (fw_or (ft_not (ft_tru (fe_isi (T := "tuple") T.z_isinstance T.z_tuple (by decide +kernel) (f_var rfl 0)))) (fw_or1 (ft_cmp (cr_ne rfl hr.units) (fe_blt (br_len rfl) T.z_len (fa_cons (f_var rfl 0) (fa_nil rfl))) (f_int rfl))))) (fs_one (fs_ret (f_bl rfl))) (fs_nil rfl))
 (fs_one (fs_ret (fe_and (fe_cmp (cr_eq rfl hr.units) (fe_ix (f_var rfl 0) (f_int rfl)) (f_str rfl)) (fe_one (fe_call (ok_is_int_in T) (hr.mono (by decide)) T.g_is_int_in T.kp_is_int_in T.b_is_int_in (L2N.takes_of rfl rfl rfl rfl) (fa_cons (fe_ix (f_var rfl 0) (f_int rfl)) (fa_cons (f_int rfl) (fa_cons (f_gint rfl T.c_MOST_LENGTH) (fa_nil rfl)))) (na_cons (na_cons (na_cons na_nil)))))))))
theorem sc_is_shape : FnScope ["shape", "inner", "_"] ["shape"] (defScope s_is_shape) := ⟨rfl, rfl, rfl, by decide +kernel, rfl, by decide +kernel, by decide +kernel⟩
theorem ok_is_shape (T : Fx K mg fa fd ec fi di) : FnOk P w K mg base (L2N.CX P w) 4 (fa 4) (fd 4) ["shape"] (spM (gg K ec) 1 m_is_shape) := by
  refine fn_gc (fn_ok (g := gg K ec) T.F_is_shape sc_is_shape (fun cdv A outer s H E hr => ?_))
  exact (fs_cons (fs_set (i := 1) sc_is_shape.nd (f_var rfl 0))
 (fs_cons (fs_for (passes_of rfl) rfl (fi_range1 T.z_range (fa_cons (f_gint rfl T.c_MOST_NESTING) (fa_nil rfl))) (fg_name rfl sc_is_shape.nd) (fs_one (fs_if (ft_tru (fe_call (ok__is_list T) (hr.mono (by decide)) T.g__is_list T.kp__is_list T.b__is_list (L2N.takes_of rfl rfl rfl rfl) (fa_cons (f_var rfl 1) (fa_nil rfl)) (na_cons na_nil))) (fs_one (fs_set (i := 1) sc_is_shape.nd (fe_ix (f_var rfl 1) (f_int rfl)))) (fs_nil rfl))))
 (fs_one (fs_ret (fe_call (ok__is_simple T) (hr.mono (by decide)) T.g__is_simple T.kp__is_simple T.b__is_simple (L2N.takes_of rfl rfl rfl rfl) (fa_cons (f_var rfl 1) (fa_nil rfl)) (na_cons na_nil))))))
theorem sc_check_shape : FnScope ["shape"] ["shape"] (defScope s_check_shape) := ⟨rfl, rfl, rfl, by decide +kernel, rfl, by decide +kernel, by decide +kernel⟩
theorem ok_check_shape (T : Fx K mg fa fd ec fi di) : FnOk P w K mg base (L2N.CX P w) 5 (fa 5) (fd 5) ["shape"] (spM (gg K ec) 1 m_check_shape) := by
  refine fn_gc (fn_ok (g := gg K ec) T.F_check_shape sc_check_shape (fun cdv A outer s H E hr => ?_))
  exact (fs_one (fs_if (ft_not (ft_tru (fe_call (ok_is_shape T) (hr.mono (by decide)) T.g_is_shape T.kp_is_shape T.b_is_shape (L2N.takes_of rfl rfl rfl rfl) (fa_cons (f_var rfl 0) (fa_nil rfl)) (na_cons na_nil)))) (fs_one (fs_raise (n := 2) (k := 1) (names := ["shape"]) rfl (L2N.takes_of rfl rfl rfl rfl) T.ox_BadShape T.ii_BadShape T.ti_BadShape (oi_BadShape T) (hr.mono (by decide)) T.bi_BadShape T.gc_BadShape rfl (by decide) (fa_cons (f_var rfl 0) (fa_nil rfl)) (na_cons na_nil) (by decide))) (fs_nil rfl)))
theorem sc_shape_refs : FnScope ["shape", "inner"] ["shape"] (defScope s_shape_refs) := ⟨rfl, rfl, rfl, by decide +kernel, rfl, by decide +kernel, by decide +kernel⟩
theorem ok_shape_refs (T : Fx K mg fa fd ec fi di) : FnOk P w K mg base (L2N.CX P w) 1 (fa 6) (fd 6) ["shape"] (spM (gg K ec) 1 m_shape_refs) := by
  refine fn_gc (fn_ok (g := gg K ec) T.F_shape_refs sc_shape_refs (fun cdv A outer s H E hr => ?_))
  exact (fs_cons (fs_set (i := 1) sc_shape_refs.nd (f_var rfl 0))
 (fs_cons (fs_while (passes_of rfl) (ft_cmp (cr_eq rfl hr.units) (fe_ix (f_var rfl 1) (f_int rfl)) (f_str rfl)) (fs_one (fs_set (i := 1) sc_shape_refs.nd (fe_ix (f_var rfl 1) (f_int rfl)))))
 (fs_cons (fs_if (ft_cmp (cr_eq rfl hr.units) (fe_ix (f_var rfl 1) (f_int rfl)) (f_str rfl)) (fs_one (fs_ret (fe_tup (fa_cons (fe_ix (f_var rfl 1) (f_int rfl)) (fa_nil rfl))))) (fs_nil rfl))
 (fs_one (fs_ret (fe_tup (fa_nil rfl)))))))
theorem sc__law_numbers : FnScope ["script", "found", "at", "cell", "k", "mixed"] ["script"] (defScope s__law_numbers) := ⟨rfl, rfl, rfl, by decide +kernel, rfl, by decide +kernel, by decide +kernel⟩
theorem ok__law_numbers (T : Fx K mg fa fd ec fi di) : FnOk P w K mg base (L2N.CX P w) 1 (fa 7) (fd 7) ["script"] (spM (gg K ec) 1 m__law_numbers) := by
  refine id (fn_ok (g := gg K ec) T.F__law_numbers sc__law_numbers (fun cdv A outer s H E hr => ?_))
  exact (fs_cons (fs_set (i := 1) sc__law_numbers.nd (fe_lst (fa_nil rfl)))
 (fs_cons (fs_for (passes_of rfl) rfl (fi_range1 T.z_range (fa_cons (fe_blt (br_min2 rfl) T.z_min (fa_cons (fe_blt (br_len rfl) T.z_len (fa_cons (f_var rfl 0) (fa_nil rfl))) (fa_cons (f_int rfl) (fa_nil rfl)))) (fa_nil rfl))) (fg_name rfl sc__law_numbers.nd) (fs_cons (fs_set (i := 3) sc__law_numbers.nd (fe_blt br_abs T.z_abs (fa_cons (fe_bltT br_int T.z_int (fa_cons (fe_ix (f_var rfl 0) (f_var rfl 2)) (fa_nil rfl))) (fa_nil rfl))))
 (fs_one (fs_if (ft_cmp cr_ge (f_var rfl 3) (f_pow (f_int rfl) (f_int rfl))) (fs_one (fs_for (passes_of rfl) rfl (fi_range1 T.z_range (fa_cons (f_int rfl) (fa_nil rfl))) (fg_name rfl sc__law_numbers.nd) (fs_one (fs_if (ft_cmp cr_gt (f_var rfl 3) (f_int rfl)) (fs_cons (fs_expr (fe_meth mr_append (f_var rfl 1) (fa_cons (f_mod (fe_bltT br_int T.z_int (fa_cons (f_var rfl 3) (fa_nil rfl))) (f_int rfl)) (fa_nil rfl))))
 (fs_one (fs_set (i := 3) sc__law_numbers.nd (f_div (f_var rfl 3) (f_int rfl))))) (fs_nil rfl))))) (fs_one (fs_for (passes_of rfl) rfl (fi_range1 T.z_range (fa_cons (f_int rfl) (fa_nil rfl))) (fg_name rfl sc__law_numbers.nd) (fs_cons (fs_set (i := 5) sc__law_numbers.nd (f_add (f_mul (f_add (f_var rfl 3) (f_int rfl)) (f_add (f_int rfl) (f_mul (f_int rfl) (f_var rfl 4)))) (f_mul (f_add (f_var rfl 2) (f_int rfl)) (f_add (f_int rfl) (f_mul (f_int rfl) (f_var rfl 4))))))
 (fs_one (fs_expr (fe_meth mr_append (f_var rfl 1) (fa_cons (f_mod (fe_bltT br_int T.z_int (fa_cons (f_div (f_mod (fe_bltT br_int T.z_int (fa_cons (f_var rfl 5) (fa_nil rfl))) (f_int rfl)) (f_add (f_var rfl 4) (f_int rfl))) (fa_nil rfl))) (f_int rfl)) (fa_nil rfl))))))))))))
 (fs_one (fs_ret (f_var rfl 1)))))
theorem sc__law_take : FnScope ["numbers", "spot", "many", "at"] ["numbers", "spot", "many"] (defScope s__law_take) := ⟨rfl, rfl, rfl, by decide +kernel, rfl, by decide +kernel, by decide +kernel⟩
theorem ok__law_take (T : Fx K mg fa fd ec fi di) : FnOk P w K mg base (L2N.CX P w) 1 (fa 8) (fd 8) ["numbers", "spot", "many"] (spM (gg K ec) 3 m__law_take) := by
  refine fn_gc (fn_ok (g := gg K ec) T.F__law_take sc__law_take (fun cdv A outer s H E hr => ?_))
  exact (fs_cons (fs_set (i := 3) sc__law_take.nd (fe_ix (f_var rfl 1) (f_int rfl)))
 (fs_cons (fs_sub (f_add (f_var rfl 3) (f_int rfl)) (f_var rfl 1) (f_int rfl) (fun p1 p2 p3 => pg_sub p1 p2 p3))
 (fs_cons (fs_if (ft_cmp cr_lt (f_var rfl 3) (fe_blt (br_len rfl) T.z_len (fa_cons (f_var rfl 0) (fa_nil rfl)))) (fs_one (fs_ret (f_mod (fe_bltT br_int T.z_int (fa_cons (fe_ix (f_var rfl 0) (f_var rfl 3)) (fa_nil rfl))) (f_var rfl 2)))) (fs_nil rfl))
 (fs_cons (fs_if (ft_cmp (cr_eq rfl hr.units) (fe_blt (br_len rfl) T.z_len (fa_cons (f_var rfl 0) (fa_nil rfl))) (f_int rfl)) (fs_one (fs_ret (f_int rfl))) (fs_nil rfl))
 (fs_one (fs_ret (f_mod (fe_bltT br_int T.z_int (fa_cons (f_add (f_mul (fe_ix (f_var rfl 0) (f_mod (fe_bltT br_int T.z_int (fa_cons (f_var rfl 3) (fa_nil rfl))) (fe_blt (br_len rfl) T.z_len (fa_cons (f_var rfl 0) (fa_nil rfl))))) (f_int rfl)) (f_mul (f_var rfl 3) (f_int rfl))) (fa_nil rfl))) (f_var rfl 2))))))))
theorem sc__law_great : FnScope ["numbers", "spot", "span", "great", "k"] ["numbers", "spot", "span"] (defScope s__law_great) := ⟨rfl, rfl, rfl, by decide +kernel, rfl, by decide +kernel, by decide +kernel⟩
theorem ok__law_great (T : Fx K mg fa fd ec fi di) : FnOk P w K mg base (L2N.CX P w) 2 (fa 9) (fd 9) ["numbers", "spot", "span"] (spM (gg K ec) 3 m__law_great) := by
  refine fn_gc (fn_ok (g := gg K ec) T.F__law_great sc__law_great (fun cdv A outer s H E hr => ?_))
  exact (fs_cons (fs_set (i := 3) sc__law_great.nd (f_int rfl))
 (fs_cons (fs_for (passes_of rfl) rfl (fi_range1 T.z_range (fa_cons (f_int rfl) (fa_nil rfl))) (fg_name rfl sc__law_great.nd) (fs_one (fs_set (i := 3) sc__law_great.nd (f_add (f_mul (f_var rfl 3) (f_int rfl)) (fe_call (ok__law_take T) (hr.mono (by decide)) T.g__law_take T.kp__law_take T.b__law_take (L2N.takes_of rfl rfl rfl rfl) (fa_cons (f_var rfl 0) (fa_cons (f_var rfl 1) (fa_cons (f_int rfl) (fa_nil rfl)))) (na_cons (na_cons (na_cons na_nil))))))))
 (fs_one (fs_ret (f_mod (fe_bltT br_int T.z_int (fa_cons (f_var rfl 3) (fa_nil rfl))) (f_var rfl 2))))))
theorem sc__law_near : FnScope ["numbers", "spot", "low", "high", "pick"] ["numbers", "spot", "low", "high"] (defScope s__law_near) := ⟨rfl, rfl, rfl, by decide +kernel, rfl, by decide +kernel, by decide +kernel⟩
theorem ok__law_near (T : Fx K mg fa fd ec fi di) : FnOk P w K mg base (L2N.CX P w) 3 (fa 10) (fd 10) ["numbers", "spot", "low", "high"] (spM (gg K ec) 4 m__law_near) := by
  refine fn_gc (fn_ok (g := gg K ec) T.F__law_near sc__law_near (fun cdv A outer s H E hr => ?_))
  exact (fs_cons (fs_set (i := 4) sc__law_near.nd (fe_call (ok__law_take T) (hr.mono (by decide)) T.g__law_take T.kp__law_take T.b__law_take (L2N.takes_of rfl rfl rfl rfl) (fa_cons (f_var rfl 0) (fa_cons (f_var rfl 1) (fa_cons (f_int rfl) (fa_nil rfl)))) (na_cons (na_cons (na_cons na_nil)))))
 (fs_cons (fs_if (ft_cmp (cr_eq rfl hr.units) (f_var rfl 4) (f_int rfl)) (fs_one (fs_ret (f_var rfl 2))) (fs_nil rfl))
 (fs_cons (fs_if (ft_cmp (cr_eq rfl hr.units) (f_var rfl 4) (f_int rfl)) (fs_one (fs_ret (f_var rfl 3))) (fs_nil rfl))
 (fs_cons (fs_if (ft_cmp (cr_eq rfl hr.units) (f_var rfl 4) (f_int rfl)) (fs_one (fs_ret (f_sub (f_var rfl 2) (f_int rfl)))) (fs_nil rfl))
 (fs_cons (fs_if (ft_cmp (cr_eq rfl hr.units) (f_var rfl 4) (f_int rfl)) (fs_one (fs_ret (f_add (f_var rfl 3) (f_int rfl)))) (fs_nil rfl))
 (fs_cons (fs_if (ft_cmp (cr_eq rfl hr.units) (f_var rfl 4) (f_int rfl)) (fs_one (fs_ret (fe_cmp (cr_eq rfl hr.units) (fe_call (ok__law_take T) (hr.mono (by decide)) T.g__law_take T.kp__law_take T.b__law_take (L2N.takes_of rfl rfl rfl rfl) (fa_cons (f_var rfl 0) (fa_cons (f_var rfl 1) (fa_cons (f_int rfl) (fa_nil rfl)))) (na_cons (na_cons (na_cons na_nil)))) (f_int rfl)))) (fs_nil rfl))
 (fs_cons (fs_if (ft_cmp (cr_eq rfl hr.units) (f_var rfl 4) (f_int rfl)) (fs_one (fs_ret (fe_ix (fe_lst (fa_cons (f_non rfl) (fa_cons (f_str rfl) (fa_cons (fe_tup (fa_nil rfl)) (fa_cons (f_str rfl) (fa_cons (fe_tup (fa_cons (f_int rfl) (fa_nil rfl))) (fa_nil rfl))))))) (fe_call (ok__law_take T) (hr.mono (by decide)) T.g__law_take T.kp__law_take T.b__law_take (L2N.takes_of rfl rfl rfl rfl) (fa_cons (f_var rfl 0) (fa_cons (f_var rfl 1) (fa_cons (f_int rfl) (fa_nil rfl)))) (na_cons (na_cons (na_cons na_nil))))))) (fs_nil rfl))
 (fs_one (fs_ret (f_add (f_var rfl 2) (fe_call (ok__law_great T) (hr.mono (by decide)) T.g__law_great T.kp__law_great T.b__law_great (L2N.takes_of rfl rfl rfl rfl) (fa_cons (f_var rfl 0) (fa_cons (f_var rfl 1) (fa_cons (f_add (f_sub (f_var rfl 3) (f_var rfl 2)) (f_int rfl)) (fa_nil rfl)))) (na_cons (na_cons (na_cons na_nil))))))))))))))
theorem sc__law_inner : FnScope ["numbers", "spot", "pick", "first", "second", "numeric"] ["numbers", "spot"] (defScope s__law_inner) := ⟨rfl, rfl, rfl, by decide +kernel, rfl, by decide +kernel, by decide +kernel⟩
theorem ok__law_inner (T : Fx K mg fa fd ec fi di) : FnOk P w K mg base (L2N.CX P w) 4 (fa 11) (fd 11) ["numbers", "spot"] (spM (gg K ec) 2 m__law_inner) := by
  refine fn_gc (fn_ok (g := gg K ec) T.F__law_inner sc__law_inner (fun cdv A outer s H E hr => ?_))
  exact (fs_cons (fs_set (i := 2) sc__law_inner.nd (fe_call (ok__law_take T) (hr.mono (by decide)) T.g__law_take T.kp__law_take T.b__law_take (L2N.takes_of rfl rfl rfl rfl) (fa_cons (f_var rfl 0) (fa_cons (f_var rfl 1) (fa_cons (f_int rfl) (fa_nil rfl)))) (na_cons (na_cons (na_cons na_nil)))))
 (fs_cons (fs_if (ft_cmp cr_lt (f_var rfl 2) (f_int rfl)) (fs_cons (fs_set (i := 3) sc__law_inner.nd (fe_call (ok__law_near T) (hr.mono (by decide)) T.g__law_near T.kp__law_near T.b__law_near (L2N.takes_of rfl rfl rfl rfl) (fa_cons (f_var rfl 0) (fa_cons (f_var rfl 1) (fa_cons (f_neg (f_int rfl)) (fa_cons (f_int rfl) (fa_nil rfl))))) (na_cons (na_cons (na_cons (na_cons na_nil))))))
 (fs_cons (fs_set (i := 4) sc__law_inner.nd (fe_call (ok__law_near T) (hr.mono (by decide)) T.g__law_near T.kp__law_near T.b__law_near (L2N.takes_of rfl rfl rfl rfl) (fa_cons (f_var rfl 0) (fa_cons (f_var rfl 1) (fa_cons (f_neg (f_int rfl)) (fa_cons (f_int rfl) (fa_nil rfl))))) (na_cons (na_cons (na_cons (na_cons na_nil))))))
 (fs_cons (fs_set (i := 5) sc__law_inner.nd (fe_and (fe_isi (T := "int") T.z_isinstance T.z_int (by decide +kernel) (f_var rfl 3)) (fe_one (fe_isi (T := "int") T.z_isinstance T.z_int (by decide +kernel) (f_var rfl 4)))))
 (fs_cons (fs_if (ft_w (fw_and (ft_tru (f_var rfl 5)) (fw_and (ft_cmp cr_ltN (f_var rfl 4) (f_var rfl 3)) (fw_and1 (ft_cmp cr_gt (fe_call (ok__law_take T) (hr.mono (by decide)) T.g__law_take T.kp__law_take T.b__law_take (L2N.takes_of rfl rfl rfl rfl) (fa_cons (f_var rfl 0) (fa_cons (f_var rfl 1) (fa_cons (f_int rfl) (fa_nil rfl)))) (na_cons (na_cons (na_cons na_nil)))) (f_int rfl)))))) (fs_one (fs_ret (fe_tup (fa_cons (f_str rfl) (fa_cons (f_var rfl 4) (fa_cons (f_var rfl 3) (fa_nil rfl))))))) (fs_nil rfl))
 (fs_one (fs_ret (fe_tup (fa_cons (f_str rfl) (fa_cons (f_var rfl 3) (fa_cons (f_var rfl 4) (fa_nil rfl))))))))))) (fs_nil rfl))
 (fs_cons (fs_if (ft_cmp cr_lt (f_var rfl 2) (f_int rfl)) (fs_one (fs_ret (fe_tup (fa_cons (f_str rfl) (fa_cons (fe_call (ok__law_near T) (hr.mono (by decide)) T.g__law_near T.kp__law_near T.b__law_near (L2N.takes_of rfl rfl rfl rfl) (fa_cons (f_var rfl 0) (fa_cons (f_var rfl 1) (fa_cons (f_int rfl) (fa_cons (f_int rfl) (fa_nil rfl))))) (na_cons (na_cons (na_cons (na_cons na_nil))))) (fa_nil rfl)))))) (fs_nil rfl))
 (fs_cons (fs_if (ft_cmp cr_lt (f_var rfl 2) (f_int rfl)) (fs_one (fs_ret (fe_tup (fa_cons (f_str rfl) (fa_cons (fe_call (ok__law_near T) (hr.mono (by decide)) T.g__law_near T.kp__law_near T.b__law_near (L2N.takes_of rfl rfl rfl rfl) (fa_cons (f_var rfl 0) (fa_cons (f_var rfl 1) (fa_cons (f_int rfl) (fa_cons (f_int rfl) (fa_nil rfl))))) (na_cons (na_cons (na_cons (na_cons na_nil))))) (fa_nil rfl)))))) (fs_nil rfl))
 (fs_cons (fs_if (ft_cmp (cr_eq rfl hr.units) (f_var rfl 2) (f_int rfl)) (fs_one (fs_ret (fe_tup (fa_cons (f_str rfl) (fa_nil rfl))))) (fs_nil rfl))
 (fs_one (fs_ret (fe_ix (fe_lst (fa_cons (fe_tup (fa_cons (f_str rfl) (fa_nil rfl))) (fa_cons (fe_tup (fa_nil rfl)) (fa_cons (fe_tup (fa_cons (f_str rfl) (fa_cons (f_int rfl) (fa_cons (f_int rfl) (fa_nil rfl))))) (fa_cons (fe_tup (fa_cons (f_int rfl) (fa_cons (f_int rfl) (fa_cons (f_int rfl) (fa_nil rfl))))) (fa_cons (fe_tup (fa_cons (f_str rfl) (fa_nil rfl))) (fa_cons (fe_tup (fa_cons (f_str rfl) (fa_cons (f_int rfl) (fa_nil rfl)))) (fa_cons (fe_tup (fa_cons (f_str rfl) (fa_cons (f_int rfl) (fa_cons (f_int rfl) (fa_nil rfl))))) (fa_cons (fe_tup (fa_cons (f_str rfl) (fa_cons (f_str rfl) (fa_nil rfl)))) (fa_nil rfl)))))))))) (fe_call (ok__law_take T) (hr.mono (by decide)) T.g__law_take T.kp__law_take T.b__law_take (L2N.takes_of rfl rfl rfl rfl) (fa_cons (f_var rfl 0) (fa_cons (f_var rfl 1) (fa_cons (f_int rfl) (fa_nil rfl)))) (na_cons (na_cons (na_cons na_nil))))))))))))
theorem sc__law_value : FnScope ["numbers", "spot", "value", "lists", "k", "change"] ["numbers", "spot"] (defScope s__law_value) := ⟨rfl, rfl, rfl, by decide +kernel, rfl, by decide +kernel, by decide +kernel⟩
theorem ok__law_value (T : Fx K mg fa fd ec fi di) : FnOk P w K mg base (L2N.CX P w) 5 (fa 12) (fd 12) ["numbers", "spot"] (spM (gg K ec) 2 m__law_value) := by
  refine fn_gc (fn_ok (g := gg K ec) T.F__law_value sc__law_value (fun cdv A outer s H E hr => ?_))
  exact (fs_cons (fs_if (ft_cmp (cr_eq rfl hr.units) (fe_call (ok__law_take T) (hr.mono (by decide)) T.g__law_take T.kp__law_take T.b__law_take (L2N.takes_of rfl rfl rfl rfl) (fa_cons (f_var rfl 0) (fa_cons (f_var rfl 1) (fa_cons (f_int rfl) (fa_nil rfl)))) (na_cons (na_cons (na_cons na_nil)))) (f_int rfl)) (fs_one (fs_ret (fe_ix (fe_lst (fa_cons (f_non rfl) (fa_cons (f_bl rfl) (fa_cons (f_int rfl) (fa_cons (f_str rfl) (fa_cons (f_str rfl) (fa_cons (f_int rfl) (fa_cons (f_neg (f_int rfl)) (fa_cons (f_str rfl) (fa_nil rfl)))))))))) (fe_call (ok__law_take T) (hr.mono (by decide)) T.g__law_take T.kp__law_take T.b__law_take (L2N.takes_of rfl rfl rfl rfl) (fa_cons (f_var rfl 0) (fa_cons (f_var rfl 1) (fa_cons (f_int rfl) (fa_nil rfl)))) (na_cons (na_cons (na_cons na_nil))))))) (fs_nil rfl))
 (fs_cons (fs_set (i := 2) sc__law_value.nd (fe_call (ok__law_inner T) (hr.mono (by decide)) T.g__law_inner T.kp__law_inner T.b__law_inner (L2N.takes_of rfl rfl rfl rfl) (fa_cons (f_var rfl 0) (fa_cons (f_var rfl 1) (fa_nil rfl))) (na_cons (na_cons na_nil))))
 (fs_cons (fs_set (i := 3) sc__law_value.nd (fe_call (ok__law_take T) (hr.mono (by decide)) T.g__law_take T.kp__law_take T.b__law_take (L2N.takes_of rfl rfl rfl rfl) (fa_cons (f_var rfl 0) (fa_cons (f_var rfl 1) (fa_cons (f_int rfl) (fa_nil rfl)))) (na_cons (na_cons (na_cons na_nil)))))
 (fs_cons (fs_if (ft_cmp cr_gt (f_var rfl 3) (f_int rfl)) (fs_one (fs_set (i := 3) sc__law_value.nd (f_int rfl))) (fs_nil rfl))
 (fs_cons (fs_for (passes_of rfl) rfl (fi_range1 T.z_range (fa_cons (f_var rfl 3) (fa_nil rfl))) (fg_name rfl sc__law_value.nd) (fs_one (fs_set (i := 2) sc__law_value.nd (fe_tup (fa_cons (f_str rfl) (fa_cons (f_var rfl 2) (fa_cons (fe_call (ok__law_near T) (hr.mono (by decide)) T.g__law_near T.kp__law_near T.b__law_near (L2N.takes_of rfl rfl rfl rfl) (fa_cons (f_var rfl 0) (fa_cons (f_var rfl 1) (fa_cons (f_int rfl) (fa_cons (f_int rfl) (fa_nil rfl))))) (na_cons (na_cons (na_cons (na_cons na_nil))))) (fa_nil rfl))))))))
 (fs_cons (fs_set (i := 5) sc__law_value.nd (fe_call (ok__law_take T) (hr.mono (by decide)) T.g__law_take T.kp__law_take T.b__law_take (L2N.takes_of rfl rfl rfl rfl) (fa_cons (f_var rfl 0) (fa_cons (f_var rfl 1) (fa_cons (f_int rfl) (fa_nil rfl)))) (na_cons (na_cons (na_cons na_nil)))))
 (fs_cons (fs_if (ft_w (fw_and (ft_cmp (cr_eq rfl hr.units) (f_var rfl 5) (f_int rfl)) (fw_and1 (ft_cmp cr_gt (fe_blt (br_len rfl) T.z_len (fa_cons (f_var rfl 2) (fa_nil rfl))) (f_int rfl))))) (fs_one (fs_ret (fe_sl (f_var rfl 2) fo_none (fo_some (f_neg (f_int rfl)))))) (fs_nil rfl))
 (fs_cons (fs_if (ft_cmp (cr_eq rfl hr.units) (f_var rfl 5) (f_int rfl)) (fs_one (fs_ret (f_add (f_var rfl 2) (fe_tup (fa_cons (fe_call (ok__law_take T) (hr.mono (by decide)) T.g__law_take T.kp__law_take T.b__law_take (L2N.takes_of rfl rfl rfl rfl) (fa_cons (f_var rfl 0) (fa_cons (f_var rfl 1) (fa_cons (f_int rfl) (fa_nil rfl)))) (na_cons (na_cons (na_cons na_nil)))) (fa_nil rfl)))))) (fs_nil rfl))
 (fs_cons (fs_if (ft_w (fw_and (ft_cmp (cr_eq rfl hr.units) (f_var rfl 5) (f_int rfl)) (fw_and1 (ft_cmp cr_gt (fe_blt (br_len rfl) T.z_len (fa_cons (f_var rfl 2) (fa_nil rfl))) (f_int rfl))))) (fs_one (fs_ret (f_add (fe_tup (fa_cons (fe_ix (fe_lst (fa_cons (f_str rfl) (fa_cons (f_str rfl) (fa_cons (f_str rfl) (fa_cons (f_str rfl) (fa_cons (f_str rfl) (fa_cons (f_str rfl) (fa_nil rfl)))))))) (fe_call (ok__law_take T) (hr.mono (by decide)) T.g__law_take T.kp__law_take T.b__law_take (L2N.takes_of rfl rfl rfl rfl) (fa_cons (f_var rfl 0) (fa_cons (f_var rfl 1) (fa_cons (f_int rfl) (fa_nil rfl)))) (na_cons (na_cons (na_cons na_nil))))) (fa_nil rfl))) (fe_sl (f_var rfl 2) (fo_some (f_int rfl)) fo_none)))) (fs_nil rfl))
 (fs_one (fs_ret (f_var rfl 2))))))))))))
theorem sc__law_is_number : FnScope ["value", "low", "high"] ["value", "low", "high"] (defScope s__law_is_number) := ⟨rfl, rfl, rfl, by decide +kernel, rfl, by decide +kernel, by decide +kernel⟩
theorem ok__law_is_number (T : Fx K mg fa fd ec fi di) : FnOk P w K mg base (L2N.CX P w) 1 (fa 13) (fd 13) ["value", "low", "high"] (spM (gg K ec) 3 m__law_is_number) := by
  refine fn_gc (fn_ok (g := gg K ec) T.F__law_is_number sc__law_is_number (fun cdv A outer s H E hr => ?_))
  exact (fs_cons (fs_if (ft_w (fw_or (ft_tru (fe_isi (T := "bool") T.z_isinstance T.z_bool (by decide +kernel) (f_var rfl 0))) (fw_or1 (ft_not (ft_tru (fe_isi (T := "int") T.z_isinstance T.z_int (by decide +kernel) (f_var rfl 0))))))) (fs_one (fs_ret (f_bl rfl))) (fs_nil rfl))
 (fs_one (fs_ret (fe_and (fe_cmp cr_le (f_var rfl 1) (f_var rfl 0)) (fe_one (fe_cmp cr_le (f_var rfl 0) (f_var rfl 2)))))))
theorem sc__law_is_shape : FnScope ["value", "k"] ["value"] (defScope s__law_is_shape) := ⟨rfl, rfl, rfl, by decide +kernel, rfl, by decide +kernel, by decide +kernel⟩
theorem ok__law_is_shape (T : Fx K mg fa fd ec fi di) : FnOk P w K mg base (L2N.CX P w) 2 (fa 14) (fd 14) ["value"] (spM (gg K ec) 1 m__law_is_shape) := by
  refine fn_gc (fn_ok (g := gg K ec) T.F__law_is_shape sc__law_is_shape (fun cdv A outer s H E hr => ?_))
  exact (fs_cons (fs_for (passes_of rfl) rfl (fi_range1 T.z_range (fa_cons (f_int rfl) (fa_nil rfl))) (fg_name rfl sc__law_is_shape.nd) (fs_cons (fs_if (ft_w (fw_or (ft_not (ft_tru (fe_isi (T := "tuple") T.z_isinstance T.z_tuple (by decide +kernel) (f_var rfl 0)))) (fw_or (ft_cmp (cr_eq rfl hr.units) (fe_blt (br_len rfl) T.z_len (fa_cons (f_var rfl 0) (fa_nil rfl))) (f_int rfl)) (fw_or1 (ft_not (ft_tru (fe_isi (T := "str") T.z_isinstance T.z_str (by decide +kernel) (fe_ix (f_var rfl 0) (f_int rfl))))))))) (fs_one (fs_ret (f_bl rfl))) (fs_nil rfl))
 (fs_one (fs_if (ft_cmp (cr_eq rfl hr.units) (fe_ix (f_var rfl 0) (f_int rfl)) (f_str rfl)) (fs_cons (fs_if (ft_w (fw_or (ft_cmp (cr_ne rfl hr.units) (fe_blt (br_len rfl) T.z_len (fa_cons (f_var rfl 0) (fa_nil rfl))) (f_int rfl)) (fw_or1 (ft_not (ft_tru (fe_call (ok__law_is_number T) (hr.mono (by decide)) T.g__law_is_number T.kp__law_is_number T.b__law_is_number (L2N.takes_of rfl rfl rfl rfl) (fa_cons (fe_ix (f_var rfl 0) (f_int rfl)) (fa_cons (f_int rfl) (fa_cons (f_int rfl) (fa_nil rfl)))) (na_cons (na_cons (na_cons na_nil))))))))) (fs_one (fs_ret (f_bl rfl))) (fs_nil rfl))
 (fs_one (fs_set (i := 0) sc__law_is_shape.nd (fe_ix (f_var rfl 0) (f_int rfl))))) (fs_one (fs_if (ft_cmp (cr_eq rfl hr.units) (fe_ix (f_var rfl 0) (f_int rfl)) (f_str rfl)) (fs_cons (fs_if (ft_w (fw_or (ft_cmp (cr_ne rfl hr.units) (fe_blt (br_len rfl) T.z_len (fa_cons (f_var rfl 0) (fa_nil rfl))) (f_int rfl)) (fw_or1 (ft_not (ft_tru (fe_call (ok__law_is_number T) (hr.mono (by decide)) T.g__law_is_number T.kp__law_is_number T.b__law_is_number (L2N.takes_of rfl rfl rfl rfl) (fa_cons (fe_ix (f_var rfl 0) (f_int rfl)) (fa_cons (f_neg (f_int rfl)) (fa_cons (f_int rfl) (fa_nil rfl)))) (na_cons (na_cons (na_cons na_nil))))))))) (fs_one (fs_ret (f_bl rfl))) (fs_nil rfl))
 (fs_one (fs_ret (fe_call (ok__law_is_number T) (hr.mono (by decide)) T.g__law_is_number T.kp__law_is_number T.b__law_is_number (L2N.takes_of rfl rfl rfl rfl) (fa_cons (fe_ix (f_var rfl 0) (f_int rfl)) (fa_cons (fe_ix (f_var rfl 0) (f_int rfl)) (fa_cons (f_int rfl) (fa_nil rfl)))) (na_cons (na_cons (na_cons na_nil))))))) (fs_one (fs_if (ft_cmp (cr_eq rfl hr.units) (fe_ix (f_var rfl 0) (f_int rfl)) (f_str rfl)) (fs_one (fs_ret (fe_and (fe_cmp (cr_eq rfl hr.units) (fe_blt (br_len rfl) T.z_len (fa_cons (f_var rfl 0) (fa_nil rfl))) (f_int rfl)) (fe_one (fe_call (ok__law_is_number T) (hr.mono (by decide)) T.g__law_is_number T.kp__law_is_number T.b__law_is_number (L2N.takes_of rfl rfl rfl rfl) (fa_cons (fe_ix (f_var rfl 0) (f_int rfl)) (fa_cons (f_int rfl) (fa_cons (f_int rfl) (fa_nil rfl)))) (na_cons (na_cons (na_cons na_nil)))))))) (fs_one (fs_if (ft_cmp (cr_eq rfl hr.units) (fe_ix (f_var rfl 0) (f_int rfl)) (f_str rfl)) (fs_one (fs_ret (fe_and (fe_cmp (cr_eq rfl hr.units) (fe_blt (br_len rfl) T.z_len (fa_cons (f_var rfl 0) (fa_nil rfl))) (f_int rfl)) (fe_one (fe_call (ok__law_is_number T) (hr.mono (by decide)) T.g__law_is_number T.kp__law_is_number T.b__law_is_number (L2N.takes_of rfl rfl rfl rfl) (fa_cons (fe_ix (f_var rfl 0) (f_int rfl)) (fa_cons (f_int rfl) (fa_cons (f_int rfl) (fa_nil rfl)))) (na_cons (na_cons (na_cons na_nil)))))))) (fs_one (fs_ret (fe_and (fe_cmp (cr_eq rfl hr.units) (fe_ix (f_var rfl 0) (f_int rfl)) (f_str rfl)) (fe_one (fe_cmp (cr_eq rfl hr.units) (fe_blt (br_len rfl) T.z_len (fa_cons (f_var rfl 0) (fa_nil rfl))) (f_int rfl))))))))))))))))
 (fs_one (fs_ret (f_bl rfl))))
theorem sc__law_same : FnScope ["one", "two", "k"] ["one", "two"] (defScope s__law_same) := ⟨rfl, rfl, rfl, by decide +kernel, rfl, by decide +kernel, by decide +kernel⟩
theorem ok__law_same (T : Fx K mg fa fd ec fi di) : ∀ n, FnOk P w K mg base (L2N.CX P w) (1 + n) (fa 15) (fd 15) ["one", "two"] (spM (gg K ec) 2 (m__law_same n))
  | 0 => fn_bad (g := gg K ec)
  | n + 1 => by
    have hF := ok__law_same T n
    refine fn_gc (fn_ok (g := gg K ec) T.F__law_same sc__law_same (fun cdv A outer s H E hr0 => ?_))
    have hr : Room 1 (A.deeper (PyProof.Rows.envOfC "_law_same" (defScope s__law_same) s.heap.objs.size (fa 15) cdv)) := hr0.mono (Nat.le_add_right _ _)
    exact (fs_cons (fs_if (ft_w (fw_or (ft_tru (fe_isi (T := "tuple") T.z_isinstance T.z_tuple (by decide +kernel) (f_var rfl 0))) (fw_or1 (ft_tru (fe_isi (T := "tuple") T.z_isinstance T.z_tuple (by decide +kernel) (f_var rfl 1)))))) (fs_cons (fs_if (ft_w (fw_or (ft_not (ft_tru (fe_isi (T := "tuple") T.z_isinstance T.z_tuple (by decide +kernel) (f_var rfl 0)))) (fw_or (ft_not (ft_tru (fe_isi (T := "tuple") T.z_isinstance T.z_tuple (by decide +kernel) (f_var rfl 1)))) (fw_or1 (ft_cmp (cr_ne rfl hr.units) (fe_blt (br_len rfl) T.z_len (fa_cons (f_var rfl 0) (fa_nil rfl))) (fe_blt (br_len rfl) T.z_len (fa_cons (f_var rfl 1) (fa_nil rfl)))))))) (fs_one (fs_ret (f_bl rfl))) (fs_nil rfl))
 (fs_cons (fs_for (passes_of rfl) rfl (fi_range1 T.z_range (fa_cons (fe_blt (br_len rfl) T.z_len (fa_cons (f_var rfl 0) (fa_nil rfl))) (fa_nil rfl))) (fg_name rfl sc__law_same.nd) (fs_one (fs_if (ft_not (ft_tru (fe_call hF hr0 T.g__law_same T.kp__law_same T.b__law_same (L2N.takes_of rfl rfl rfl rfl) (fa_cons (fe_ix (f_var rfl 0) (f_var rfl 2)) (fa_cons (fe_ix (f_var rfl 1) (f_var rfl 2)) (fa_nil rfl))) (na_cons (na_cons na_nil))))) (fs_one (fs_ret (f_bl rfl))) (fs_nil rfl))))
 (fs_one (fs_ret (f_bl rfl))))) (fs_nil rfl))
 (fs_cons (fs_if (ft_w (fw_or (ft_cmp (cr_ne rfl hr.units) (fe_isi (T := "bool") T.z_isinstance T.z_bool (by decide +kernel) (f_var rfl 0)) (fe_isi (T := "bool") T.z_isinstance T.z_bool (by decide +kernel) (f_var rfl 1))) (fw_or1 (ft_cmp (cr_ne rfl hr.units) (fe_isi (T := "str") T.z_isinstance T.z_str (by decide +kernel) (f_var rfl 0)) (fe_isi (T := "str") T.z_isinstance T.z_str (by decide +kernel) (f_var rfl 1)))))) (fs_one (fs_ret (f_bl rfl))) (fs_nil rfl))
 (fs_one (fs_ret (fe_cmp (cr_eq rfl hr.units) (f_var rfl 0) (f_var rfl 1))))))
theorem oh__law_same (T : Fx K mg fa fd ec fi di) : ∀ n, L2H.FnH P w K mg base (L2N.CX P w) (1 + n) (fa 15) (fd 15) ["one", "two"] (spM (gg K ec) 2 (m__law_same n))
  | 0 => fn_badH (g := gg K ec)
  | n + 1 => by
    have hF := oh__law_same T n
    refine fn_gcH (fn_okH (g := gg K ec) T.F__law_same sc__law_same (fun cdv A outer s H E p hr0 hc => ?_))
    have hr : L2H.RoomH 1 (A.deeper (PyProof.Rows.envOfC "_law_same" (defScope s__law_same) s.heap.objs.size (fa 15) cdv)) := hr0.mono (Nat.le_add_right _ _)
    exact (fs_cons (fs_if (ft_w (fw_or (ft_tru (fe_isi (T := "tuple") T.z_isinstance T.z_tuple (by decide +kernel) (f_var rfl 0))) (fw_or1 (ft_tru (fe_isi (T := "tuple") T.z_isinstance T.z_tuple (by decide +kernel) (f_var rfl 1)))))) (fs_cons (fs_if (ft_w (fw_or (ft_not (ft_tru (fe_isi (T := "tuple") T.z_isinstance T.z_tuple (by decide +kernel) (f_var rfl 0)))) (fw_or (ft_not (ft_tru (fe_isi (T := "tuple") T.z_isinstance T.z_tuple (by decide +kernel) (f_var rfl 1)))) (fw_or1 (ft_cmp (cr_ne rfl (unitsH hr)) (fe_blt (br_len rfl) T.z_len (fa_cons (f_var rfl 0) (fa_nil rfl))) (fe_blt (br_len rfl) T.z_len (fa_cons (f_var rfl 1) (fa_nil rfl)))))))) (fs_one (fs_ret (f_bl rfl))) (fs_nil rfl))
 (fs_cons (fs_forH (passes_of rfl) hc (fi_range1H T.z_range (fa_cons (fe_blt (br_len rfl) T.z_len (fa_cons (f_var rfl 0) (fa_nil rfl))) (fa_nil rfl))) (fg_name rfl sc__law_same.nd) (fs_one (fs_if (ft_not (ft_tru (fe_callH hF hr0 hc T.g__law_same T.kp__law_same T.b__law_same (L2N.takes_of rfl rfl rfl rfl) (fa_cons (fe_ix (f_var rfl 0) (f_var rfl 2)) (fa_cons (fe_ix (f_var rfl 1) (f_var rfl 2)) (fa_nil rfl))) (na_cons (na_cons na_nil))))) (fs_one (fs_ret (f_bl rfl))) (fs_nil rfl))))
 (fs_one (fs_ret (f_bl rfl))))) (fs_nil rfl))
 (fs_cons (fs_if (ft_w (fw_or (ft_cmp (cr_ne rfl (unitsH hr)) (fe_isi (T := "bool") T.z_isinstance T.z_bool (by decide +kernel) (f_var rfl 0)) (fe_isi (T := "bool") T.z_isinstance T.z_bool (by decide +kernel) (f_var rfl 1))) (fw_or1 (ft_cmp (cr_ne rfl (unitsH hr)) (fe_isi (T := "str") T.z_isinstance T.z_str (by decide +kernel) (f_var rfl 0)) (fe_isi (T := "str") T.z_isinstance T.z_str (by decide +kernel) (f_var rfl 1)))))) (fs_one (fs_ret (f_bl rfl))) (fs_nil rfl))
 (fs_one (fs_ret (fe_cmp (cr_eq rfl (unitsH hr)) (f_var rfl 0) (f_var rfl 1))))))
theorem sc__law_refs : FnScope ["value", "k"] ["value"] (defScope s__law_refs) := ⟨rfl, rfl, rfl, by decide +kernel, rfl, by decide +kernel, by decide +kernel⟩
theorem ok__law_refs (T : Fx K mg fa fd ec fi di) : FnOk P w K mg base (L2N.CX P w) 1 (fa 16) (fd 16) ["value"] (spM (gg K ec) 1 m__law_refs) := by
  refine fn_gc (fn_ok (g := gg K ec) T.F__law_refs sc__law_refs (fun cdv A outer s H E hr => ?_))
  exact (fs_cons (fs_for (passes_of rfl) rfl (fi_range1 T.z_range (fa_cons (f_int rfl) (fa_nil rfl))) (fg_name rfl sc__law_refs.nd) (fs_cons (fs_if (ft_cmp (cr_ne rfl hr.units) (fe_ix (f_var rfl 0) (f_int rfl)) (f_str rfl)) (fs_one (fs_break rfl)) (fs_nil rfl))
 (fs_one (fs_set (i := 0) sc__law_refs.nd (fe_ix (f_var rfl 0) (f_int rfl))))))
 (fs_cons (fs_if (ft_cmp (cr_eq rfl hr.units) (fe_ix (f_var rfl 0) (f_int rfl)) (f_str rfl)) (fs_one (fs_ret (fe_tup (fa_cons (fe_ix (f_var rfl 0) (f_int rfl)) (fa_nil rfl))))) (fs_nil rfl))
 (fs_one (fs_ret (fe_tup (fa_nil rfl))))))
theorem sc__law_right : FnScope ["value", "valid", "raised", "answer", "e", "refs"] ["value"] (defScope s__law_right) := ⟨rfl, rfl, rfl, by decide +kernel, rfl, by decide +kernel, by decide +kernel⟩
theorem ok__law_right (T : Fx K mg fa fd ec fi di) : FnOk P w K mg base (L2N.CX P w) 10 (fa 17) (fd 17) ["value"] (spM (gg K ec) 1 m__law_right) := by
  refine fn_gc (fn_ok (g := gg K ec) T.F__law_right sc__law_right (fun cdv A outer s H E hr => ?_))
  exact (fs_cons (fs_set (i := 1) sc__law_right.nd (fe_call (ok__law_is_shape T) (hr.mono (by decide)) T.g__law_is_shape T.kp__law_is_shape T.b__law_is_shape (L2N.takes_of rfl rfl rfl rfl) (fa_cons (f_var rfl 0) (fa_nil rfl)) (na_cons na_nil)))
 (fs_cons (fs_set (i := 2) sc__law_right.nd (f_bl rfl))
 (fs_cons (fs_set (i := 3) sc__law_right.nd (f_int rfl))
 (fs_cons (fs_try (i := 4) (sub := sub_BadShape) rfl rfl rfl sc__law_right.nd ⟨rfl, by decide, .inl T.gc_BadShape⟩ (L2N.takes_of rfl rfl rfl rfl) (hsub_BadShape T) (fun W' pn xe tk' po' => (fs_one (fs_set (i := 3) sc__law_right.nd (fe_call (ok_check_shape T) (hr.mono (by decide)) T.g_check_shape T.kp_check_shape T.b_check_shape tk' (fa_cons (f_var rfl 0) (fa_nil rfl)) (na_cons na_nil))))) (fun a oe cls d pn hz hf => (fs_cons (fs_set (i := 2) sc__law_right.nd (fe_and (fe_excIs (n := 2) (i := 4) rfl T.ek_BadShape hz.zc hf T.z_isinstance (pe_glob rfl T.gc_TrunkError (v := .ref (ec 0)) rfl (by decide)) (fun _ h => h) T.kit_BadShape_TrunkError) (fe_one (fe_excIs (n := 2) (i := 4) rfl T.ek_BadShape hz.zc hf T.z_isinstance (pe_bltn rfl T.z_ValueError (v := .ty "ValueError") (u := .type "ValueError") (by decide +kernel) rfl (by decide) (by decide)) (fun _ h => h) T.kit_BadShape_ValueError))))
 (fs_one (fs_if (ft_w (fw_or (ft_tru (fe_excIs (n := 2) (i := 4) rfl T.ek_BadShape hz.zc hf T.z_isinstance (pe_glob rfl T.gc_BadNumber (v := .ref (ec 1)) rfl (by decide)) (fun _ h => h) T.kit_BadShape_BadNumber)) (fw_or (ft_tru (fe_excIs (n := 2) (i := 4) rfl T.ek_BadShape hz.zc hf T.z_isinstance (pe_glob rfl T.gc_BadMode (v := .ref (ec 3)) rfl (by decide)) (fun _ h => h) T.kit_BadShape_BadMode)) (fw_or1 (ft_not (ft_tru (fe_callH (oh__law_same T 8) (roomS hr (by decide) rfl rfl) (hot_suite hz hf) T.g__law_same T.kp__law_same T.b__law_same takesN0 (fa_cons (fe_excF (n := 2) (i := 4) (fn := ["shape"]) rfl T.xf_BadShape T.na_BadShape_shape hz.zc hf rfl) (fa_cons (f_var rfl 0) (fa_nil rfl))) (na_cons (na_cons na_nil))))))))) (fs_one (fs_ret (f_bl rfl))) (fs_nil rfl))))))
 (fs_cons (fs_if (ft_not (ft_tru (f_var rfl 1))) (fs_one (fs_ret (f_var rfl 2))) (fs_nil rfl))
 (fs_cons (fs_if (ft_w (fw_or (ft_tru (f_var rfl 2)) (fw_or1 (ft_cmp cr_notN (f_var rfl 3) (f_non rfl))))) (fs_one (fs_ret (f_bl rfl))) (fs_nil rfl))
 (fs_cons (fs_set (i := 5) sc__law_right.nd (fe_call (ok_shape_refs T) (hr.mono (by decide)) T.g_shape_refs T.kp_shape_refs T.b_shape_refs (L2N.takes_of rfl rfl rfl rfl) (fa_cons (f_var rfl 0) (fa_nil rfl)) (na_cons na_nil)))
 (fs_one (fs_ret (fe_and (fe_isi (T := "tuple") T.z_isinstance T.z_tuple (by decide +kernel) (f_var rfl 5)) (fe_one (fe_call (ok__law_same T 8) (hr.mono (by decide)) T.g__law_same T.kp__law_same T.b__law_same (L2N.takes_of rfl rfl rfl rfl) (fa_cons (f_var rfl 5) (fa_cons (fe_call (ok__law_refs T) (hr.mono (by decide)) T.g__law_refs T.kp__law_refs T.b__law_refs (L2N.takes_of rfl rfl rfl rfl) (fa_cons (f_var rfl 0) (fa_nil rfl)) (na_cons na_nil)) (fa_nil rfl))) (na_cons (na_cons na_nil))))))))))))))
theorem sc_law : FnScope ["script", "numbers", "spot", "k", "lists"] ["script"] (defScope s_law) := ⟨rfl, rfl, rfl, by decide +kernel, rfl, by decide +kernel, by decide +kernel⟩
theorem ok_law (T : Fx K mg fa fd ec fi di) : FnOk P w K mg base (L2N.CX P w) 11 (fa 18) (fd 18) ["script"] (spM (gg K ec) 1 m_law) := by
  refine fn_gc (fn_ok (g := gg K ec) T.F_law sc_law (fun cdv A outer s H E hr => ?_))
  exact (fs_cons (fs_set (i := 1) sc_law.nd (fe_call (ok__law_numbers T) (hr.mono (by decide)) T.g__law_numbers T.kp__law_numbers T.b__law_numbers (L2N.takes_of rfl rfl rfl rfl) (fa_cons (f_var rfl 0) (fa_nil rfl)) (na_cons na_nil)))
 (fs_cons (fs_set (i := 2) sc_law.nd (fe_lst (fa_cons (f_int rfl) (fa_nil rfl))))
 (fs_cons (fs_for (passes_of rfl) rfl (fi_range1 T.z_range (fa_cons (f_int rfl) (fa_nil rfl))) (fg_name rfl sc_law.nd) (fs_one (fs_if (ft_not (ft_tru (fe_call (ok__law_right T) (hr.mono (by decide)) T.g__law_right T.kp__law_right T.b__law_right (L2N.takes_of rfl rfl rfl rfl) (fa_cons (fe_call (ok__law_value T) (hr.mono (by decide)) T.g__law_value T.kp__law_value T.b__law_value (L2N.takes_of rfl rfl rfl rfl) (fa_cons (f_var rfl 1) (fa_cons (f_var rfl 2) (fa_nil rfl))) (na_cons (na_cons na_nil))) (fa_nil rfl)) (na_cons na_nil)))) (fs_one (fs_ret (f_bl rfl))) (fs_nil rfl))))
 (fs_cons (fs_set (i := 4) sc_law.nd (fe_tup (fa_cons (f_str rfl) (fa_cons (fe_tup (fa_cons (f_str rfl) (fa_cons (fe_tup (fa_cons (f_str rfl) (fa_cons (f_int rfl) (fa_nil rfl)))) (fa_cons (f_int rfl) (fa_nil rfl))))) (fa_cons (f_int rfl) (fa_nil rfl))))))
 (fs_one (fs_ret (fe_and (fe_call (ok__law_right T) (hr.mono (by decide)) T.g__law_right T.kp__law_right T.b__law_right (L2N.takes_of rfl rfl rfl rfl) (fa_cons (f_var rfl 4) (fa_nil rfl)) (na_cons na_nil)) (fe_one (fe_call (ok__law_right T) (hr.mono (by decide)) T.g__law_right T.kp__law_right T.b__law_right (L2N.takes_of rfl rfl rfl rfl) (fa_cons (fe_tup (fa_cons (f_str rfl) (fa_cons (f_var rfl 4) (fa_cons (f_int rfl) (fa_nil rfl))))) (fa_nil rfl)) (na_cons na_nil))))))))))
end
def fdZ : FuncData := PySem.W.fnOf "" "" (defArgs s_law) (defBody s_law) (defScope s_law) .none .none .none .none none .none .none
theorem all_mk {P : Program} {w : World} {K : PySem.W.Frag} {h : Heap} {mg : Str → Option Value} {fl : Addr} (X : K.In h) (G : h.Ns mainGlobals mg) (hfa : mg "law" = some (.ref fl))
  {f0 : Addr} {od0 an0 : Option Addr} {sl0 : Array (Option Value)} {oc0 kV0 dc0 pm0 cd0 ct0 : Value}
  {f1 : Addr} {od1 an1 : Option Addr} {sl1 : Array (Option Value)} {oc1 kV1 dc1 pm1 cd1 ct1 : Value}
  {f2 : Addr} {od2 an2 : Option Addr} {sl2 : Array (Option Value)} {oc2 kV2 dc2 pm2 cd2 ct2 : Value}
  {f3 : Addr} {od3 an3 : Option Addr} {sl3 : Array (Option Value)} {oc3 kV3 dc3 pm3 cd3 ct3 : Value}
  {f4 : Addr} {od4 an4 : Option Addr} {sl4 : Array (Option Value)} {oc4 kV4 dc4 pm4 cd4 ct4 : Value}
  {f5 : Addr} {od5 an5 : Option Addr} {sl5 : Array (Option Value)} {oc5 kV5 dc5 pm5 cd5 ct5 : Value}
  {f6 : Addr} {od6 an6 : Option Addr} {sl6 : Array (Option Value)} {oc6 kV6 dc6 pm6 cd6 ct6 : Value}
  {f7 : Addr} {od7 an7 : Option Addr} {sl7 : Array (Option Value)} {oc7 kV7 dc7 pm7 cd7 ct7 : Value}
  {f8 : Addr} {od8 an8 : Option Addr} {sl8 : Array (Option Value)} {oc8 kV8 dc8 pm8 cd8 ct8 : Value}
  {f9 : Addr} {od9 an9 : Option Addr} {sl9 : Array (Option Value)} {oc9 kV9 dc9 pm9 cd9 ct9 : Value}
  {f10 : Addr} {od10 an10 : Option Addr} {sl10 : Array (Option Value)} {oc10 kV10 dc10 pm10 cd10 ct10 : Value}
  {f11 : Addr} {od11 an11 : Option Addr} {sl11 : Array (Option Value)} {oc11 kV11 dc11 pm11 cd11 ct11 : Value}
  {f12 : Addr} {od12 an12 : Option Addr} {sl12 : Array (Option Value)} {oc12 kV12 dc12 pm12 cd12 ct12 : Value}
  {f13 : Addr} {od13 an13 : Option Addr} {sl13 : Array (Option Value)} {oc13 kV13 dc13 pm13 cd13 ct13 : Value}
  {f14 : Addr} {od14 an14 : Option Addr} {sl14 : Array (Option Value)} {oc14 kV14 dc14 pm14 cd14 ct14 : Value}
  {f15 : Addr} {od15 an15 : Option Addr} {sl15 : Array (Option Value)} {oc15 kV15 dc15 pm15 cd15 ct15 : Value}
  {f16 : Addr} {od16 an16 : Option Addr} {sl16 : Array (Option Value)} {oc16 kV16 dc16 pm16 cd16 ct16 : Value}
  {f17 : Addr} {od17 an17 : Option Addr} {sl17 : Array (Option Value)} {oc17 kV17 dc17 pm17 cd17 ct17 : Value}
  {f18 : Addr} {od18 an18 : Option Addr} {sl18 : Array (Option Value)} {oc18 kV18 dc18 pm18 cd18 ct18 : Value}
  {C0 : Addr}
  {C1 : Addr}
  {C2 : Addr}
  {N2 : Addr} {nm2 q2 : Str} {bs2 : List Value} {sn2 : List Str} {sub2 : List Value} {ab2 : Bool} {col2 : Option Bool} {dd2 : Option Addr} {m02 m12 m22 m32 m52 : Option Value}
  {bm2 : List Value}
  {fI2 : Addr} {odI2 anI2 : Option Addr} {slI2 : Array (Option Value)} {ocI2 kVI2 dcI2 pmI2 cdI2 ctI2 : Value}
  {C3 : Addr}
  {tc_MOST_INT : Tok}
  {tc_MOST_LENGTH : Tok}
  {tc_MOST_NUMBER : Tok}
  {tc_MOST_NESTING : Tok}
  (a0 : PySem.W.nsIn K mainGlobals "is_int" = some (some (.ref f0)))
  (l0 : K.lookup f0 = some ⟨oc0, od0, .func (PySem.W.fnOf "is_int" "is_int" (defArgs s_is_int) (defBody s_is_int) (defScope s_is_int) .none kV0 dc0 pm0 an0 cd0 ct0), sl0⟩)
  (c0 : PySem.W.codeIn K cd0 "is_int" = true)
  (k0 : PySem.W.keepIn K (.ref f0) = true)
  (a1 : PySem.W.nsIn K mainGlobals "is_int_in" = some (some (.ref f1)))
  (l1 : K.lookup f1 = some ⟨oc1, od1, .func (PySem.W.fnOf "is_int_in" "is_int_in" (defArgs s_is_int_in) (defBody s_is_int_in) (defScope s_is_int_in) .none kV1 dc1 pm1 an1 cd1 ct1), sl1⟩)
  (c1 : PySem.W.codeIn K cd1 "is_int_in" = true)
  (k1 : PySem.W.keepIn K (.ref f1) = true)
  (a2 : PySem.W.nsIn K mainGlobals "_is_simple" = some (some (.ref f2)))
  (l2 : K.lookup f2 = some ⟨oc2, od2, .func (PySem.W.fnOf "_is_simple" "_is_simple" (defArgs s__is_simple) (defBody s__is_simple) (defScope s__is_simple) .none kV2 dc2 pm2 an2 cd2 ct2), sl2⟩)
  (c2 : PySem.W.codeIn K cd2 "_is_simple" = true)
  (k2 : PySem.W.keepIn K (.ref f2) = true)
  (a3 : PySem.W.nsIn K mainGlobals "_is_list" = some (some (.ref f3)))
  (l3 : K.lookup f3 = some ⟨oc3, od3, .func (PySem.W.fnOf "_is_list" "_is_list" (defArgs s__is_list) (defBody s__is_list) (defScope s__is_list) .none kV3 dc3 pm3 an3 cd3 ct3), sl3⟩)
  (c3 : PySem.W.codeIn K cd3 "_is_list" = true)
  (k3 : PySem.W.keepIn K (.ref f3) = true)
  (a4 : PySem.W.nsIn K mainGlobals "is_shape" = some (some (.ref f4)))
  (l4 : K.lookup f4 = some ⟨oc4, od4, .func (PySem.W.fnOf "is_shape" "is_shape" (defArgs s_is_shape) (defBody s_is_shape) (defScope s_is_shape) .none kV4 dc4 pm4 an4 cd4 ct4), sl4⟩)
  (c4 : PySem.W.codeIn K cd4 "is_shape" = true)
  (k4 : PySem.W.keepIn K (.ref f4) = true)
  (a5 : PySem.W.nsIn K mainGlobals "check_shape" = some (some (.ref f5)))
  (l5 : K.lookup f5 = some ⟨oc5, od5, .func (PySem.W.fnOf "check_shape" "check_shape" (defArgs s_check_shape) (defBody s_check_shape) (defScope s_check_shape) .none kV5 dc5 pm5 an5 cd5 ct5), sl5⟩)
  (c5 : PySem.W.codeIn K cd5 "check_shape" = true)
  (k5 : PySem.W.keepIn K (.ref f5) = true)
  (a6 : PySem.W.nsIn K mainGlobals "shape_refs" = some (some (.ref f6)))
  (l6 : K.lookup f6 = some ⟨oc6, od6, .func (PySem.W.fnOf "shape_refs" "shape_refs" (defArgs s_shape_refs) (defBody s_shape_refs) (defScope s_shape_refs) .none kV6 dc6 pm6 an6 cd6 ct6), sl6⟩)
  (c6 : PySem.W.codeIn K cd6 "shape_refs" = true)
  (k6 : PySem.W.keepIn K (.ref f6) = true)
  (a7 : PySem.W.nsIn K mainGlobals "_law_numbers" = some (some (.ref f7)))
  (l7 : K.lookup f7 = some ⟨oc7, od7, .func (PySem.W.fnOf "_law_numbers" "_law_numbers" (defArgs s__law_numbers) (defBody s__law_numbers) (defScope s__law_numbers) .none kV7 dc7 pm7 an7 cd7 ct7), sl7⟩)
  (c7 : PySem.W.codeIn K cd7 "_law_numbers" = true)
  (k7 : PySem.W.keepIn K (.ref f7) = true)
  (a8 : PySem.W.nsIn K mainGlobals "_law_take" = some (some (.ref f8)))
  (l8 : K.lookup f8 = some ⟨oc8, od8, .func (PySem.W.fnOf "_law_take" "_law_take" (defArgs s__law_take) (defBody s__law_take) (defScope s__law_take) .none kV8 dc8 pm8 an8 cd8 ct8), sl8⟩)
  (c8 : PySem.W.codeIn K cd8 "_law_take" = true)
  (k8 : PySem.W.keepIn K (.ref f8) = true)
  (a9 : PySem.W.nsIn K mainGlobals "_law_great" = some (some (.ref f9)))
  (l9 : K.lookup f9 = some ⟨oc9, od9, .func (PySem.W.fnOf "_law_great" "_law_great" (defArgs s__law_great) (defBody s__law_great) (defScope s__law_great) .none kV9 dc9 pm9 an9 cd9 ct9), sl9⟩)
  (c9 : PySem.W.codeIn K cd9 "_law_great" = true)
  (k9 : PySem.W.keepIn K (.ref f9) = true)
  (a10 : PySem.W.nsIn K mainGlobals "_law_near" = some (some (.ref f10)))
  (l10 : K.lookup f10 = some ⟨oc10, od10, .func (PySem.W.fnOf "_law_near" "_law_near" (defArgs s__law_near) (defBody s__law_near) (defScope s__law_near) .none kV10 dc10 pm10 an10 cd10 ct10), sl10⟩)
  (c10 : PySem.W.codeIn K cd10 "_law_near" = true)
  (k10 : PySem.W.keepIn K (.ref f10) = true)
  (a11 : PySem.W.nsIn K mainGlobals "_law_inner" = some (some (.ref f11)))
  (l11 : K.lookup f11 = some ⟨oc11, od11, .func (PySem.W.fnOf "_law_inner" "_law_inner" (defArgs s__law_inner) (defBody s__law_inner) (defScope s__law_inner) .none kV11 dc11 pm11 an11 cd11 ct11), sl11⟩)
  (c11 : PySem.W.codeIn K cd11 "_law_inner" = true)
  (k11 : PySem.W.keepIn K (.ref f11) = true)
  (a12 : PySem.W.nsIn K mainGlobals "_law_value" = some (some (.ref f12)))
  (l12 : K.lookup f12 = some ⟨oc12, od12, .func (PySem.W.fnOf "_law_value" "_law_value" (defArgs s__law_value) (defBody s__law_value) (defScope s__law_value) .none kV12 dc12 pm12 an12 cd12 ct12), sl12⟩)
  (c12 : PySem.W.codeIn K cd12 "_law_value" = true)
  (k12 : PySem.W.keepIn K (.ref f12) = true)
  (a13 : PySem.W.nsIn K mainGlobals "_law_is_number" = some (some (.ref f13)))
  (l13 : K.lookup f13 = some ⟨oc13, od13, .func (PySem.W.fnOf "_law_is_number" "_law_is_number" (defArgs s__law_is_number) (defBody s__law_is_number) (defScope s__law_is_number) .none kV13 dc13 pm13 an13 cd13 ct13), sl13⟩)
  (c13 : PySem.W.codeIn K cd13 "_law_is_number" = true)
  (k13 : PySem.W.keepIn K (.ref f13) = true)
  (a14 : PySem.W.nsIn K mainGlobals "_law_is_shape" = some (some (.ref f14)))
  (l14 : K.lookup f14 = some ⟨oc14, od14, .func (PySem.W.fnOf "_law_is_shape" "_law_is_shape" (defArgs s__law_is_shape) (defBody s__law_is_shape) (defScope s__law_is_shape) .none kV14 dc14 pm14 an14 cd14 ct14), sl14⟩)
  (c14 : PySem.W.codeIn K cd14 "_law_is_shape" = true)
  (k14 : PySem.W.keepIn K (.ref f14) = true)
  (a15 : PySem.W.nsIn K mainGlobals "_law_same" = some (some (.ref f15)))
  (l15 : K.lookup f15 = some ⟨oc15, od15, .func (PySem.W.fnOf "_law_same" "_law_same" (defArgs s__law_same) (defBody s__law_same) (defScope s__law_same) .none kV15 dc15 pm15 an15 cd15 ct15), sl15⟩)
  (c15 : PySem.W.codeIn K cd15 "_law_same" = true)
  (k15 : PySem.W.keepIn K (.ref f15) = true)
  (a16 : PySem.W.nsIn K mainGlobals "_law_refs" = some (some (.ref f16)))
  (l16 : K.lookup f16 = some ⟨oc16, od16, .func (PySem.W.fnOf "_law_refs" "_law_refs" (defArgs s__law_refs) (defBody s__law_refs) (defScope s__law_refs) .none kV16 dc16 pm16 an16 cd16 ct16), sl16⟩)
  (c16 : PySem.W.codeIn K cd16 "_law_refs" = true)
  (k16 : PySem.W.keepIn K (.ref f16) = true)
  (a17 : PySem.W.nsIn K mainGlobals "_law_right" = some (some (.ref f17)))
  (l17 : K.lookup f17 = some ⟨oc17, od17, .func (PySem.W.fnOf "_law_right" "_law_right" (defArgs s__law_right) (defBody s__law_right) (defScope s__law_right) .none kV17 dc17 pm17 an17 cd17 ct17), sl17⟩)
  (c17 : PySem.W.codeIn K cd17 "_law_right" = true)
  (k17 : PySem.W.keepIn K (.ref f17) = true)
  (a18 : PySem.W.nsIn K mainGlobals "law" = some (some (.ref f18)))
  (l18 : K.lookup f18 = some ⟨oc18, od18, .func (PySem.W.fnOf "law" "law" (defArgs s_law) (defBody s_law) (defScope s_law) .none kV18 dc18 pm18 an18 cd18 ct18), sl18⟩)
  (c18 : PySem.W.codeIn K cd18 "law" = true)
  (k18 : PySem.W.keepIn K (.ref f18) = true)
  (aC0 : PySem.W.nsIn K mainGlobals "TrunkError" = some (some (.ref C0)))
  (sa0 : PySem.W.findIn K (.ref C0) "__setattr__" = some (some (.builtin "object.__setattr__")))
  (ga0 : PySem.W.findIn K (.ref C0) "__getattribute__" = some (some (.builtin "BaseException.__getattribute__")))
  (gt0 : PySem.W.findIn K (.ref C0) "__getattr__" = some none)
  (eC0 : PySem.W.subIn K (.ref C0) (.type "BaseException") = some true)
  (tC0 : PySem.W.typeIn K (.ref C0) = some (.type "type"))
  (kC0 : PySem.W.keepIn K (.ref C0) = true)
  (hC0 : PySem.W.hasDictIn K C0 = true)
  (iC0 : PySem.W.isClsIn K C0 = true)
  (cC0 : PySem.W.findIn K (.ref C0) "__class__" = some (some (.builtin "object.__class__")))
  (mC0 : PySem.W.mroIn K C0 (.type "object") = some true)
  (sC0 : PySem.W.subIn K (.ref C0) (.ref C0) = some true)
  (aC1 : PySem.W.nsIn K mainGlobals "BadNumber" = some (some (.ref C1)))
  (sa1 : PySem.W.findIn K (.ref C1) "__setattr__" = some (some (.builtin "object.__setattr__")))
  (ga1 : PySem.W.findIn K (.ref C1) "__getattribute__" = some (some (.builtin "BaseException.__getattribute__")))
  (gt1 : PySem.W.findIn K (.ref C1) "__getattr__" = some none)
  (eC1 : PySem.W.subIn K (.ref C1) (.type "BaseException") = some true)
  (tC1 : PySem.W.typeIn K (.ref C1) = some (.type "type"))
  (kC1 : PySem.W.keepIn K (.ref C1) = true)
  (hC1 : PySem.W.hasDictIn K C1 = true)
  (iC1 : PySem.W.isClsIn K C1 = true)
  (cC1 : PySem.W.findIn K (.ref C1) "__class__" = some (some (.builtin "object.__class__")))
  (mC1 : PySem.W.mroIn K C1 (.type "object") = some true)
  (sC1 : PySem.W.subIn K (.ref C1) (.ref C1) = some true)
  (aC2 : PySem.W.nsIn K mainGlobals "BadShape" = some (some (.ref C2)))
  (sa2 : PySem.W.findIn K (.ref C2) "__setattr__" = some (some (.builtin "object.__setattr__")))
  (ga2 : PySem.W.findIn K (.ref C2) "__getattribute__" = some (some (.builtin "BaseException.__getattribute__")))
  (gt2 : PySem.W.findIn K (.ref C2) "__getattr__" = some none)
  (eC2 : PySem.W.subIn K (.ref C2) (.type "BaseException") = some true)
  (tC2 : PySem.W.typeIn K (.ref C2) = some (.type "type"))
  (kC2 : PySem.W.keepIn K (.ref C2) = true)
  (hC2 : PySem.W.hasDictIn K C2 = true)
  (iC2 : PySem.W.isClsIn K C2 = true)
  (cC2 : PySem.W.findIn K (.ref C2) "__class__" = some (some (.builtin "object.__class__")))
  (mC2 : PySem.W.mroIn K C2 (.type "object") = some true)
  (sC2 : PySem.W.subIn K (.ref C2) (.ref C2) = some true)
  (x2 : K.lookup C2 = some (excClassObj nm2 q2 C2 N2 bs2 bm2 true sn2 sub2 ab2 col2 dd2 m02 m12 m22 m32 m52 "ValueError.__new__"))
  (rv2 : PySem.HandSPX.refsVE bm2 = true)
  (ai2 : PySem.W.findIn K (.ref C2) "__init__" = some (some (.ref fI2)))
  (ti2 : PySem.W.typeIn K (.ref fI2) = some (.type "function"))
  (li2 : K.lookup fI2 = some ⟨ocI2, odI2, .func (PySem.W.fnOf "__init__" "BadShape.__init__" (defArgs i_BadShape) (defBody i_BadShape) (defScope i_BadShape) .none kVI2 dcI2 pmI2 anI2 cdI2 ctI2), slI2⟩)
  (ci2 : PySem.W.codeIn K cdI2 "BadShape.__init__" = true)
  (ki2 : PySem.W.keepIn K (.ref fI2) = true)
  (aC3 : PySem.W.nsIn K mainGlobals "BadMode" = some (some (.ref C3)))
  (sa3 : PySem.W.findIn K (.ref C3) "__setattr__" = some (some (.builtin "object.__setattr__")))
  (ga3 : PySem.W.findIn K (.ref C3) "__getattribute__" = some (some (.builtin "BaseException.__getattribute__")))
  (gt3 : PySem.W.findIn K (.ref C3) "__getattr__" = some none)
  (eC3 : PySem.W.subIn K (.ref C3) (.type "BaseException") = some true)
  (tC3 : PySem.W.typeIn K (.ref C3) = some (.type "type"))
  (kC3 : PySem.W.keepIn K (.ref C3) = true)
  (hC3 : PySem.W.hasDictIn K C3 = true)
  (iC3 : PySem.W.isClsIn K C3 = true)
  (cC3 : PySem.W.findIn K (.ref C3) "__class__" = some (some (.builtin "object.__class__")))
  (mC3 : PySem.W.mroIn K C3 (.type "object") = some true)
  (sC3 : PySem.W.subIn K (.ref C3) (.ref C3) = some true)
  (sg : PySem.W.specialIn K (.builtin "object.__class__") "__get__" = some (some (.builtin "getset_descriptor.__get__")))
  (tkc : PySem.W.takesIn K (.builtin "object.__class__") = some true)
  (z_isinstance : PySem.W.nsIn K mainGlobals "isinstance" = some none)
  (z_int : PySem.W.nsIn K mainGlobals "int" = some none)
  (z_bool : PySem.W.nsIn K mainGlobals "bool" = some none)
  (z_tuple : PySem.W.nsIn K mainGlobals "tuple" = some none)
  (z_len : PySem.W.nsIn K mainGlobals "len" = some none)
  (c_MOST_INT : PySem.W.nsIn K mainGlobals "MOST_INT" = some (some (.int 1000000000 tc_MOST_INT)))
  (c_MOST_LENGTH : PySem.W.nsIn K mainGlobals "MOST_LENGTH" = some (some (.int 40 tc_MOST_LENGTH)))
  (c_MOST_NUMBER : PySem.W.nsIn K mainGlobals "MOST_NUMBER" = some (some (.int 60 tc_MOST_NUMBER)))
  (c_MOST_NESTING : PySem.W.nsIn K mainGlobals "MOST_NESTING" = some (some (.int 2 tc_MOST_NESTING)))
  (z_range : PySem.W.nsIn K mainGlobals "range" = some none)
  (na_BadShape_shape : PySem.W.findIn K (.ref C2) "shape" = some none)
  (z_min : PySem.W.nsIn K mainGlobals "min" = some none)
  (z_abs : PySem.W.nsIn K mainGlobals "abs" = some none)
  (z_str : PySem.W.nsIn K mainGlobals "str" = some none)
  (skit_BadShape_TrunkError : PySem.W.subIn K (.ref C2) (.ref C0) = some true)
  (skit_BadShape_ValueError : PySem.W.subIn K (.ref C2) (.type "ValueError") = some true)
  (z_ValueError : PySem.W.nsIn K mainGlobals "ValueError" = some none)
  (skit_BadShape_BadNumber : PySem.W.subIn K (.ref C2) (.ref C1) = some false)
  (skit_BadShape_BadMode : PySem.W.subIn K (.ref C2) (.ref C3) = some false)
  (sexm_TrunkError_BadShape : PySem.W.subIn K (.ref C0) (.ref C2) = some false)
  (sexm_BadNumber_BadShape : PySem.W.subIn K (.ref C1) (.ref C2) = some false)
  (sexm_BadShape_BadShape : PySem.W.subIn K (.ref C2) (.ref C2) = some true)
  (sexm_BadMode_BadShape : PySem.W.subIn K (.ref C3) (.ref C2) = some false) :
  ∃ fdl : FuncData, (∀ (s : Shared) (v : Value), BindsTo s fdl ⟨[v], []⟩ [("script", v)]) ∧ ∀ base : Heap, K.In base → base.Ns mainGlobals mg → FnOk P w K mg base (L2N.CX P w) 11 fl fdl ["script"] (spLaw K) := by
  have e := (PySem.W.mg_of X G a18).symm.trans hfa
  rw [← Value.ref.inj (Option.some.inj e)]
  have T : Fx K mg (fun n => ([f0, f1, f2, f3, f4, f5, f6, f7, f8, f9, f10, f11, f12, f13, f14, f15, f16, f17, f18] : List Addr).getD n 0) (fun n => ([PySem.W.fnOf "is_int" "is_int" (defArgs s_is_int) (defBody s_is_int) (defScope s_is_int) .none kV0 dc0 pm0 an0 cd0 ct0, PySem.W.fnOf "is_int_in" "is_int_in" (defArgs s_is_int_in) (defBody s_is_int_in) (defScope s_is_int_in) .none kV1 dc1 pm1 an1 cd1 ct1, PySem.W.fnOf "_is_simple" "_is_simple" (defArgs s__is_simple) (defBody s__is_simple) (defScope s__is_simple) .none kV2 dc2 pm2 an2 cd2 ct2, PySem.W.fnOf "_is_list" "_is_list" (defArgs s__is_list) (defBody s__is_list) (defScope s__is_list) .none kV3 dc3 pm3 an3 cd3 ct3, PySem.W.fnOf "is_shape" "is_shape" (defArgs s_is_shape) (defBody s_is_shape) (defScope s_is_shape) .none kV4 dc4 pm4 an4 cd4 ct4, PySem.W.fnOf "check_shape" "check_shape" (defArgs s_check_shape) (defBody s_check_shape) (defScope s_check_shape) .none kV5 dc5 pm5 an5 cd5 ct5, PySem.W.fnOf "shape_refs" "shape_refs" (defArgs s_shape_refs) (defBody s_shape_refs) (defScope s_shape_refs) .none kV6 dc6 pm6 an6 cd6 ct6, PySem.W.fnOf "_law_numbers" "_law_numbers" (defArgs s__law_numbers) (defBody s__law_numbers) (defScope s__law_numbers) .none kV7 dc7 pm7 an7 cd7 ct7, PySem.W.fnOf "_law_take" "_law_take" (defArgs s__law_take) (defBody s__law_take) (defScope s__law_take) .none kV8 dc8 pm8 an8 cd8 ct8, PySem.W.fnOf "_law_great" "_law_great" (defArgs s__law_great) (defBody s__law_great) (defScope s__law_great) .none kV9 dc9 pm9 an9 cd9 ct9, PySem.W.fnOf "_law_near" "_law_near" (defArgs s__law_near) (defBody s__law_near) (defScope s__law_near) .none kV10 dc10 pm10 an10 cd10 ct10, PySem.W.fnOf "_law_inner" "_law_inner" (defArgs s__law_inner) (defBody s__law_inner) (defScope s__law_inner) .none kV11 dc11 pm11 an11 cd11 ct11, PySem.W.fnOf "_law_value" "_law_value" (defArgs s__law_value) (defBody s__law_value) (defScope s__law_value) .none kV12 dc12 pm12 an12 cd12 ct12, PySem.W.fnOf "_law_is_number" "_law_is_number" (defArgs s__law_is_number) (defBody s__law_is_number) (defScope s__law_is_number) .none kV13 dc13 pm13 an13 cd13 ct13, PySem.W.fnOf "_law_is_shape" "_law_is_shape" (defArgs s__law_is_shape) (defBody s__law_is_shape) (defScope s__law_is_shape) .none kV14 dc14 pm14 an14 cd14 ct14, PySem.W.fnOf "_law_same" "_law_same" (defArgs s__law_same) (defBody s__law_same) (defScope s__law_same) .none kV15 dc15 pm15 an15 cd15 ct15, PySem.W.fnOf "_law_refs" "_law_refs" (defArgs s__law_refs) (defBody s__law_refs) (defScope s__law_refs) .none kV16 dc16 pm16 an16 cd16 ct16, PySem.W.fnOf "_law_right" "_law_right" (defArgs s__law_right) (defBody s__law_right) (defScope s__law_right) .none kV17 dc17 pm17 an17 cd17 ct17, PySem.W.fnOf "law" "law" (defArgs s_law) (defBody s_law) (defScope s_law) .none kV18 dc18 pm18 an18 cd18 ct18] : List FuncData).getD n fdZ) (fun n => ([C0, C1, C2, C3] : List Addr).getD n 0) (fun n => ([0, 0, fI2, 0] : List Addr).getD n 0) (fun n => ([fdZ, fdZ, PySem.W.fnOf "__init__" "BadShape.__init__" (defArgs i_BadShape) (defBody i_BadShape) (defScope i_BadShape) .none kVI2 dcI2 pmI2 anI2 cdI2 ctI2, fdZ] : List FuncData).getD n fdZ) :=
    { z_isinstance := PySem.W.mg_none_of X G z_isinstance
      z_int := PySem.W.mg_none_of X G z_int
      z_bool := PySem.W.mg_none_of X G z_bool
      F_is_int := fun_mk (st := s_is_int) l0 c0 k0
      kp_is_int := k0
      g_is_int := PySem.W.mg_of X G a0
      b_is_int := (fun_mk (st := s_is_int) l0 c0 k0).binds fun _ _ _ _ _ _ us hl => match us, hl with | [_], _ => rfl
      F_is_int_in := fun_mk (st := s_is_int_in) l1 c1 k1
      kp_is_int_in := k1
      g_is_int_in := PySem.W.mg_of X G a1
      b_is_int_in := (fun_mk (st := s_is_int_in) l1 c1 k1).binds fun _ _ _ _ _ _ us hl => match us, hl with | [_, _, _], _ => rfl
      z_tuple := PySem.W.mg_none_of X G z_tuple
      z_len := PySem.W.mg_none_of X G z_len
      c_MOST_INT := ⟨_, PySem.W.mg_of X G c_MOST_INT⟩
      c_MOST_LENGTH := ⟨_, PySem.W.mg_of X G c_MOST_LENGTH⟩
      c_MOST_NUMBER := ⟨_, PySem.W.mg_of X G c_MOST_NUMBER⟩
      F__is_simple := fun_mk (st := s__is_simple) l2 c2 k2
      kp__is_simple := k2
      g__is_simple := PySem.W.mg_of X G a2
      b__is_simple := (fun_mk (st := s__is_simple) l2 c2 k2).binds fun _ _ _ _ _ _ us hl => match us, hl with | [_], _ => rfl
      F__is_list := fun_mk (st := s__is_list) l3 c3 k3
      kp__is_list := k3
      g__is_list := PySem.W.mg_of X G a3
      b__is_list := (fun_mk (st := s__is_list) l3 c3 k3).binds fun _ _ _ _ _ _ us hl => match us, hl with | [_], _ => rfl
      c_MOST_NESTING := ⟨_, PySem.W.mg_of X G c_MOST_NESTING⟩
      z_range := PySem.W.mg_none_of X G z_range
      F_is_shape := fun_mk (st := s_is_shape) l4 c4 k4
      kp_is_shape := k4
      g_is_shape := PySem.W.mg_of X G a4
      b_is_shape := (fun_mk (st := s_is_shape) l4 c4 k4).binds fun _ _ _ _ _ _ us hl => match us, hl with | [_], _ => rfl
      ox_BadShape := ⟨⟨nm2, q2, N2, bs2, bm2, sn2, sub2, ab2, col2, dd2, m02, m12, m22, m32, m52, x2, rv2⟩, sa2, eC2, tC2, kC2⟩
      gc_BadShape := PySem.W.mg_of X G aC2
      na_BadShape_shape := na_BadShape_shape
      F_check_shape := fun_mk (st := s_check_shape) l5 c5 k5
      kp_check_shape := k5
      g_check_shape := PySem.W.mg_of X G a5
      b_check_shape := (fun_mk (st := s_check_shape) l5 c5 k5).binds fun _ _ _ _ _ _ us hl => match us, hl with | [_], _ => rfl
      F_shape_refs := fun_mk (st := s_shape_refs) l6 c6 k6
      kp_shape_refs := k6
      g_shape_refs := PySem.W.mg_of X G a6
      b_shape_refs := (fun_mk (st := s_shape_refs) l6 c6 k6).binds fun _ _ _ _ _ _ us hl => match us, hl with | [_], _ => rfl
      z_min := PySem.W.mg_none_of X G z_min
      z_abs := PySem.W.mg_none_of X G z_abs
      F__law_numbers := fun_mk (st := s__law_numbers) l7 c7 k7
      kp__law_numbers := k7
      g__law_numbers := PySem.W.mg_of X G a7
      b__law_numbers := (fun_mk (st := s__law_numbers) l7 c7 k7).binds fun _ _ _ _ _ _ us hl => match us, hl with | [_], _ => rfl
      F__law_take := fun_mk (st := s__law_take) l8 c8 k8
      kp__law_take := k8
      g__law_take := PySem.W.mg_of X G a8
      b__law_take := (fun_mk (st := s__law_take) l8 c8 k8).binds fun _ _ _ _ _ _ us hl => match us, hl with | [_, _, _], _ => rfl
      F__law_great := fun_mk (st := s__law_great) l9 c9 k9
      kp__law_great := k9
      g__law_great := PySem.W.mg_of X G a9
      b__law_great := (fun_mk (st := s__law_great) l9 c9 k9).binds fun _ _ _ _ _ _ us hl => match us, hl with | [_, _, _], _ => rfl
      F__law_near := fun_mk (st := s__law_near) l10 c10 k10
      kp__law_near := k10
      g__law_near := PySem.W.mg_of X G a10
      b__law_near := (fun_mk (st := s__law_near) l10 c10 k10).binds fun _ _ _ _ _ _ us hl => match us, hl with | [_, _, _, _], _ => rfl
      F__law_inner := fun_mk (st := s__law_inner) l11 c11 k11
      kp__law_inner := k11
      g__law_inner := PySem.W.mg_of X G a11
      b__law_inner := (fun_mk (st := s__law_inner) l11 c11 k11).binds fun _ _ _ _ _ _ us hl => match us, hl with | [_, _], _ => rfl
      F__law_value := fun_mk (st := s__law_value) l12 c12 k12
      kp__law_value := k12
      g__law_value := PySem.W.mg_of X G a12
      b__law_value := (fun_mk (st := s__law_value) l12 c12 k12).binds fun _ _ _ _ _ _ us hl => match us, hl with | [_, _], _ => rfl
      F__law_is_number := fun_mk (st := s__law_is_number) l13 c13 k13
      kp__law_is_number := k13
      g__law_is_number := PySem.W.mg_of X G a13
      b__law_is_number := (fun_mk (st := s__law_is_number) l13 c13 k13).binds fun _ _ _ _ _ _ us hl => match us, hl with | [_, _, _], _ => rfl
      z_str := PySem.W.mg_none_of X G z_str
      F__law_is_shape := fun_mk (st := s__law_is_shape) l14 c14 k14
      kp__law_is_shape := k14
      g__law_is_shape := PySem.W.mg_of X G a14
      b__law_is_shape := (fun_mk (st := s__law_is_shape) l14 c14 k14).binds fun _ _ _ _ _ _ us hl => match us, hl with | [_], _ => rfl
      F__law_same := fun_mk (st := s__law_same) l15 c15 k15
      kp__law_same := k15
      g__law_same := PySem.W.mg_of X G a15
      b__law_same := (fun_mk (st := s__law_same) l15 c15 k15).binds fun _ _ _ _ _ _ us hl => match us, hl with | [_, _], _ => rfl
      F__law_refs := fun_mk (st := s__law_refs) l16 c16 k16
      kp__law_refs := k16
      g__law_refs := PySem.W.mg_of X G a16
      b__law_refs := (fun_mk (st := s__law_refs) l16 c16 k16).binds fun _ _ _ _ _ _ us hl => match us, hl with | [_], _ => rfl
      ek_BadShape := ⟨iC2, ga2, gt2, eC2, cC2, sg, tkc, mC2⟩
      kit_BadShape_TrunkError := kit_ref iC0 tC0 skit_BadShape_TrunkError sC2
      gc_TrunkError := PySem.W.mg_of X G aC0
      kit_BadShape_ValueError := kit_type (by decide +kernel) skit_BadShape_ValueError
      z_ValueError := PySem.W.mg_none_of X G z_ValueError
      kit_BadShape_BadNumber := kit_ref iC1 tC1 skit_BadShape_BadNumber sC2
      gc_BadNumber := PySem.W.mg_of X G aC1
      kit_BadShape_BadMode := kit_ref iC3 tC3 skit_BadShape_BadMode sC2
      gc_BadMode := PySem.W.mg_of X G aC3
      xf_BadShape := ⟨ga2, gt2, eC2, hC2⟩
      exm_TrunkError_BadShape := exm_ref eC2 iC2 tC2 sexm_TrunkError_BadShape
      exm_BadNumber_BadShape := exm_ref eC2 iC2 tC2 sexm_BadNumber_BadShape
      exm_BadShape_BadShape := exm_ref eC2 iC2 tC2 sexm_BadShape_BadShape
      exm_BadMode_BadShape := exm_ref eC2 iC2 tC2 sexm_BadMode_BadShape
      F__law_right := fun_mk (st := s__law_right) l17 c17 k17
      kp__law_right := k17
      g__law_right := PySem.W.mg_of X G a17
      b__law_right := (fun_mk (st := s__law_right) l17 c17 k17).binds fun _ _ _ _ _ _ us hl => match us, hl with | [_], _ => rfl
      F_law := fun_mk (st := s_law) l18 c18 k18
      kp_law := k18
      g_law := PySem.W.mg_of X G a18
      b_law := (fun_mk (st := s_law) l18 c18 k18).binds fun _ _ _ _ _ _ us hl => match us, hl with | [_], _ => rfl
      Fi_BadShape := fun_mk (st := i_BadShape) li2 ci2 ki2
      ii_BadShape := ai2
      ti_BadShape := ti2
      bi_BadShape := (fun_mk (st := i_BadShape) li2 ci2 ki2).binds fun _ _ _ _ _ _ us hl => match us, hl with | [_, _], _ => rfl }
  exact ⟨_, fun s v => .of_eq rfl, fun base _ _ => law_fn (g := gg K _) rfl law_true (ok_law T)⟩
end K01
end

section
open PySem PySem.W PyProof.Rows
set_option maxRecDepth 100000 in
set_option maxHeartbeats 0 in
theorem PySem.Challenge.cw_trunkcall_k01_check_shape_holds : PySem.Challenge.rw_trunkcall_k01_check_shape.Holds := by
  w_on; o_law; k_head; (case hw => w_witness2)
  k_fill
  refine FL.walk_law (k := 11) (l := PySem.Challenge.rw_trunkcall_k01_check_shape) rfl rfl ⟨rfl, by decide, by decide⟩ (fun w h Y => PySem.W.kIn_of Y) ?F
  case F =>
    intro w mg fl h KX G hmg
    refine' K01.all_mk KX G hmg ?a0 ?l0 ?c0 ?k0 ?a1 ?l1 ?c1 ?k1 ?a2 ?l2 ?c2 ?k2 ?a3 ?l3 ?c3 ?k3 ?a4 ?l4 ?c4 ?k4 ?a5 ?l5 ?c5 ?k5 ?a6 ?l6 ?c6 ?k6 ?a7 ?l7 ?c7 ?k7 ?a8 ?l8 ?c8 ?k8 ?a9 ?l9 ?c9 ?k9 ?a10 ?l10 ?c10 ?k10 ?a11 ?l11 ?c11 ?k11 ?a12 ?l12 ?c12 ?k12 ?a13 ?l13 ?c13 ?k13 ?a14 ?l14 ?c14 ?k14 ?a15 ?l15 ?c15 ?k15 ?a16 ?l16 ?c16 ?k16 ?a17 ?l17 ?c17 ?k17 ?a18 ?l18 ?c18 ?k18 ?aC0 ?sa0 ?ga0 ?gt0 ?eC0 ?tC0 ?kC0 ?hC0 ?iC0 ?cC0 ?mC0 ?sC0 ?aC1 ?sa1 ?ga1 ?gt1 ?eC1 ?tC1 ?kC1 ?hC1 ?iC1 ?cC1 ?mC1 ?sC1 ?aC2 ?sa2 ?ga2 ?gt2 ?eC2 ?tC2 ?kC2 ?hC2 ?iC2 ?cC2 ?mC2 ?sC2 ?x2 ?rv2 ?ai2 ?ti2 ?li2 ?ci2 ?ki2 ?aC3 ?sa3 ?ga3 ?gt3 ?eC3 ?tC3 ?kC3 ?hC3 ?iC3 ?cC3 ?mC3 ?sC3 ?sg ?tkc ?z_isinstance ?z_int ?z_bool ?z_tuple ?z_len ?c_MOST_INT ?c_MOST_LENGTH ?c_MOST_NUMBER ?c_MOST_NESTING ?z_range ?na_BadShape_shape ?z_min ?z_abs ?z_str ?skit_BadShape_TrunkError ?skit_BadShape_ValueError ?z_ValueError ?skit_BadShape_BadNumber ?skit_BadShape_BadMode ?sexm_TrunkError_BadShape ?sexm_BadNumber_BadShape ?sexm_BadShape_BadShape ?sexm_BadMode_BadShape
    (case a0 => k_is)
    (case l0 => k_is)
    (case c0 => k_is)
    (case k0 => k_is)
    (case a1 => k_is)
    (case l1 => k_is)
    (case c1 => k_is)
    (case k1 => k_is)
    (case a2 => k_is)
    (case l2 => k_is)
    (case c2 => k_is)
    (case k2 => k_is)
    (case a3 => k_is)
    (case l3 => k_is)
    (case c3 => k_is)
    (case k3 => k_is)
    (case a4 => k_is)
    (case l4 => k_is)
    (case c4 => k_is)
    (case k4 => k_is)
    (case a5 => k_is)
    (case l5 => k_is)
    (case c5 => k_is)
    (case k5 => k_is)
    (case a6 => k_is)
    (case l6 => k_is)
    (case c6 => k_is)
    (case k6 => k_is)
    (case a7 => k_is)
    (case l7 => k_is)
    (case c7 => k_is)
    (case k7 => k_is)
    (case a8 => k_is)
    (case l8 => k_is)
    (case c8 => k_is)
    (case k8 => k_is)
    (case a9 => k_is)
    (case l9 => k_is)
    (case c9 => k_is)
    (case k9 => k_is)
    (case a10 => k_is)
    (case l10 => k_is)
    (case c10 => k_is)
    (case k10 => k_is)
    (case a11 => k_is)
    (case l11 => k_is)
    (case c11 => k_is)
    (case k11 => k_is)
    (case a12 => k_is)
    (case l12 => k_is)
    (case c12 => k_is)
    (case k12 => k_is)
    (case a13 => k_is)
    (case l13 => k_is)
    (case c13 => k_is)
    (case k13 => k_is)
    (case a14 => k_is)
    (case l14 => k_is)
    (case c14 => k_is)
    (case k14 => k_is)
    (case a15 => k_is)
    (case l15 => k_is)
    (case c15 => k_is)
    (case k15 => k_is)
    (case a16 => k_is)
    (case l16 => k_is)
    (case c16 => k_is)
    (case k16 => k_is)
    (case a17 => k_is)
    (case l17 => k_is)
    (case c17 => k_is)
    (case k17 => k_is)
    (case a18 => k_is)
    (case l18 => k_is)
    (case c18 => k_is)
    (case k18 => k_is)
    (case aC0 => k_is)
    (case sa0 => k_is)
    (case ga0 => k_is)
    (case gt0 => k_is)
    (case eC0 => k_is)
    (case tC0 => k_is)
    (case kC0 => k_is)
    (case hC0 => k_is)
    (case iC0 => k_is)
    (case cC0 => k_is)
    (case mC0 => k_is)
    (case sC0 => k_is)
    (case aC1 => k_is)
    (case sa1 => k_is)
    (case ga1 => k_is)
    (case gt1 => k_is)
    (case eC1 => k_is)
    (case tC1 => k_is)
    (case kC1 => k_is)
    (case hC1 => k_is)
    (case iC1 => k_is)
    (case cC1 => k_is)
    (case mC1 => k_is)
    (case sC1 => k_is)
    (case aC2 => k_is)
    (case sa2 => k_is)
    (case ga2 => k_is)
    (case gt2 => k_is)
    (case eC2 => k_is)
    (case tC2 => k_is)
    (case kC2 => k_is)
    (case hC2 => k_is)
    (case iC2 => k_is)
    (case cC2 => k_is)
    (case mC2 => k_is)
    (case sC2 => k_is)
    (case x2 => k_is)
    (case rv2 => decide +kernel)
    (case ai2 => k_is)
    (case ti2 => k_is)
    (case li2 => k_is)
    (case ci2 => k_is)
    (case ki2 => k_is)
    (case aC3 => k_is)
    (case sa3 => k_is)
    (case ga3 => k_is)
    (case gt3 => k_is)
    (case eC3 => k_is)
    (case tC3 => k_is)
    (case kC3 => k_is)
    (case hC3 => k_is)
    (case iC3 => k_is)
    (case cC3 => k_is)
    (case mC3 => k_is)
    (case sC3 => k_is)
    (case sg => k_is)
    (case tkc => k_is)
    (case z_isinstance => k_is)
    (case z_int => k_is)
    (case z_bool => k_is)
    (case z_tuple => k_is)
    (case z_len => k_is)
    (case c_MOST_INT => k_is)
    (case c_MOST_LENGTH => k_is)
    (case c_MOST_NUMBER => k_is)
    (case c_MOST_NESTING => k_is)
    (case z_range => k_is)
    (case na_BadShape_shape => k_is)
    (case z_min => k_is)
    (case z_abs => k_is)
    (case z_str => k_is)
    (case skit_BadShape_TrunkError => k_is)
    (case skit_BadShape_ValueError => k_is)
    (case z_ValueError => k_is)
    (case skit_BadShape_BadNumber => k_is)
    (case skit_BadShape_BadMode => k_is)
    (case sexm_TrunkError_BadShape => k_is)
    (case sexm_BadNumber_BadShape => k_is)
    (case sexm_BadShape_BadShape => k_is)
    (case sexm_BadMode_BadShape => k_is)
end
