import PyProof.Rows.All
import Wide.All
import OpenK.AllK
import Wide.FinOn
import HandS.ForMost
import PySem.Challenge.RW_coretower_k11_whole_spoiler_beats_all
import HandS.Conv
import KE.KDictKeyed
import KE.KDictWalk
import KE.KDictDisplayH
import HandS.Property
import HandS.Star
import HandS.IsInst
import HandS.Deep
import HandS.Style
import HandS.SortInts
import HandS.HeadHook4
import HandS.Walk
import KE.LtSeq
import HandS.SortRule
import HandS.NamedTupSort
import HandS.DictTup
import HandS.Small
import HandS.Codes
import HandS.More
import HandS.DictComp
import KE.KExcSuper
import HandS.ExcOwn
import HandS.WordsExc
import HandS.ExcField
import HandS.ExcIs
import HandS.ExcSuper
import HandS.ExcCtx
import HandS.HotCalls
import KE.KStateDown
import KE.KIsAll
import KE.KTryMore
import KE.KExcPX
import KE.KSuper
import HandS.Head0
import HandS.Head1
import HandS.Head2
import HandS.HeadEnd
import HandS.HeadHook1
import HandS.HeadHook2
set_option Elab.async false
set_option linter.all false
set_option maxRecDepth 100000
/-! The places of the defs in the text. Printed by gen_head.py. -/
namespace Ct
open PySem L2
def top (i : Nat) : Stmt := PySem.Challenge.pw_coretower_k11_whole_spoiler_beats_all.main.body.getD i (.Pass ⟨0, 0, 0, 0⟩)
abbrev s_is_name : Stmt := top 10
abbrev s_is_whole : Stmt := top 11
abbrev s_is_number : Stmt := top 12
abbrev s_replies_of : Stmt := top 15
abbrev s_led_from : Stmt := top 16
abbrev s_rounds_of : Stmt := top 17
abbrev s_sets_of : Stmt := top 18
abbrev s_union_of : Stmt := top 19
abbrev s_is_deed : Stmt := top 24
abbrev s_is_move : Stmt := top 25
abbrev s_cell_L : Stmt := top 28
abbrev s_draws_L : Stmt := top 29
abbrev s_menu_L : Stmt := top 30
abbrev s_free_L : Stmt := top 31
abbrev s_quiet_L : Stmt := top 32
abbrev s_replies_L : Stmt := top 33
abbrev s_same_L : Stmt := top 34
abbrev s_copy_L : Stmt := top 35
abbrev s_turned_L : Stmt := top 36
abbrev s_table_L : Stmt := top 37
abbrev s_union_L : Stmt := top 38
abbrev s_options_L : Stmt := top 39
abbrev s_picked_L : Stmt := top 40
abbrev s_cover_L : Stmt := top 41
abbrev s_lookers_L : Stmt := top 42
abbrev s_doubled_L : Stmt := top 43
abbrev s_added_L : Stmt := top 44
abbrev s_ladder_L : Stmt := top 45
abbrev s_branch_L : Stmt := top 46
abbrev s_world_L : Stmt := top 47
abbrev s_end_L : Stmt := top 49
abbrev s_refused_L : Stmt := top 50
abbrev s_kept_L : Stmt := top 51
abbrev s_turn_L : Stmt := top 52
abbrev s_played_L : Stmt := top 53
abbrev s_law : Stmt := top 54
abbrev s_Game_init : Stmt := inClass (top 20) 0
abbrev s_Game_word : Stmt := inClass (top 20) 1
abbrev s_Game_rounds : Stmt := inClass (top 20) 2
abbrev s_Game_spoiler : Stmt := inClass (top 20) 6
abbrev s_Spoiler_init : Stmt := inClass (top 21) 0
abbrev s_Spoiler_stand : Stmt := inClass (top 21) 1
abbrev s_Spoiler_stretch : Stmt := inClass (top 21) 2
abbrev s_Spoiler_won : Stmt := inClass (top 21) 3
abbrev s_Spoiler_call : Stmt := inClass (top 21) 4
abbrev s_Spoiler_own_begin : Stmt := inClass (top 21) 5
abbrev s_Spoiler_own_falling : Stmt := inClass (top 21) 6
abbrev s_Web_init : Stmt := inClass (top 26) 0
abbrev s_Web_len : Stmt := inClass (top 26) 1
abbrev s_Web_moves : Stmt := inClass (top 26) 3
abbrev s_Web_replies : Stmt := inClass (top 26) 4
abbrev s_Web_own_check : Stmt := inClass (top 26) 8
abbrev s_Web_own_quiet : Stmt := inClass (top 26) 10
abbrev s_BadReply_init : Stmt := inClass (top 7) 0
end Ct
set_option maxHeartbeats 2000000
/-! Dicts whose keys are tuples, nested and mixed, over the hand layer: one object of its own kind (HO.ext), told by the very object that stands there. -/
namespace Nd
open PySem PySem.Spec PyProof.Rows L2
abbrev NK := NestedKey
mutual
/-- the value v is the key k -/
inductive KeyAt (H : Hp) : V → NK → Prop
  | num (i : Int) : KeyAt H (.int i) (.num i)
  | text (x : Str) : KeyAt H (.str x) (.text x)
  | tup {a : Addr} {vs : List V} {ks : List NK} : H a = some (.tup vs) → KeyAll H vs ks → KeyAt H (.ref a) (.tup ks)
inductive KeyAll (H : Hp) : List V → List NK → Prop
  | nil : KeyAll H [] []
  | cons {v : V} {vs : List V} {k : NK} {ks : List NK} : KeyAt H v k → KeyAll H vs ks → KeyAll H (v :: vs) (k :: ks)
end
mutual
theorem KeyAt.is {P : Program} {w : World} {H : Hp} {h : Heap} (ok : HOk P w H h) : ∀ (k : NK) (v : V) (u : Value), KeyAt H v k → RelV v u → NestedIs h k u
  | .none, _, _, x, _ => nomatch x
  | .num i, _, _, x, r => by
    cases x
    obtain ⟨t, rfl⟩ := r
    exact .int i t
  | .text z, _, _, x, r => by
    cases x
    obtain ⟨t, rfl⟩ := r
    exact .text z t
  | .tup ks, _, _, x, r => by
    cases x with
    | tup ha hk =>
      cases r
      obtain ⟨_, its, rv, o, h1, h2, n, h3⟩ := ok _ _ ha
      exact .tup h1 h2 h3 (by simpa using KeyAll.is ok ks _ _ hk rv)
theorem KeyAll.is {P : Program} {w : World} {H : Hp} {h : Heap} (ok : HOk P w H h) : ∀ (ks : List NK) (vs : List V) (us : List Value), KeyAll H vs ks → Vals vs us → NestedAll h ks us
  | [], _, _, x, r => by
    cases x
    cases r
    exact .nil
  | k :: ks, _, _, x, r => by
    cases x with
    | cons a b =>
      cases r with
      | cons ra rb => exact .cons (KeyAt.is ok k _ _ a ra) (KeyAll.is ok ks _ _ b rb)
end
/-- all tuples stay -/
def Tups (H H' : Hp) : Prop := ∀ b xs, H b = some (.tup xs) → H' b = some (.tup xs)
theorem Tups.refl (H : Hp) : Tups H H := fun _ _ e => e
theorem Tups.trans {H H1 H2 : Hp} (a : Tups H H1) (b : Tups H1 H2) : Tups H H2 := fun c xs e => b c xs (a c xs e)
theorem Tups.same {H H' : Hp} (s : Same H H') : Tups H H' := fun b xs e => s b _ e
theorem Tups.upd {H : Hp} {a : Addr} {o : HO} (h : ∀ xs, H a ≠ some (.tup xs)) : Tups H (upd H a o) := fun b xs e => by
  have hne : b ≠ a := by
    intro q
    subst q
    exact h xs e
  rw [upd_ne hne]
  exact e
mutual
theorem KeyAt.mono {H H' : Hp} (t : Tups H H') : ∀ {k : NK} {v : V}, KeyAt H v k → KeyAt H' v k
  | .none, _, x => nomatch x
  | .num _, _, x => by cases x; exact .num _
  | .text _, _, x => by cases x; exact .text _
  | .tup _, _, x => by
    cases x with
    | tup ha hk => exact .tup (t _ _ ha) (KeyAll.mono t hk)
theorem KeyAll.mono {H H' : Hp} (t : Tups H H') : ∀ {ks : List NK} {vs : List V}, KeyAll H vs ks → KeyAll H' vs ks
  | [], _, x => by cases x; exact .nil
  | _ :: _, _, x => by
    cases x with
    | cons a b => exact .cons (KeyAt.mono t a) (KeyAll.mono t b)
end
/-- the object at a is o -/
def dob (a : Addr) (o : Obj) : HO := .ext fun h => h.get? a = some o
theorem dob_ok {P : Program} {w : World} {H : Hp} {h : Heap} {a : Addr} {o : Obj} (e : h.get? a = some o) : ObjOk P w H h a (dob a o) := ⟨e, ⟨o, e⟩, fun _ _ z k => k _ z⟩
theorem dob_get {P : Program} {w : World} {H : Hp} {h : Heap} {a : Addr} {o : Obj} (ok : HOk P w H h) (e : H a = some (dob a o)) : h.get? a = some o := (ok a _ e).1
/-- an entry: the key, where its tuple stands, the value -/
abbrev Ent := NK × Addr × Value
def entOf (w : World) (x : Ent) : DictEntry := ⟨x.1.hash w, .ref x.2.1, x.2.2⟩
/-- at a stands a dict with these keys and values, in the order of insertion; o is its object -/
structure NDat (w : World) (H : Hp) (a : Addr) (o : Obj) (kvs : List (NK × V)) : Prop where
  at_ : H a = some (dob a o)
  ns : (a == sysModules) = false
  sz : kvs.length ≤ sizeLine
  ex : o.ExactDict
  ent : ∃ (xs : List Ent) (es : Array DictEntry) (ep : Nat), o.data = .dict es ep ∧ es.toList = xs.map (entOf w) ∧ (xs.map (·.1)).Nodup ∧
    Paired (fun (p : NK × V) (q : Ent) => p.1 = q.1 ∧ (KeyAt H (.ref q.2.1) q.1 ∧ q.1.depth ≤ 8) ∧ RelV p.2 q.2.2) kvs xs
def ND (w : World) (H : Hp) (a : Addr) (kvs : List (NK × V)) : Prop := ∃ o, NDat w H a o kvs
theorem NDat.mono {w : World} {H H' : Hp} {a : Addr} {o : Obj} {kvs : List (NK × V)} (x : NDat w H a o kvs) (e : H' a = H a) (t : Tups H H') : NDat w H' a o kvs := by
  obtain ⟨xs, es, ep, h1, h2, h3, h4⟩ := x.ent
  exact ⟨e.trans x.at_, x.ns, x.sz, x.ex, xs, es, ep, h1, h2, h3, Paired.mapP h4 fun p q z => ⟨z.1, ⟨z.2.1.1.mono t, z.2.1.2⟩, z.2.2⟩⟩
theorem ND.mono {w : World} {H H' : Hp} {a : Addr} {kvs : List (NK × V)} (x : ND w H a kvs) (e : H' a = H a) (t : Tups H H') : ND w H' a kvs := let ⟨o, y⟩ := x; ⟨o, y.mono e t⟩
theorem paired_mem {α β : Type} {F : α → β → Prop} : ∀ {l : List α} {m : List β}, Paired F l m → ∀ y ∈ m, ∃ x ∈ l, F x y
  | _, _, .nil, y, h => by cases h
  | _, _, .cons r t, y, h => by
    rcases List.mem_cons.mp h with rfl | h
    · exact ⟨_, List.mem_cons_self .., r⟩
    · obtain ⟨x, hx, e⟩ := paired_mem t y h
      exact ⟨x, List.mem_cons_of_mem _ hx, e⟩
section
variable {P : Program} {w : World} {H : Hp} {h : Heap} {a b : Addr} {o : Obj} {kvs : List (NK × V)} {k : NK}
theorem NDat.dict (x : NDat w H a o kvs) (ok : HOk P w H h) : ∃ xs : List Ent, h.DictOfH (nestedKind P w) a xs ∧ Paired (fun (p : NK × V) (q : Ent) => p.1 = q.1 ∧ (KeyAt H (.ref q.2.1) q.1 ∧ q.1.depth ≤ 8) ∧ RelV p.2 q.2.2) kvs xs := by
  obtain ⟨xs, es, ep, h1, h2, h3, h4⟩ := x.ent
  refine ⟨xs, ⟨o, es, ep, dob_get ok x.at_, x.ex, h1, h2, fun y hy => ?_, h3⟩, h4⟩
  obtain ⟨p, _, _, q, _⟩ := paired_mem h4 y hy
  exact ⟨KeyAt.is ok _ _ _ q.1 rfl, q.2⟩
theorem is_of (ok : HOk P w H h) (hk : KeyAt H (.ref b) k) (hd : k.depth ≤ 8) : (nestedKind P w).is h k b := ⟨KeyAt.is ok _ _ _ hk rfl, hd⟩
theorem look_of {xs : List Ent} (h4 : Paired (fun (p : NK × V) (q : Ent) => p.1 = q.1 ∧ (KeyAt H (.ref q.2.1) q.1 ∧ q.1.depth ≤ 8) ∧ RelV p.2 q.2.2) kvs xs) (k : NK) : RelO (valV kvs k) ((atKey xs k).map (·.2)) := by
  induction h4 with
  | nil => exact True.intro
  | @cons p q l m r t ih =>
    by_cases e : p.1 = k
    · have e2 : q.1 = k := r.1.symm.trans e
      rw [valV_pos e]
      unfold atKey
      rw [List.find?_cons_of_pos (by simpa using e2)]
      exact r.2.2
    · have e2 : ¬ q.1 = k := fun z => e (r.1.trans z)
      rw [valV_neg e]
      unfold atKey at ih ⊢
      rw [List.find?_cons_of_neg (by simpa using e2)]
      exact ih
theorem store_of {xs : List Ent} {v : V} {u : Value} (h4 : Paired (fun (p : NK × V) (q : Ent) => p.1 = q.1 ∧ (KeyAt H (.ref q.2.1) q.1 ∧ q.1.depth ≤ 8) ∧ RelV p.2 q.2.2) kvs xs) (hk : KeyAt H (.ref b) k) (hd : k.depth ≤ 8) (r : RelV v u) :
    Paired (fun (p : NK × V) (q : Ent) => p.1 = q.1 ∧ (KeyAt H (.ref q.2.1) q.1 ∧ q.1.depth ≤ 8) ∧ RelV p.2 q.2.2) (putK kvs k v) (storedH xs k b u) := by
  have look := look_of h4 k
  unfold storedH putK
  have e1 : (kvs.any fun kv => decide (kv.1 = k)) = (atKey xs k).isSome := by
    rw [valV_any]
    have := RelO.isSome_eq look
    rw [Option.isSome_map] at this
    exact this
  rw [← e1]
  split
  · have mp : ∀ {l : List (NK × V)} {m : List Ent}, Paired (fun (p : NK × V) (q : Ent) => p.1 = q.1 ∧ (KeyAt H (.ref q.2.1) q.1 ∧ q.1.depth ≤ 8) ∧ RelV p.2 q.2.2) l m →
        Paired (fun (p : NK × V) (q : Ent) => p.1 = q.1 ∧ (KeyAt H (.ref q.2.1) q.1 ∧ q.1.depth ≤ 8) ∧ RelV p.2 q.2.2) (l.map fun kv => if kv.1 = k then (kv.1, v) else kv) (m.map (putAt k u)) := by
      intro l m p
      induction p with
      | nil => exact .nil
      | @cons p q l m z t ih =>
        refine .cons ?_ ih
        unfold putAt
        by_cases e : p.1 = k
        · have e2 : q.1 = k := z.1.symm.trans e
          simp only [if_pos e, if_pos e2]
          exact ⟨z.1, z.2.1, r⟩
        · have e2 : ¬ q.1 = k := fun y => e (z.1.trans y)
          simp only [if_neg e, if_neg e2]
          exact z
    exact mp h4
  · have app : ∀ {l : List (NK × V)} {m : List Ent}, Paired (fun (p : NK × V) (q : Ent) => p.1 = q.1 ∧ (KeyAt H (.ref q.2.1) q.1 ∧ q.1.depth ≤ 8) ∧ RelV p.2 q.2.2) l m →
        Paired (fun (p : NK × V) (q : Ent) => p.1 = q.1 ∧ (KeyAt H (.ref q.2.1) q.1 ∧ q.1.depth ≤ 8) ∧ RelV p.2 q.2.2) (l ++ [(k, v)]) (m ++ [(k, b, u)]) := by
      intro l m p
      induction p with
      | nil => exact .cons ⟨rfl, ⟨hk, hd⟩, r⟩ .nil
      | cons r t ih => exact .cons r ih
    exact app h4
end

section
variable {X : Cx} {pins : List (Addr × Obj)} {σ : L2.St} {H : Hp} {s : Shared} {a b : Addr} {kvs : List (NK × V)} {k : NK} {v : V} {u r : Value} {A : Around} {E : Value → Shared → Prop}
theorem nroom {X : Cx} (hu : X.A.units + 9 < cLine) : (nestedKind X.prog X.w).room X.A.in1 := by
  show X.A.units + 1 + 8 < cLine
  omega
theorem n_getItem {Q : Value → Shared → Prop} (hu : X.A.units + 9 < cLine) (I : Inv X pins σ H s) (g : ND X.w H a kvs) (hk : KeyAt H (.ref b) k) (hd : k.depth ≤ 8) (l : valV kvs k = some v) (h : ∀ w' s', Inv X pins σ H s' → RelV v w' → Q w' s') :
    wpAny (model X.prog X.w) X.A (getItem (.ref a) (.ref b)) Q E s := by
  obtain ⟨o, x⟩ := g
  obtain ⟨xs, dd, pr⟩ := x.dict (P := X.prog) I.hok
  obtain ⟨w', hw, rw'⟩ := RelO.some_of (v := v) (o := (atKey xs k).map (·.2)) (by rw [← l]; exact look_of pr k)
  obtain ⟨p, hp, hp2⟩ := Option.map_eq_some_iff.mp hw
  refine wpAny_getItem_heap (nroom hu) (is_of I.hok hk hd) dd hp ?_
  rw [hp2]
  exact h w' _ (I.tok _) rw'
theorem n_in {Q : Value → Shared → Prop} (hu : X.A.units + 9 < cLine) (I : Inv X pins σ H s) (g : ND X.w H a kvs) (hk : KeyAt H (.ref b) k) (hd : k.depth ≤ 8) (h : ∀ s', Inv X pins σ H s' → Q (.bool (valV kvs k).isSome) s') :
    wpAny (model X.prog X.w) X.A (compareOp .In (.ref b) (.ref a)) Q E s := by
  obtain ⟨o, x⟩ := g
  obtain ⟨xs, dd, pr⟩ := x.dict (P := X.prog) I.hok
  refine wpAny_in_heap (nroom hu) (is_of I.hok hk hd) x.ns dd ?_
  have q := (look_of pr k).isSome_eq
  rw [Option.isSome_map] at q
  rw [← q]
  exact h _ (I.tok _)
theorem n_notIn {Q : Value → Shared → Prop} (hu : X.A.units + 9 < cLine) (I : Inv X pins σ H s) (g : ND X.w H a kvs) (hk : KeyAt H (.ref b) k) (hd : k.depth ≤ 8) (h : ∀ s', Inv X pins σ H s' → Q (.bool (!(valV kvs k).isSome)) s') :
    wpAny (model X.prog X.w) X.A (compareOp .NotIn (.ref b) (.ref a)) Q E s := by
  obtain ⟨o, x⟩ := g
  obtain ⟨xs, dd, pr⟩ := x.dict (P := X.prog) I.hok
  refine wpAny_notIn_heap (nroom hu) (is_of I.hok hk hd) x.ns dd ?_
  have q := (look_of pr k).isSome_eq
  rw [Option.isSome_map] at q
  rw [← q]
  exact h _ (I.tok _)
theorem n_get2 {d : V} {Q : Value → Shared → Prop} (hu : X.A.units + 9 < cLine) (I : Inv X pins σ H s) (g : ND X.w H a kvs) (hk : KeyAt H (.ref b) k) (hd : k.depth ≤ 8) (rd : RelV d u)
    (h : ∀ w' s', Inv X pins σ H s' → RelV ((valV kvs k).getD d) w' → Q w' s') : wpAny (model X.prog X.w) X.A (call (.builtin "dict.get") [.ref a, .ref b, u]) Q E s := by
  obtain ⟨o, x⟩ := g
  obtain ⟨xs, dd, pr⟩ := x.dict (P := X.prog) I.hok
  refine call_meetsIn PySem.F.slot_dict_get dd.typeIs PySem.F.entry_dict_get (PySem.F.args_dict_get_3 _ _ _) (meetsH_dict_get_default (nestedKind X.prog X.w) a b x.ns u) ⟨nroom hu, k, xs, is_of I.hok hk hd, dd, ?_⟩
  have q := look_of pr k
  refine h _ _ (I.tok _) ?_
  cases e1 : valV kvs k with
  | none =>
    rw [e1] at q
    rw [RelO.none_of q]
    exact rd
  | some z =>
    rw [e1] at q
    obtain ⟨z', hz, rz⟩ := RelO.some_of q
    rw [hz]
    exact rz
/-- the dict behind a[k] = v -/
theorem n_setItem {Q : Unit → Shared → Prop} (hu : X.A.units + 9 < cLine) (I : Inv X pins σ H s) (g : ND X.w H a kvs) (hk : KeyAt H (.ref b) k) (hd : k.depth ≤ 8) (hz : kvs.length < sizeLine) (rv : RelV v r)
    (h : ∀ o' s', Inv X pins σ (upd H a (dob a o')) s' → ND X.w (upd H a (dob a o')) a (putK kvs k v) → Q () s') : wpAny (model X.prog X.w) X.A (setItem (.ref a) (.ref b) r) Q E s := by
  obtain ⟨o, x⟩ := g
  obtain ⟨xs, dd, pr⟩ := x.dict (P := X.prog) I.hok
  have hl : kvs.length = xs.length := Paired.length pr
  refine wpAny_setItem_heap (hsz := by omega) (nroom hu) (is_of I.hok hk hd) dd fun h' dd' hs => ?_
  obtain ⟨q, es, ep, hq, h2, h3, h4, _, h5⟩ := dd'
  have mu : Mut (H a) := by rw [x.at_]; exact True.intro
  have I1 : Inv X pins σ (upd H a (dob a q)) { s with heap := h', toks := s.toks + (nestedKind X.prog X.w).draws k } :=
    I.write (x := a) (e := a) mu (.inl rfl) (fun b q hb z => (hs.2 b hb).trans z) ⟨q, hq⟩ (dob_ok hq)
  have tp : Tups H (upd H a (dob a q)) := Tups.upd fun ys z => by rw [x.at_] at z; cases z
  refine h q _ I1 ⟨q, upd_same, x.ns, ?_, h2, _, es, ep, h3, h4, h5, Paired.mapP (store_of pr hk hd rv) fun p q z => ⟨z.1, ⟨z.2.1.1.mono tp, z.2.1.2⟩, z.2.2⟩⟩
  have := length_putK kvs k v
  omega
theorem n_len {Q : Value → Shared → Prop} (I : Inv X pins σ H s) (g : ND X.w H a kvs) (h : ∀ t s', Inv X pins σ H s' → Q (.int kvs.length t) s') : wpAny (model X.prog X.w) X.A (call (.builtin "len") [.ref a]) Q E s := by
  obtain ⟨o, x⟩ := g
  obtain ⟨xs, dd, pr⟩ := x.dict (P := X.prog) I.hok
  have hl : kvs.length = xs.length := Paired.length pr
  have dk : s.heap.DictKeyed (nestedKind X.prog X.w) a (pairsH xs) := ⟨xs, dd, rfl⟩
  have hz := x.sz
  have he : (pairsH xs).length = kvs.length := by rw [pairsH_length, hl]
  refine PyProof.Rows.call_len_slot (n := kvs.length) dk.typeIs PySem.F.slot_dict_len (fun Q' hq => len_keyed x.ns dk (by rw [he]; exact hq)) (by omega) (by rw [sizeLine_eq] at hz; omega) ?_
  exact h _ _ (I.tok _)
end
end Nd
/-! Rules for such dicts: operators, subscripts, stores, get, len, walks, list(d), displays. -/
namespace Nd
open PySem PySem.Spec PyProof.Rows L2
/-- a key, y its value -/
def IsK (H : Hp) (y : V) (k : NK) : Prop := ∃ b, y = .ref b ∧ KeyAt H (.ref b) k ∧ k.depth ≤ 8
def rInN (w : World) : R2 := fun y x H Q => ∃ a kvs k, x = .ref a ∧ ND w H a kvs ∧ IsK H y k ∧ Q (.bl (valV kvs k).isSome) H
def rNotInN (w : World) : R2 := fun y x H Q => ∃ a kvs k, x = .ref a ∧ ND w H a kvs ∧ IsK H y k ∧ Q (.bl (!(valV kvs k).isSome)) H
def rGetN (w : World) : V → V → Hp → VK → Prop := fun x y H Q => ∃ a kvs k v, x = .ref a ∧ ND w H a kvs ∧ IsK H y k ∧ valV kvs k = some v ∧ Q v H
def rSetN (w : World) : TSet := fun x y v H Q => ∃ a kvs k, x = .ref a ∧ ND w H a kvs ∧ IsK H y k ∧ kvs.length < sizeLine ∧ ∀ o', ND w (upd H a (dob a o')) a (putK kvs k v) → Q (upd H a (dob a o'))
def rLenN (w : World) : List V → Hp → VK → Prop := fun xs H Q => ∃ a kvs, xs = [.ref a] ∧ ND w H a kvs ∧ Q (.int kvs.length) H
def tGetN (w : World) (td ty : TE) : TE := fun σ H Q => td σ H fun x G1 => ty σ G1 fun y G2 => rGetN w x y G2 Q
def tGet2N (w : World) (td ty tx : TE) : TE := fun σ H Q => td σ H fun x G1 => ∃ a, x = .ref a ∧ (∃ kvs, ND w G1 a kvs) ∧ ty σ G1 fun y G2 => tx σ G2 fun z H3 => ∃ kvs k, ND w H3 a kvs ∧ IsK H3 y k ∧ Q ((valV kvs k).getD z) H3
section
variable {X : Cx}
theorem op_inN (hu : X.A.units + 9 < cLine) : OpR X (compareOp .In) (rInN X.w) := by
  intro pn s σ H x y v u Q I wx wy h
  obtain ⟨a, kvs, k, rfl, g, ⟨b, rfl, hk, hd⟩, q⟩ := h
  cases wx
  cases wy
  exact n_in hu I g hk hd fun s' I' => ⟨.bl _, H, I', rfl, q⟩
theorem op_notInN (hu : X.A.units + 9 < cLine) : OpR X (compareOp .NotIn) (rNotInN X.w) := by
  intro pn s σ H x y v u Q I wx wy h
  obtain ⟨a, kvs, k, rfl, g, ⟨b, rfl, hk, hd⟩, q⟩ := h
  cases wx
  cases wy
  exact n_notIn hu I g hk hd fun s' I' => ⟨.bl _, H, I', rfl, q⟩
theorem get_n (hu : X.A.units + 9 < cLine) : PGet X (rGetN X.w) := by
  intro pn s σ H o i ov iv Q I ro ri h
  obtain ⟨a, kvs, k, v, rfl, g, ⟨b, rfl, hk, hd⟩, l, q⟩ := h
  cases ro
  cases ri
  exact n_getItem hu I g hk hd l fun w' s' I' r' => ⟨v, H, I', r', q⟩
theorem set_n (hu : X.A.units + 9 < cLine) : PSet X (rSetN X.w) := by
  intro pn s σ H o i v ov iv u Q I ro ri rv h
  obtain ⟨a, kvs, k, rfl, g, ⟨b, rfl, hk, hd⟩, hz, q⟩ := h
  cases ro
  cases ri
  exact n_setItem hu I g hk hd hz rv fun o' s' I' g' => ⟨_, I', q o' g'⟩
theorem call_lenN : CallR X (.builtin "len") (rLenN X.w) := by
  intro pn s σ H xs us Q I r h
  obtain ⟨a, kvs, rfl, g, q⟩ := h
  obtain ⟨u, rfl, ru⟩ := r.one
  cases ru
  exact n_len I g fun t s' I' => ⟨.int kvs.length, H, I', ⟨t, rfl⟩, q⟩
theorem nd_typeIs {pn : List (Addr × Obj)} {σ : L2.St} {H : Hp} {s : Shared} {a : Addr} {kvs : List (NK × V)} (I : Inv X pn σ H s) (g : ND X.w H a kvs) : s.TypeIs (.ref a) "dict" ∧ (∀ b, Value.ref a = .ref b → ∃ ob, s.heap.get? b = some ob ∧ ob.dict = none) := by
  obtain ⟨o, x⟩ := g
  have e := dob_get I.hok x.at_
  exact ⟨⟨o, e, x.ex.1⟩, fun b z => by cases z; exact ⟨o, e, x.ex.2.1⟩⟩
theorem pe_nget {o i : Expr} {td ty : TE} {pos : Pos} (hu : X.A.units + 9 < cLine) (ho : PE X o td) (hi : PE X i ty) (hs : NoSl i) : PE X (.Subscript o i pos) (tGetN X.w td ty) := by
  refine ⟨fun pn s σ H Q I h => ?_⟩
  refine subD_of PySem.F.slot_dict_getitem.lookup hs (thn (ho.run pn s σ H _ I h) fun u u1 ⟨x, G1, J1, wx, q1⟩ => thn (hi.run pn u1 σ G1 _ J1 q1) fun iv u2 ⟨y, G2, J2, wy, q2⟩ => ?_)
  obtain ⟨a, kvs, k, v, rfl, g, ⟨b, rfl, hk, hd⟩, l, q⟩ := q2
  cases wx
  cases wy
  exact ⟨(nd_typeIs J2 g).1, n_getItem hu J2 g hk hd l fun w' s3 I3 rw' => ⟨v, G2, I3, rw', q⟩⟩
theorem pe_nget2 {o e f : Expr} {td ty tx : TE} {ap0 cp0 : Pos} (hu : X.A.units + 9 < cLine) (ho : PE X o td) (he : PE X e ty) (hf : PE X f tx) (m : M2 X o "get" ap0 e f cp0) : PE X (.Call (.Attribute o "get" ap0) [e, f] [] cp0) (tGet2N X.w td ty tx) := by
  refine ⟨fun pn s σ H Q I h => ?_⟩
  refine wpAny_Call_method m.base m.few m.line PySem.F.plainAttrs_dict PySem.F.slot_dict_get PySem.F.type_dict_get (thn (ho.run pn s σ H _ I h) fun u u1 ⟨x, G1, J1, wx, a, ex, ⟨kvs0, g0⟩, q1⟩ => ?_)
  subst ex
  obtain rfl : u = Value.ref a := wx
  obtain ⟨t1, t2⟩ := nd_typeIs J1 g0
  refine ⟨t1, t2, ?_⟩
  rw [m.trees]
  refine Calls.callWith_builtin rfl (Calls.evalArgs_plain (Calls.spliced_cons (thn (he.run pn u1 σ G1 _ J1 q1) fun iv u2 ⟨y, G2, J2, wy, q2⟩ =>
    Calls.spliced_cons (thn (hf.run pn u2 σ G2 _ J2 q2) fun fv s3 ⟨z, H3, I3, rz, kvs, k, g, ⟨b, ey, hk, hd⟩, q3⟩ => Calls.spliced_nil ?_))))
  subst ey
  cases wy
  exact n_get2 hu I3 g hk hd rz fun w' s4 I4 rw' => ⟨_, H3, I4, rw', q3⟩
end
/-! ### walks -/
/-- the keys of the dict at d (its object o), in their order: the key's own tuple -/
def Itkn (w : World) (d : Addr) (o : Obj) (kvs : List (NK × V)) : It :=
  ⟨fun i H => NDat w H d o kvs ∧ i < kvs.length, fun i H x H' => H' = H ∧ ∃ k v q, kvs[i]? = some (k, v) ∧ x = .ref q ∧ KeyAt H (.ref q) k, fun i H => NDat w H d o kvs ∧ kvs.length ≤ i⟩
/-- each pair is a tuple of its own -/
def Itin (w : World) (d : Addr) (o : Obj) (kvs : List (NK × V)) : It :=
  ⟨fun i H => NDat w H d o kvs ∧ i < kvs.length, fun i H x H' => ∃ T k v q, kvs[i]? = some (k, v) ∧ x = .ref T ∧ KeyAt H (.ref q) k ∧ H T = none ∧ H' = upd H T (.tup [.ref q, v]), fun i H => NDat w H d o kvs ∧ kvs.length ≤ i⟩
section
variable {X : Cx} {pn : List (Addr × Obj)} {σ : L2.St} {H : Hp} {s : Shared} {d : Addr} {o : Obj} {kvs : List (NK × V)}
theorem nd_raw (I : Inv X pn σ H s) (x : NDat X.w H d o kvs) : (d == sysModules) = false ∧ s.heap.get? d = some o ∧ o.ExactDict ∧ ∃ (es : Array DictEntry) (ep : Nat), o.data = .dict es ep ∧ es.size = kvs.length ∧
    ∀ (i : Nat) (k : NK) (v : V), kvs[i]? = some (k, v) → ∃ (en : DictEntry) (q : Addr), es[i]? = some en ∧ en.key = .ref q ∧ KeyAt H (.ref q) k ∧ RelV v en.val := by
  obtain ⟨xs, es, ep, h1, h2, h3, h4⟩ := x.ent
  have hsz : es.size = xs.length := by rw [← Array.length_toList, h2, List.length_map]
  have hl : kvs.length = xs.length := Paired.length h4
  refine ⟨x.ns, dob_get I.hok x.at_, x.ex, es, ep, h1, by omega, fun i k v e => ?_⟩
  obtain ⟨b, hb, e1, e2, e3⟩ := paired_get h4 e
  have q : es[i]? = some (entOf X.w b) := by rw [← Array.getElem?_toList, h2, List.getElem?_map, hb]; rfl
  obtain ⟨bk, ba, bv⟩ := b
  cases e1
  exact ⟨_, ba, q, rfl, e2.1, e3⟩
end
section
variable {P : Program} {w : World} {K : PySem.W.Frag} {tg : Expr} {d : Addr} {o : Obj} {es : Array DictEntry} {ep : Nat} {kvs : List (NK × V)}
theorem turn_keysN (ir : Addr) (hoz : o.data = .dict es ep) : Turn P w K tg (Itkn w d o kvs) [ir] ir (fun i h => h.IsKeyIter ir d i kvs.length ep) where
  mem := by simp
  obj := fun i h sa b hb => by
    have e : b = ir := by simpa using hb
    subst e
    obtain ⟨ox, e, c, dz⟩ := sa
    exact ⟨ox, e, fun v z => by rw [dz] at z; cases z⟩
  keep := fun i h h' sa k => sa.at fun ox e => k ir (by simp) ox e
  item := by
    intro X hP hw hK hc i pn s σ H E I hf sa hg
    subst hP hw hK
    obtain ⟨hd, hi⟩ := hg
    obtain ⟨z0, z1, z2, z3, z4, z5⟩ := hf ir (by simp)
    obtain ⟨hs, hgd, hx, es', ep', hdz, hsz, ent⟩ := nd_raw I hd
    obtain ⟨rfl, rfl⟩ := dict_ep hoz hdz
    obtain ⟨⟨k, v⟩, kv0⟩ : ∃ p, kvs[i]? = some p := ⟨kvs[i], List.getElem?_eq_getElem hi⟩
    obtain ⟨en, q, hen, hkey, hq, _⟩ := ent i k v kv0
    refine next_key_item sa hgd hdz hsz hen fun h' sa' sc => ?_
    have J1 : Inv X pn σ H { s with heap := h' } := I.turned (t' := s.toks) (fun b ob hb e => (sc.2 b hb).trans e) z0 z1 z3 z4 z5
    obtain ⟨ox, e, c, dz⟩ := id sa'
    exact ⟨en.key, rfl, go_of (s := { s with heap := h' }) e c dz (by decide) ⟨.ref q, H, J1, hkey, ⟨rfl, k, v, q, kv0, rfl, hq⟩, sa', fun b hb => (hf b hb).1⟩⟩
  done := by
    intro X hP hw hK hc i pn s σ H E I hf sa hg
    subst hP hw hK
    obtain ⟨hd, hi⟩ := hg
    obtain ⟨z0, z1, z2, z3, z4, z5⟩ := hf ir (by simp)
    obtain ⟨hs, hgd, hx, es', ep', hdz, hsz, ent⟩ := nd_raw I hd
    obtain ⟨rfl, rfl⟩ := dict_ep hoz hdz
    exact next_key_end (I.ok.hd hc) sa hgd hdz hsz hi fun h' eb => ⟨rfl, I.turned (t' := s.toks) (fun b ob hb e => eb b ob hb e) z0 z1 z3 z4 z5⟩
  self := fun A i s Q E sa h => by
    refine wpAny_pyIter_slot sa.typeIs F.slot_dict_keyiterator_iter (wpAny_call_entry F.slot_dict_keyiterator_iter sa.typeIs F.entry_dict_keyiterator_iter ?_ (F.args_dict_keyiterator_iter_1 _))
    show wpAny _ _ (ret (.ref ir)) _ _ s
    exact wpAny_pure ⟨_, rfl, "dict_keyiterator", _, sa.typeIs, F.slot_dict_keyiterator_next.lookup, h⟩
theorem turn_itemsN {elts : List Expr} {kk : Nat} {tpos : Pos} (ir : Addr) (hoz : o.data = .dict es ep) :
    Turn P w K (.Tuple elts kk tpos) (Itin w d o kvs) [ir] ir (fun i h => ∃ ok ov, IsItemIter h ir d i kvs.length ep ok ov) where
  mem := by simp
  obj := fun i h sa b hb => by
    have e : b = ir := by simpa using hb
    subst e
    obtain ⟨ok, ov, e⟩ := sa
    exact ⟨_, e, fun v z => nomatch z⟩
  keep := fun i h h' sa k => let ⟨ok, ov, e⟩ := sa; ⟨ok, ov, k ir (by simp) _ e⟩
  item := by
    intro X hP hw hK hc i pn s σ H E I hf sa hg
    subst hP hw hK
    obtain ⟨hd, hi⟩ := hg
    obtain ⟨hs, hgd, hx, es', ep', hdz, hsz, ent⟩ := nd_raw I hd
    obtain ⟨rfl, rfl⟩ := dict_ep hoz hdz
    obtain ⟨⟨k, v⟩, kv0⟩ : ∃ p, kvs[i]? = some p := ⟨kvs[i], List.getElem?_eq_getElem hi⟩
    obtain ⟨en, q, hen, hkey, hq, rv⟩ := ent i k v kv0
    obtain ⟨ok, ov, he⟩ := sa
    rw [← hsz] at he
    have hlz : ir < s.heap.objs.size := Heap.lt_size he
    have hi2 : i < es'.size := by omega
    have hee : es'[i] = en := by rw [Array.getElem?_eq_getElem hi2] at hen; exact Option.some.inj hen
    refine wpAny_pyNext_items_item_raw he ⟨o, hgd, hx, hdz⟩ hi2 fun h' ho hT hz hk => ?_
    rw [hee, hkey] at ho hT
    refine ⟨_, rfl, wpAny_letOwnedTupleGo_items (s := { s with heap := h' }) ho fun h'' he' sc => ?_⟩
    have hT2 : h''.get? s.heap.objs.size = some { cls := .type "tuple", data := .seq #[Value.ref q, en.val] } := (sc.2 _ (Nat.ne_of_gt hlz)).trans hT
    have new : ObjOk X.prog X.w (upd H s.heap.objs.size (.tup [.ref q, v])) h'' s.heap.objs.size (.tup [.ref q, v]) :=
      ⟨by show 2 ≤ sizeLine; decide, [Value.ref q, en.val], .cons rfl (.cons rv .nil), ⟨_, hT2, rfl, _, rfl⟩⟩
    have J1 : Inv X pn σ (upd H s.heap.objs.size (.tup [.ref q, v])) { s with heap := h'' } :=
      I.turnedNew (t' := s.toks) (ch := [ir]) (fun b ob hb e => (sc.2 b (by simpa using hb)).trans (hk b ob (by simpa using hb) e)) hf (Nat.le_refl _) new
    refine ⟨.ref s.heap.objs.size, _, J1, rfl, ⟨_, k, v, q, kv0, rfl, hq, I.hok.fresh (Nat.le_refl _), rfl⟩, ⟨.ref q, en.val, ?_⟩, fun b hb => ?_⟩
    · rw [← hsz]; exact he'
    · have e : b = ir := by simpa using hb
      rw [e, upd_ne (Nat.ne_of_lt hlz)]
      exact (hf ir (by simp)).1
  done := by
    intro X hP hw hK hc i pn s σ H E I hf sa hg
    subst hP hw hK
    obtain ⟨hd, hi⟩ := hg
    obtain ⟨z0, z1, z2, z3, z4, z5⟩ := hf ir (by simp)
    obtain ⟨hs, hgd, hx, es', ep', hdz, hsz, ent⟩ := nd_raw I hd
    obtain ⟨rfl, rfl⟩ := dict_ep hoz hdz
    obtain ⟨ok, ov, he⟩ := sa
    rw [← hsz] at he
    exact wpAny_pyNext_items_end_raw (I.ok.hd hc) he ⟨o, hgd, hx, hdz⟩ (by omega) fun h' eb => ⟨rfl, I.turned (t' := s.toks) (fun b ob hb e => eb b ob hb e) z0 z1 z3 z4 z5⟩
  self := fun A i s Q E sa h => let ⟨_, _, e⟩ := sa; PySem.W.kcp_self e h
end
def iKeysN (w : World) (td : TE) : TI := fun σ H R => td σ H fun x G1 => ∃ d o kvs, x = .ref d ∧ NDat w G1 d o kvs ∧ R (Itkn w d o kvs) G1
def iItemsN (w : World) (td : TE) : TI := fun σ H R => td σ H fun x G1 => ∃ d o kvs, x = .ref d ∧ NDat w G1 d o kvs ∧ R (Itin w d o kvs) G1
section
variable {X : Cx} {tg e : Expr} {td : TE} {ap0 cp0 : Pos}
theorem pi_keysN (he : PE X e td) : PI X tg e (iKeysN X.w td) := by
  refine ⟨fun pn s σ H R I h => ?_⟩
  refine thn (he.run pn s σ H _ I h) fun u u1 ⟨x, G1, J1, wx, d, o, kvs, ex, hd, q⟩ => ?_
  subst ex
  obtain rfl : u = Value.ref d := wx
  obtain ⟨hs, hgd, hx, es, ep, hdz, hsz, ent⟩ := nd_raw J1 hd
  refine iter_keys hs hgd hx hdz (pi_one (tk := u1.toks) J1 _ (turn_keysN _ hdz) ⟨_, Heap.get?_push_size _ rfl, rfl, ?_⟩ q)
  rw [hsz] <;> rfl
theorem pi_itemsN {elts : List Expr} {kk : Nat} {tpos : Pos} (he : PE X e td) (hbase : attributeBase e "items" X.env (eval e X.env) = eval e X.env := by rfl) (hline : (ap0.endLine == cp0.line) = true := by rfl) :
    PI X (.Tuple elts kk tpos) (.Call (.Attribute e "items" ap0) [] [] cp0) (iItemsN X.w td) := by
  refine ⟨fun pn s σ H R I h => ?_⟩
  refine wpAny_Call_method (T := "dict") (id := "dict.items") hbase rfl hline F.plainAttrs_dict F.slot_dict_items F.type_dict_items (thn (he.run pn s σ H _ I h) fun u u1 ⟨x, G1, J1, wx, d, o, kvs, ex, hd, q⟩ => ?_)
  subst ex
  obtain rfl : u = Value.ref d := wx
  obtain ⟨t1, t2⟩ := nd_typeIs J1 ⟨o, hd⟩
  obtain ⟨hs, hgd, hx, es, ep, hdz, hsz, ent⟩ := nd_raw J1 hd
  refine ⟨t1, t2, ?_⟩
  have hr : u1.heap.DictRaw d es ep := ⟨o, hgd, hx, hdz⟩
  have J2 : Inv X pn σ G1 { u1 with heap := u1.heap.push { cls := .type "dict_items", data := .fields #[.ref d] } } := J1.kept (t' := u1.toks) fun b ob q => Heap.get?_push_of_some _ q
  have fin : wpAny (model X.prog X.w) X.A (pyIter (.ref u1.heap.objs.size)) (PIE X pn σ (.Tuple elts kk tpos) R) X.xe { u1 with heap := u1.heap.push { cls := .type "dict_items", data := .fields #[.ref d] } } := by
    refine wpAny_pyIter_items_raw (d := d) ⟨_, Heap.get?_push_size _ rfl, rfl, rfl⟩ (hr.at fun ob q => Heap.get?_push_of_some _ q) (pi_one (tk := u1.toks) J2 _ (turn_itemsN _ hdz) ⟨.none, .none, ?_⟩ q)
    rw [← hsz]
    exact Heap.get?_push_size _ rfl
  show wpAny _ _ (callWith cp0 (.builtin "dict.items") [.ref d] [] []) _ X.xe u1
  exact method_meetsIn F.slot_dict_items F.entry_dict_items rfl (PySem.evalArgs_none ⟨rfl, t1, F.args_dict_items_1 _, _, meets_dict_items_raw d hs, ⟨es, ep, hr⟩, fin⟩)
/-- list(d): the keys' own tuples -/
theorem call_listN (hc : X.calm = true) : CallR X (.type "list") (fun xs H Q => ∃ d kvs, xs = [V.ref d] ∧ ND X.w H d kvs ∧ ∀ p bs, H p = none → Paired (fun (q : Addr) (kv : NK × V) => KeyAt H (.ref q) kv.1) bs kvs → Q (.ref p) (upd H p (.lst (bs.map V.ref)))) := by
  intro pn s σ H xs us Q I r h
  obtain ⟨d, kvs, rfl, ⟨o, hd⟩, q⟩ := h
  obtain ⟨u, rfl, wx⟩ := r.one
  cases wx
  obtain ⟨hs, hgd, hx, es, ep, hdz, hsz, ent⟩ := nd_raw I hd
  have hz := hd.sz
  refine PySem.W.kdl_call (kdl_raw hs hx hdz) (I.ok.hd hc) hgd (by omega) fun h' tk acc' c' kp e ir => ?_
  have key : ∀ (j : Nat) (kv : NK × V), kvs[j]? = some kv → ∃ b, acc'[j]? = some (Value.ref b) ∧ KeyAt H (.ref b) kv.1 := fun j kv hj => by
    obtain ⟨en, b, hen, hkey, hq, _⟩ := ent j kv.1 kv.2 hj
    have hl : j < acc'.size := by rw [ir.1, hsz]; exact (List.getElem?_eq_some_iff.mp hj).1
    obtain ⟨en2, hen2, hv⟩ := ir.2 j acc'[j] (Array.getElem?_eq_getElem hl)
    rw [hen] at hen2
    cases hen2
    exact ⟨b, by rw [Array.getElem?_eq_getElem hl, hv, hkey], hq⟩
  have lst : ∀ (ks : List (NK × V)) (vs : List Value), vs.length = ks.length → (∀ (j : Nat) (kv : NK × V), ks[j]? = some kv → ∃ b, vs[j]? = some (Value.ref b) ∧ KeyAt H (.ref b) kv.1) →
      ∃ bs : List Addr, vs = bs.map Value.ref ∧ Paired (fun (q : Addr) (kv : NK × V) => KeyAt H (.ref q) kv.1) bs ks := by
    intro ks
    induction ks with
    | nil => intro vs hl _; exact ⟨[], List.eq_nil_of_length_eq_zero hl, .nil⟩
    | cons kv ks ih =>
      intro vs hl hv
      cases vs with
      | nil => simp at hl
      | cons v vs =>
        obtain ⟨b, hb, hk⟩ := hv 0 kv rfl
        have hb' : v = Value.ref b := by simpa using hb
        obtain ⟨bs, e, p⟩ := ih vs (by simpa using hl) fun j kv' hj => by simpa using hv (j + 1) kv' (by simpa using hj)
        exact ⟨b :: bs, by rw [hb', e]; rfl, .cons hk p⟩
  obtain ⟨bs, eb, pr⟩ := lst kvs acc'.toList (by rw [Array.length_toList, ir.1, hsz]) fun j kv hj => by
    obtain ⟨b, h1, h2⟩ := key j kv hj
    exact ⟨b, by rw [Array.getElem?_toList]; exact h1, h2⟩
  have vv : ∀ l : List Addr, Vals (l.map V.ref) (l.map Value.ref) := fun l => by
    induction l with
    | nil => exact .nil
    | cons a l ih => exact .cons rfl ih
  have hlb : (bs.map V.ref).length ≤ sizeLine := by
    have := Paired.length pr
    rw [List.length_map]
    omega
  have new : ObjOk X.prog X.w (upd H s.heap.objs.size (.lst (bs.map V.ref))) h' s.heap.objs.size (.lst (bs.map V.ref)) :=
    ⟨hlb, bs.map Value.ref, c', vv bs, by rw [e, ← eb]⟩
  exact ⟨.ref s.heap.objs.size, _, I.laid (t' := tk) kp (Nat.le_refl _) new, rfl, q _ bs (I.hok.fresh (Nat.le_refl _)) pr⟩
end
end Nd
/-! {} and {key: value} as such dicts; typed keys. -/
namespace Nd
open PySem PySem.Spec PyProof.Rows L2
def emptyO : Obj := { cls := .type "dict", data := .dict #[] }
theorem nd_empty {w : World} {H : Hp} {a : Addr} (h : H a = some (dob a emptyO)) (ns : (a == sysModules) = false) : NDat w H a emptyO [] :=
  ⟨h, ns, Nat.zero_le _, ⟨rfl, rfl, rfl⟩, [], #[], 0, rfl, rfl, List.nodup_nil, .nil⟩
/-- {} -/
def tNNew (w : World) : TE := fun _ H Q => ∀ p o, H p = none → NDat w (upd H p (dob p o)) p o [] → Q (.ref p) (upd H p (dob p o))
/-- {k: v} -/
def tNOne (w : World) (tk tv : TE) : TE := fun σ H Q => ∀ p o, H p = none → NDat w (upd H p (dob p o)) p o [] →
  tk σ (upd H p (dob p o)) fun y H1 => tv σ H1 fun z H2 => ∃ k, NDat w H2 p o [] ∧ IsK H2 y k ∧ ∀ o', ND w (upd H2 p (dob p o')) p [(k, z)] → Q (.ref p) (upd H2 p (dob p o'))
section
variable {X : Cx} {pos : Pos}
theorem new_empty {pins : List (Addr × Obj)} {σ : L2.St} {H : Hp} {s : Shared} (I : Inv X pins σ H s) :
    Inv X pins σ (upd H s.heap.objs.size (dob s.heap.objs.size emptyO)) { s with heap := s.heap.push emptyO } ∧ NDat X.w (upd H s.heap.objs.size (dob s.heap.objs.size emptyO)) s.heap.objs.size emptyO [] := by
  have nz : (s.heap.objs.size == sysModules) = false := beq_eq_false_iff_ne.mpr fun e => absurd I.big (by rw [e]; exact Nat.lt_irrefl _)
  exact ⟨I.laid (t' := s.toks) (fun _ _ q => Heap.get?_push_of_some _ q) (Nat.le_refl _) (dob_ok (Heap.get?_push_size _ rfl)), nd_empty upd_same nz⟩
theorem pe_nnew : PE X (.Dict [] [] pos) (tNNew X.w) := ⟨fun pins s σ H Q I h =>
  wpAny_Dict_empty ⟨V.ref s.heap.objs.size, _, (new_empty I).1, rfl, h _ emptyO (I.hok.fresh (Nat.le_refl _)) (new_empty I).2⟩⟩
theorem pe_none {k v : Expr} {tk tv : TE} (hu : X.A.units + 9 < cLine) (hk : PE X k tk) (hv : PE X v tv) : PE X (.Dict [some k] [v] pos) (tNOne X.w tk tv) := by
  refine ⟨fun pins s σ H Q I h => ?_⟩
  obtain ⟨I1, g1⟩ := new_empty I
  have room : (nestedKind X.prog X.w).room X.A := by show X.A.units + 8 < cLine; omega
  have shp : (evalEachOpt [some k] X.env).zip ((evalEach [v] X.env).map fun t => do let x ← t; standAt pos; pure x) = (pairTrees [some k] [v] X.env pos).map fun p => (some p.1, p.2) := rfl
  rw [arm_eval_Dict, shp, dictDisplay_pairs (pairTrees [some k] [v] X.env pos) (fun z => nomatch z) (show 1 < 17 by decide)]
  refine wpAny_bind (wpAny_standAt (wpAny_bind (wpAny_subDictH (knd := nestedKind X.prog X.w) room (show 1 ≤ 15 by decide) ?_)))
  refine pairTrees_cons_walk (thn (hk.run pins _ σ _ _ I1 (h _ emptyO (I.hok.fresh (Nat.le_refl _)) g1)) fun u s1 ⟨y, H1, I2, ry, q1⟩ => thn (hv.run pins s1 σ H1 _ I2 q1) fun w2 s2 ⟨z, H2, I3, rz, q2⟩ => pairTrees_nil_walk ?_)
  obtain ⟨kk, g3, ⟨b, rfl, hkey, hd⟩, fin⟩ := q2
  cases ry
  obtain ⟨xs, dd, pr⟩ := g3.dict (P := X.prog) I3.hok
  cases pr
  refine ⟨[(kk, b, w2)], ⟨rfl, rfl, is_of I3.hok hkey hd, True.intro⟩, dd, fun h' tk dk sb => ?_⟩
  obtain ⟨q, es, ep, hq, h2, h3, h4, _, h5⟩ := dk
  have mu : Mut (H2 s.heap.objs.size) := by rw [g3.at_]; exact True.intro
  have I4 : Inv X pins σ (upd H2 s.heap.objs.size (dob s.heap.objs.size q)) { s2 with heap := h', toks := tk } :=
    I3.write (x := s.heap.objs.size) (e := s.heap.objs.size) mu (.inl rfl) (fun b q hb z => (sb.2 b hb).trans z) ⟨q, hq⟩ (dob_ok hq)
  have tp : Tups H2 (upd H2 s.heap.objs.size (dob s.heap.objs.size q)) := Tups.upd fun ys z => by rw [g3.at_] at z; cases z
  refine wpAny_pure ⟨V.ref s.heap.objs.size, _, I4, rfl, fin q ⟨q, upd_same, g3.ns, by show 1 ≤ sizeLine; decide, h2, [(kk, b, w2)], es, ep, h3, h4, h5, .cons ⟨rfl, ⟨hkey.mono tp, hd⟩, rz⟩ .nil⟩⟩
end
/-! ### typed keys -/
structure KeyTy (κ : Type) where
  enc : κ → NK
  inj : ∀ a b, enc a = enc b → a = b
  deep : ∀ a, (enc a).depth ≤ 8
def KeyOf {κ : Type} (T : KeyTy κ) (H : Hp) (y : V) (k : κ) : Prop := ∃ b, y = .ref b ∧ KeyAt H (.ref b) (T.enc k)
theorem KeyOf.is {κ : Type} {T : KeyTy κ} {H : Hp} {y : V} {k : κ} (h : KeyOf T H y k) : IsK H y (T.enc k) := let ⟨b, e, z⟩ := h; ⟨b, e, z, T.deep k⟩
theorem KeyOf.mono {κ : Type} {T : KeyTy κ} {H H' : Hp} {y : V} {k : κ} (h : KeyOf T H y k) (t : Tups H H') : KeyOf T H' y k := let ⟨b, e, z⟩ := h; ⟨b, e, z.mono t⟩
/-- keys qs, values f -/
def mapD {κ : Type} (T : KeyTy κ) (qs : List κ) (f : κ → V) : List (NK × V) := qs.map fun q => (T.enc q, f q)
def DM {κ : Type} (T : KeyTy κ) (w : World) (H : Hp) (a : Addr) (qs : List κ) (f : κ → V) : Prop := ND w H a (mapD T qs f)
theorem mapD_len {κ : Type} (T : KeyTy κ) (qs : List κ) (f : κ → V) : (mapD T qs f).length = qs.length := by unfold mapD; rw [List.length_map]
section
variable {κ : Type} [DecidableEq κ] {T : KeyTy κ} {qs : List κ} {f : κ → V} {k : κ}
theorem mapD_get : valV (mapD T qs f) (T.enc k) = if k ∈ qs then some (f k) else none := by
  induction qs with
  | nil => rfl
  | cons q qs ih =>
    by_cases e : q = k
    · subst e
      rw [if_pos (List.mem_cons_self ..)]
      exact valV_pos rfl
    · have e2 : ¬ T.enc q = T.enc k := fun z => e (T.inj _ _ z)
      have h1 : valV (mapD T (q :: qs) f) (T.enc k) = valV (mapD T qs f) (T.enc k) := valV_neg e2
      rw [h1, ih]
      by_cases m : k ∈ qs
      · rw [if_pos m, if_pos (List.mem_cons_of_mem _ m)]
      · rw [if_neg m, if_neg fun z => (List.mem_cons.mp z).elim (fun y => e y.symm) m]
def fset (f : κ → V) (k : κ) (v : V) : κ → V := fun x => if x = k then v else f x
theorem fset_same (f : κ → V) (k : κ) (v : V) : fset f k v k = v := if_pos rfl
theorem fset_ne {f : κ → V} {k x : κ} {v : V} (h : x ≠ k) : fset f k v x = f x := if_neg h
theorem mapD_put_old {v : V} (h : k ∈ qs) : putK (mapD T qs f) (T.enc k) v = mapD T qs (fset f k v) := by
  unfold putK
  have e : ((mapD T qs f).any fun kv => decide (kv.1 = T.enc k)) = true := by
    rw [valV_any, mapD_get, if_pos h]
    rfl
  rw [e, if_pos rfl]
  unfold mapD
  rw [List.map_map]
  refine List.map_congr_left fun q _ => ?_
  show (if T.enc q = T.enc k then (T.enc q, v) else (T.enc q, f q)) = (T.enc q, fset f k v q)
  by_cases z : q = k
  · subst z
    rw [if_pos rfl, fset_same]
  · rw [if_neg fun y => z (T.inj _ _ y), fset_ne z]
theorem mapD_put_new {v : V} (h : k ∉ qs) : putK (mapD T qs f) (T.enc k) v = mapD T (qs ++ [k]) (fset f k v) := by
  have e : valV (mapD T qs f) (T.enc k) = none := by rw [mapD_get, if_neg h]
  rw [putK_new v e]
  unfold mapD
  rw [List.map_append]
  have e1 : (qs.map fun q => (T.enc q, f q)) = qs.map fun q => (T.enc q, fset f k v q) := List.map_congr_left fun q hq => by
    rw [fset_ne fun z => h (by rw [← z]; exact hq)]
  rw [e1]
  show _ ++ [(T.enc k, v)] = _ ++ [(T.enc k, fset f k v k)]
  rw [fset_same]
end
theorem DM.mono {κ : Type} {T : KeyTy κ} {w : World} {H H' : Hp} {a : Addr} {qs : List κ} {f : κ → V} (x : DM T w H a qs f) (e : H' a = H a) (t : Tups H H') : DM T w H' a qs f := ND.mono x e t
end Nd
/-! Math 1: webs as rows of moves, hidden reach, replies. -/
namespace CM
open Classical
section
variable {D : Type} {hid : D → Bool}
abbrev Rw (D : Type) := List (List (D × Int))
def row (R : Rw D) (i : Int) : List (D × Int) := R.getD i.toNat []
def InR (n : Nat) (i : Int) : Prop := 0 ≤ i ∧ i < (n : Int)
structure Wf (R : Rw D) : Prop where
  pos : 1 ≤ R.length
  nd : ∀ ms ∈ R, (ms.map (·.1)).Nodup
  rng : ∀ ms ∈ R, ∀ m ∈ ms, InR R.length m.2
/-- hidden reach -/
inductive Qt (hid : D → Bool) (R : Rw D) (i : Int) : Int → Prop where
  | refl : Qt hid R i i
  | step {j k : Int} {d : D} : Qt hid R i j → (d, k) ∈ row R j → hid d = true → Qt hid R i k
def Rep (hid : D → Bool) (R : Rw D) (i : Int) (d : D) (k : Int) : Prop := ∃ j, Qt hid R i j ∧ (d, k) ∈ row R j
theorem row_mem {R : Rw D} {i : Int} {m : D × Int} (h : m ∈ row R i) : ∃ ms ∈ R, m ∈ ms := by
  unfold row at h
  rw [List.getD_eq_getElem?_getD] at h
  cases e : R[i.toNat]? with
  | none => rw [e] at h; simp at h
  | some ms =>
    rw [e] at h
    exact ⟨ms, List.mem_of_getElem? e, h⟩
theorem Wf.move {R : Rw D} (w : Wf R) {i : Int} {m : D × Int} (h : m ∈ row R i) : InR R.length m.2 := by
  obtain ⟨ms, h1, h2⟩ := row_mem h
  exact w.rng ms h1 m h2
theorem Wf.rowNd {R : Rw D} (w : Wf R) (i : Int) : ((row R i).map (·.1)).Nodup := by
  unfold row
  rw [List.getD_eq_getElem?_getD]
  cases e : R[i.toNat]? with
  | none => simp
  | some ms => exact w.nd ms (List.mem_of_getElem? e)
theorem Wf.qt {R : Rw D} (w : Wf R) {i j : Int} (hi : InR R.length i) (h : Qt hid R i j) : InR R.length j := by
  cases h with
  | refl => exact hi
  | step _ hm _ => exact w.move hm
theorem Wf.rep {R : Rw D} (w : Wf R) {i k : Int} {d : D} (h : Rep hid R i d k) : InR R.length k := by
  obtain ⟨j, _, hm⟩ := h
  exact w.move hm
noncomputable def reps (hid : D → Bool) (R : Rw D) (i : Int) (d : D) : List Int :=
  ((List.range R.length).map Int.ofNat).filter fun k => decide (Rep hid R i d k)
theorem range_lt (n : Nat) : ((List.range n).map Int.ofNat).Pairwise (· < ·) := by
  rw [List.pairwise_map]
  refine List.Pairwise.imp (R := (· < ·)) ?_ List.pairwise_lt_range
  intro a b h
  exact Int.ofNat_lt.mpr h
theorem reps_sorted (R : Rw D) (i : Int) (d : D) : (reps hid R i d).Pairwise (· < ·) := List.Pairwise.filter _ (range_lt _)
theorem mem_range_int {n : Nat} {k : Int} : k ∈ (List.range n).map Int.ofNat ↔ InR n k := by
  constructor
  · intro h
    obtain ⟨a, h1, rfl⟩ := List.mem_map.mp h
    have := List.mem_range.mp h1
    exact ⟨Int.natCast_nonneg a, Int.ofNat_lt.mpr this⟩
  · intro ⟨h1, h2⟩
    refine List.mem_map.mpr ⟨k.toNat, List.mem_range.mpr (by omega), ?_⟩
    show ((k.toNat : Nat) : Int) = k
    omega
theorem mem_reps {R : Rw D} (w : Wf R) {i : Int} {d : D} {k : Int} : k ∈ reps hid R i d ↔ Rep hid R i d k := by
  unfold reps
  rw [List.mem_filter, mem_range_int]
  constructor
  · intro h; exact of_decide_eq_true h.2
  · intro h; exact ⟨w.rep h, decide_eq_true h⟩
theorem sorted_ext : ∀ {l m : List Int}, l.Pairwise (· < ·) → m.Pairwise (· < ·) → (∀ x, x ∈ l ↔ x ∈ m) → l = m
  | [], [], _, _, _ => rfl
  | [], b :: m, _, _, h => by have := (h b).mpr (List.mem_cons_self ..); cases this
  | a :: l, [], _, _, h => by have := (h a).mp (List.mem_cons_self ..); cases this
  | a :: l, b :: m, h1, h2, h => by
    obtain ⟨p1, p2⟩ := List.pairwise_cons.mp h1
    obtain ⟨q1, q2⟩ := List.pairwise_cons.mp h2
    have e : a = b := by
      rcases List.mem_cons.mp ((h a).mp (List.mem_cons_self ..)) with e | e
      · exact e
      · rcases List.mem_cons.mp ((h b).mpr (List.mem_cons_self ..)) with f | f
        · exact f.symm
        · have x1 := q1 a e
          have x2 := p1 b f
          omega
    subst e
    have ih := sorted_ext (l := l) (m := m) p2 q2 fun x => by
      constructor
      · intro hx
        rcases List.mem_cons.mp ((h x).mp (List.mem_cons_of_mem _ hx)) with e | e
        · have := p1 x hx; omega
        · exact e
      · intro hx
        rcases List.mem_cons.mp ((h x).mpr (List.mem_cons_of_mem _ hx)) with e | e
        · have := q1 x hx; omega
        · exact e
    rw [ih]
theorem reps_uniq {R : Rw D} (w : Wf R) {i : Int} {d : D} {l : List Int} (h1 : l.Pairwise (· < ·)) (h2 : ∀ k, k ∈ l ↔ Rep hid R i d k) : l = reps hid R i d :=
  sorted_ext h1 (reps_sorted R i d) fun x => (h2 x).trans (mem_reps w).symm
theorem lt_of_le_nodup : ∀ {l : List Int}, l.Pairwise (· ≤ ·) → l.Nodup → l.Pairwise (· < ·)
  | [], _, _ => .nil
  | a :: l, h, n => by
    obtain ⟨p1, p2⟩ := List.pairwise_cons.mp h
    obtain ⟨q1, q2⟩ := List.nodup_cons.mp n
    refine List.pairwise_cons.mpr ⟨fun b hb => ?_, lt_of_le_nodup p2 q2⟩
    have := p1 b hb
    have : a ≠ b := fun e => q1 (e ▸ hb)
    omega
/-- sorted(list of distinct replies) -/
theorem reps_sort {R : Rw D} (w : Wf R) {i : Int} {d : D} {l m : List Int} (hp : m.Perm l) (hs : m.Pairwise (· ≤ ·)) (hn : l.Nodup) (h2 : ∀ k, k ∈ l ↔ Rep hid R i d k) : m = reps hid R i d :=
  reps_uniq w (lt_of_le_nodup hs (hp.nodup_iff.mpr hn)) fun k => (hp.mem_iff).trans (h2 k)
/-! ### rows permuted -/
structure Alike (R S : Rw D) : Prop where
  len : R.length = S.length
  mem : ∀ i m, m ∈ row R i ↔ m ∈ row S i
theorem Alike.symm {R S : Rw D} (h : Alike R S) : Alike S R := ⟨h.len.symm, fun i m => (h.mem i m).symm⟩
theorem Alike.trans {R S T : Rw D} (h : Alike R S) (k : Alike S T) : Alike R T := ⟨h.len.trans k.len, fun i m => (h.mem i m).trans (k.mem i m)⟩
theorem Alike.qt1 {R S : Rw D} (h : Alike R S) {i j : Int} (q : Qt hid R i j) : Qt hid S i j := by
  induction q with
  | refl => exact .refl
  | step _ hm hd ih => exact .step ih ((h.mem _ _).mp hm) hd
theorem Alike.rep {R S : Rw D} (h : Alike R S) {i k : Int} {d : D} : Rep hid R i d k ↔ Rep hid S i d k := by
  constructor
  · intro ⟨j, q, m⟩; exact ⟨j, h.qt1 q, (h.mem _ _).mp m⟩
  · intro ⟨j, q, m⟩; exact ⟨j, h.symm.qt1 q, (h.mem _ _).mpr m⟩
theorem Alike.reps {R S : Rw D} (h : Alike R S) (i : Int) (d : D) : reps hid R i d = reps hid S i d := by
  unfold CM.reps
  rw [h.len]
  congr 1
  funext k
  exact decide_eq_decide.mpr h.rep
/-- row by row the same moves in another order -/
def PermRows : Rw D → Rw D → Prop
  | [], [] => True
  | a :: R, b :: S => a.Perm b ∧ PermRows R S
  | _, _ => False
theorem PermRows.len : ∀ {R S : Rw D}, PermRows R S → R.length = S.length
  | [], [], _ => rfl
  | _ :: _, _ :: _, h => congrArg (· + 1) (PermRows.len h.2)
  | [], _ :: _, h => h.elim
  | _ :: _, [], h => h.elim
theorem PermRows.at : ∀ {R S : Rw D}, PermRows R S → ∀ n : Nat, (R.getD n []).Perm (S.getD n [])
  | [], [], _, n => by simp
  | a :: R, b :: S, h, 0 => h.1
  | a :: R, b :: S, h, n + 1 => by simpa using PermRows.at h.2 n
  | [], _ :: _, h, _ => h.elim
  | _ :: _, [], h, _ => h.elim
theorem PermRows.alike {R S : Rw D} (h : PermRows R S) : Alike R S := ⟨h.len, fun i _ => (h.at i.toNat).mem_iff⟩
theorem PermRows.wf {R S : Rw D} (h : PermRows R S) (w : Wf R) : Wf S := by
  have key : ∀ ms ∈ S, ∃ ns ∈ R, ns.Perm ms := fun ms hm => by
    obtain ⟨i, hi, e⟩ := List.mem_iff_getElem.mp hm
    have hi' : i < R.length := by rw [h.len]; exact hi
    refine ⟨R[i], List.getElem_mem hi', ?_⟩
    have q := h.at i
    rw [List.getD_eq_getElem?_getD, List.getD_eq_getElem?_getD, List.getElem?_eq_getElem hi, List.getElem?_eq_getElem hi', e] at q
    exact q
  refine ⟨by rw [← h.len]; exact w.pos, fun ms hm => ?_, fun ms hm m hx => ?_⟩
  · obtain ⟨ns, h1, p⟩ := key ms hm
    exact (p.map (·.1)).nodup_iff.mp (w.nd ns h1)
  · obtain ⟨ns, h1, p⟩ := key ms hm
    rw [← h.len]
    exact w.rng ns h1 m (p.mem_iff.mpr hx)
theorem PermRows.symm : ∀ {R S : Rw D}, PermRows R S → PermRows S R
  | [], [], _ => trivial
  | _ :: _, _ :: _, h => ⟨h.1.symm, PermRows.symm h.2⟩
  | [], _ :: _, h => h.elim
  | _ :: _, [], h => h.elim
theorem PermRows.trans : ∀ {R S T : Rw D}, PermRows R S → PermRows S T → PermRows R T
  | [], [], [], _, _ => trivial
  | _ :: _, _ :: _, _ :: _, h, k => ⟨h.1.trans k.1, PermRows.trans h.2 k.2⟩
  | [], _ :: _, _, h, _ => h.elim
  | _ :: _, [], _, h, _ => h.elim
  | [], [], _ :: _, _, k => k.elim
  | _ :: _, _ :: _, [], _, k => k.elim
theorem PermRows.refl : ∀ R : Rw D, PermRows R R
  | [] => trivial
  | a :: R => ⟨.refl a, PermRows.refl R⟩
end
end CM
/-! Math 2: the search of the hidden steps; the replies gathered. -/
namespace CM
section
variable {D : Type} {hid : D → Bool}
/-- found so far, the first k of them looked through -/
structure Srch (hid : D → Bool) (R : Rw D) (at_ : Int) (fs : List Int) (k : Nat) : Prop where
  nd : fs.Nodup
  hd : at_ ∈ fs
  ok : ∀ f ∈ fs, Qt hid R at_ f
  cl : ∀ j f, j < k → fs[j]? = some f → ∀ d a, (d, a) ∈ row R f → hid d = true → a ∈ fs
theorem Srch.start (R : Rw D) (a : Int) : Srch hid R a [a] 0 :=
  ⟨by simp, by simp, fun f hf => by rw [List.mem_singleton.mp hf]; exact .refl, fun j f h => absurd h (Nat.not_lt_zero _)⟩
/-- within the k-th one's moves: the first i are looked at -/
structure SrchIn (hid : D → Bool) (R : Rw D) (at_ : Int) (fs : List Int) (k : Nat) (f : Int) (i : Nat) : Prop where
  s : Srch hid R at_ fs k
  here : fs[k]? = some f
  done : ∀ d a, (d, a) ∈ (row R f).take i → hid d = true → a ∈ fs
theorem Srch.inn {R : Rw D} {a f : Int} {fs : List Int} {k : Nat} (s : Srch hid R a fs k) (h : fs[k]? = some f) : SrchIn hid R a fs k f 0 :=
  ⟨s, h, fun d b hm => by simp at hm⟩
theorem take_succ_mem {α : Type} {l : List α} {i : Nat} {x y : α} (h : l[i]? = some x) (hy : y ∈ l.take (i + 1)) : y ∈ l.take i ∨ y = x := by
  rw [List.take_add_one, h] at hy
  rcases List.mem_append.mp hy with q | q
  · exact .inl q
  · exact .inr (by simpa using q)
theorem SrchIn.skip {R : Rw D} {a f : Int} {fs : List Int} {k i : Nat} {d : D} {b : Int} (s : SrchIn hid R a fs k f i) (h : (row R f)[i]? = some (d, b)) (hs : hid d = true → b ∈ fs) : SrchIn hid R a fs k f (i + 1) :=
  ⟨s.s, s.here, fun d' b' hm hd => by
    rcases take_succ_mem h hm with q | q
    · exact s.done d' b' q hd
    · obtain ⟨rfl, rfl⟩ := Prod.mk.inj q; exact hs hd⟩
theorem SrchIn.add {R : Rw D} {a f : Int} {fs : List Int} {k i : Nat} {d : D} {b : Int} (s : SrchIn hid R a fs k f i) (h : (row R f)[i]? = some (d, b)) (hd : hid d = true) (hb : b ∉ fs) : SrchIn hid R a (fs ++ [b]) k f (i + 1) := by
  have hk : k < fs.length := (List.getElem?_eq_some_iff.mp s.here).1
  have hm : (d, b) ∈ row R f := List.mem_of_getElem? h
  have hf : f ∈ fs := List.mem_of_getElem? s.here
  refine ⟨⟨?_, List.mem_append_left _ s.s.hd, fun g hg => ?_, fun j g hj hg d' b' hm' hd' => ?_⟩, ?_, fun d' b' hm' hd' => ?_⟩
  · refine List.nodup_append.mpr ⟨s.s.nd, by simp, fun x hx y hy e => ?_⟩
    have : y = b := by simpa using hy
    exact hb (by rw [← this, ← e]; exact hx)
  · rcases List.mem_append.mp hg with q | q
    · exact s.s.ok g q
    · have : g = b := by simpa using q
      rw [this]
      exact .step (s.s.ok f hf) hm hd
  · rw [List.getElem?_append_left (by omega)] at hg
    exact List.mem_append_left _ (s.s.cl j g hj hg d' b' hm' hd')
  · rw [List.getElem?_append_left hk]; exact s.here
  · rcases take_succ_mem h hm' with q | q
    · exact List.mem_append_left _ (s.done d' b' q hd')
    · obtain ⟨rfl, rfl⟩ := Prod.mk.inj q
      exact List.mem_append_right _ (by simp)
theorem SrchIn.out {R : Rw D} {a f : Int} {fs : List Int} {k i : Nat} (s : SrchIn hid R a fs k f i) (h : (row R f).length ≤ i) : Srch hid R a fs (k + 1) :=
  ⟨s.s.nd, s.s.hd, s.s.ok, fun j g hj hg d b hm hd => by
    by_cases e : j = k
    · subst e
      rw [s.here] at hg
      obtain rfl := Option.some.inj hg
      exact s.done d b (by rw [List.take_of_length_le h]; exact hm) hd
    · exact s.s.cl j g (by omega) hg d b hm hd⟩
theorem Srch.none {R : Rw D} {a : Int} {fs : List Int} {k : Nat} (s : Srch hid R a fs k) (h : fs.length ≤ k) : Srch hid R a fs (k + 1) :=
  ⟨s.nd, s.hd, s.ok, fun j g hj hg d b hm hd => by
    have := (List.getElem?_eq_some_iff.mp hg).1
    exact s.cl j g (by omega) hg d b hm hd⟩
theorem Srch.fin {R : Rw D} {a : Int} {fs : List Int} {k : Nat} (s : Srch hid R a fs k) (h : fs.length ≤ k) (f : Int) : f ∈ fs ↔ Qt hid R a f := by
  refine ⟨s.ok f, fun q => ?_⟩
  induction q with
  | refl => exact s.hd
  | step _ hm hd ih =>
    obtain ⟨j, hj, e⟩ := List.mem_iff_getElem.mp ih
    exact s.cl j _ (by omega) (by rw [List.getElem?_eq_getElem hj, e]) _ _ hm hd
/-- distinct things of m are at most as many as m -/
theorem nodup_sub {α : Type} [DecidableEq α] : ∀ {l m : List α}, l.Nodup → (∀ x ∈ l, x ∈ m) → l.length ≤ m.length
  | [], _, _, _ => Nat.zero_le _
  | a :: l, m, h, r => by
    obtain ⟨h1, h2⟩ := List.nodup_cons.mp h
    have ha : a ∈ m := r a (List.mem_cons_self ..)
    have ih := nodup_sub (l := l) (m := m.erase a) h2 fun x hx => by
      have hne : x ≠ a := fun e => h1 (e ▸ hx)
      exact (List.mem_erase_of_ne hne).mpr (r x (List.mem_cons_of_mem _ hx))
    rw [List.length_erase_of_mem ha] at ih
    have : 0 < m.length := List.length_pos_of_mem ha
    rw [List.length_cons]
    omega
/-- distinct numbers below n are at most n -/
theorem nodup_le {n : Nat} {l : List Int} (h : l.Nodup) (r : ∀ x ∈ l, InR n x) : l.length ≤ n := by
  have q := nodup_sub h fun x hx => mem_range_int.mpr (r x hx)
  simpa using q
theorem Srch.le {R : Rw D} (w : Wf R) {a : Int} (ha : InR R.length a) {fs : List Int} {k : Nat} (s : Srch hid R a fs k) : fs.length ≤ R.length :=
  nodup_le s.nd fun x hx => w.qt ha (s.ok x hx)
theorem Srch.rng {R : Rw D} (w : Wf R) {a : Int} (ha : InR R.length a) {fs : List Int} {k : Nat} (s : Srch hid R a fs k) : ∀ x ∈ fs, InR R.length x := fun x hx => w.qt ha (s.ok x hx)
/-! ### the replies gathered: of the first i places, and of the next place's first j moves -/
structure Gath (R : Rw D) (qs : List Int) (d : D) (out : List Int) (i j : Nat) : Prop where
  nd : out.Nodup
  mem : ∀ k, k ∈ out ↔ (∃ f ∈ qs.take i, (d, k) ∈ row R f) ∨ (∃ f, qs[i]? = some f ∧ (d, k) ∈ (row R f).take j)
theorem Gath.start (R : Rw D) (qs : List Int) (d : D) : Gath R qs d [] 0 0 := ⟨by simp, fun k => by simp⟩
theorem Gath.next {R : Rw D} {qs : List Int} {d : D} {out : List Int} {i j : Nat} {f : Int} (g : Gath R qs d out i j) (h : qs[i]? = some f) (hj : (row R f).length ≤ j) : Gath R qs d out (i + 1) 0 :=
  ⟨g.nd, fun k => by
    rw [g.mem k]
    constructor
    · rintro (⟨x, h1, h2⟩ | ⟨x, h1, h2⟩)
      · exact .inl ⟨x, by rw [List.take_add_one]; exact List.mem_append_left _ h1, h2⟩
      · rw [h] at h1
        obtain rfl := Option.some.inj h1
        exact .inl ⟨f, by rw [List.take_add_one, h]; exact List.mem_append_right _ (by simp), List.mem_of_mem_take h2⟩
    · rintro (⟨x, h1, h2⟩ | ⟨x, h1, h2⟩)
      · rcases take_succ_mem h h1 with q | q
        · exact .inl ⟨x, q, h2⟩
        · subst q
          exact .inr ⟨x, h, by rw [List.take_of_length_le hj]; exact h2⟩
      · simp at h2⟩
theorem Gath.skip {R : Rw D} {qs : List Int} {d : D} {out : List Int} {i j : Nat} {f : Int} {m : D × Int} (g : Gath R qs d out i j) (h : qs[i]? = some f) (hm : (row R f)[j]? = some m) (hs : m.1 = d → m.2 ∈ out) : Gath R qs d out i (j + 1) :=
  ⟨g.nd, fun k => by
    constructor
    · intro hk
      rcases (g.mem k).mp hk with q | ⟨x, h1, h2⟩
      · exact .inl q
      · exact .inr ⟨x, h1, by rw [List.take_add_one]; exact List.mem_append_left _ h2⟩
    · rintro (q | ⟨x, h1, h2⟩)
      · exact (g.mem k).mpr (.inl q)
      · rw [h] at h1
        obtain rfl := Option.some.inj h1
        rcases take_succ_mem hm h2 with q | q
        · exact (g.mem k).mpr (.inr ⟨f, h, q⟩)
        · rw [← q] at hs
          exact hs rfl⟩
theorem Gath.add {R : Rw D} {qs : List Int} {d : D} {out : List Int} {i j : Nat} {f : Int} {m : D × Int} (g : Gath R qs d out i j) (h : qs[i]? = some f) (hm : (row R f)[j]? = some m) (hd : m.1 = d) (hn : m.2 ∉ out) : Gath R qs d (out ++ [m.2]) i (j + 1) :=
  ⟨List.nodup_append.mpr ⟨g.nd, by simp, fun x hx y hy e => by
    have : y = m.2 := by simpa using hy
    exact hn (by rw [← this, ← e]; exact hx)⟩, fun k => by
    constructor
    · intro hk
      rcases List.mem_append.mp hk with hk | hk
      · rcases (g.mem k).mp hk with q | ⟨x, h1, h2⟩
        · exact .inl q
        · exact .inr ⟨x, h1, by rw [List.take_add_one]; exact List.mem_append_left _ h2⟩
      · have : k = m.2 := by simpa using hk
        subst this
        refine .inr ⟨f, h, ?_⟩
        rw [List.take_add_one, hm]
        exact List.mem_append_right _ (by simp [← hd])
    · rintro (q | ⟨x, h1, h2⟩)
      · exact List.mem_append_left _ ((g.mem k).mpr (.inl q))
      · rw [h] at h1
        obtain rfl := Option.some.inj h1
        rcases take_succ_mem hm h2 with q | q
        · exact List.mem_append_left _ ((g.mem k).mpr (.inr ⟨f, h, q⟩))
        · exact List.mem_append_right _ (by rw [← q]; simp)⟩
theorem Gath.fin {R : Rw D} {a : Int} {qs : List Int} {d : D} {out : List Int} {i : Nat} (g : Gath R qs d out i 0) (hi : qs.length ≤ i) (hq : ∀ f, f ∈ qs ↔ Qt hid R a f) (k : Int) : k ∈ out ↔ Rep hid R a d k := by
  rw [g.mem k]
  constructor
  · rintro (⟨x, h1, h2⟩ | ⟨x, h1, h2⟩)
    · exact ⟨x, (hq x).mp (List.mem_of_mem_take h1), h2⟩
    · simp at h2
  · rintro ⟨x, h1, h2⟩
    exact .inl ⟨x, by rw [List.take_of_length_le hi]; exact (hq x).mpr h1, h2⟩
end
end CM
/-! Math 3: the rounds. -/
namespace CM
section
variable {P : Type} [DecidableEq P]
/-- what the searches yield: pairs qs, the lists of pairs that their moves lead to -/
structure Leads (qs : List P) (rows : P → List (List P)) : Prop where
  nd : qs.Nodup
  cl : ∀ p ∈ qs, ∀ r ∈ rows p, ∀ q ∈ r, q ∈ qs
/-! ### the entries: (reached, (pair, index)) -/
abbrev En (P : Type) := P × P × Nat
def entR (p : P) (i : Nat) (r : List P) : List (En P) := r.map fun q => (q, (p, i))
def entF (p : P) : Nat → List (List P) → List (En P)
  | _, [] => []
  | i, r :: rs => entR p i r ++ entF p (i + 1) rs
def entP (rows : P → List (List P)) (p : P) : List (En P) := entF p 0 (rows p)
def entA (rows : P → List (List P)) (qs : List P) : List (En P) := qs.flatMap (entP rows)
theorem entF_snoc (p : P) (i : Nat) (rs : List (List P)) (r : List P) : entF p i (rs ++ [r]) = entF p i rs ++ entR p (i + rs.length) r := by
  induction rs generalizing i with
  | nil => simp [entF]
  | cons a rs ih =>
    show entR p i a ++ entF p (i + 1) (rs ++ [r]) = (entR p i a ++ entF p (i + 1) rs) ++ entR p (i + (rs.length + 1)) r
    rw [ih, List.append_assoc, show i + 1 + rs.length = i + (rs.length + 1) by omega]
theorem entA_snoc (rows : P → List (List P)) (qs : List P) (p : P) : entA rows (qs ++ [p]) = entA rows qs ++ entP rows p := by
  simp [entA]
def alf (E : List (En P)) (q : P) : List (P × Nat) := (E.filter fun e => decide (e.1 = q)).map (·.2)
theorem alf_snoc (E : List (En P)) (q0 : P) (x : P × Nat) (q : P) : alf (E ++ [(q0, x)]) q = if q = q0 then alf E q ++ [x] else alf E q := by
  unfold alf
  rw [List.filter_append, List.map_append]
  by_cases h : q = q0
  · rw [if_pos h]; simp [h]
  · rw [if_neg h]
    have : ¬ q0 = q := fun e => h e.symm
    simp [this]
theorem alf_len (E : List (En P)) (q : P) : (alf E q).length ≤ E.length := by
  unfold alf; rw [List.length_map]; exact List.length_filter_le ..
theorem entR_len (p : P) (i : Nat) (r : List P) : (entR p i r).length = r.length := by simp [entR]
theorem alf_mem {rows : P → List (List P)} {qs : List P} {q : P} {x : P × Nat} (h : x ∈ alf (entA rows qs) q) : x.1 ∈ qs ∧ ∃ r, (rows x.1)[x.2]? = some r ∧ q ∈ r := by
  unfold alf at h
  obtain ⟨e, h1, h2⟩ := List.mem_map.mp h
  obtain ⟨h3, h4⟩ := List.mem_filter.mp h1
  have h5 : e.1 = q := of_decide_eq_true h4
  unfold entA at h3
  obtain ⟨p, hp, h6⟩ := List.mem_flatMap.mp h3
  have key : ∀ (rs : List (List P)) (i : Nat), e ∈ entF p i rs → e.2.1 = p ∧ i ≤ e.2.2 ∧ ∃ r, rs[e.2.2 - i]? = some r ∧ e.1 ∈ r := by
    intro rs
    induction rs with
    | nil => intro i h; cases h
    | cons r rs ih =>
      intro i h
      rcases List.mem_append.mp (show e ∈ entR p i r ++ entF p (i + 1) rs from h) with h | h
      · obtain ⟨z, hz, e1⟩ := List.mem_map.mp h
        subst e1
        exact ⟨rfl, Nat.le_refl _, r, by simp, hz⟩
      · obtain ⟨a, b, r', c, d⟩ := ih (i + 1) h
        refine ⟨a, by omega, r', ?_, d⟩
        rw [show e.2.2 - i = (e.2.2 - (i + 1)) + 1 by omega]
        simpa using c
  obtain ⟨a, _, r, c, d⟩ := key (rows p) 0 h6
  subst h2
  rw [h5] at d
  refine ⟨by rw [a]; exact hp, r, by rw [a]; simpa using c, d⟩
/-- the entries of the lists of fl that are x -/
theorem count_alf (E : List (En P)) (x : P × Nat) : ∀ {fl : List P}, fl.Nodup → (fl.flatMap (alf E)).count x = E.countP fun e => decide (e.2 = x) && decide (e.1 ∈ fl)
  | [], _ => by simp
  | q :: fl, h => by
    obtain ⟨h1, h2⟩ := List.nodup_cons.mp h
    have ih := count_alf E x h2
    rw [List.flatMap_cons, List.count_append, ih]
    have e1 : (alf E q).count x = E.countP fun e => decide (e.2 = x) && decide (e.1 = q) := by
      unfold alf
      rw [List.count_eq_countP, List.countP_map, List.countP_filter]
      congr 1
      funext e
      have : (e.2 == x) = decide (e.2 = x) := by
        by_cases h : e.2 = x
        · rw [h]; simp
        · rw [decide_eq_false h]; exact beq_eq_false_iff_ne.mpr h
      simp [Function.comp, this]
    rw [e1]
    clear ih e1 h
    induction E with
    | nil => simp
    | cons e E ihE =>
      rw [List.countP_cons, List.countP_cons, List.countP_cons, ← ihE]
      by_cases hx : e.2 = x
      · by_cases hq : e.1 = q
        · have : ¬ e.1 ∈ fl := by rw [hq]; exact h1
          simp [hx, hq, h1]
          omega
        · by_cases hf : e.1 ∈ fl
          · simp [hx, hq, hf]; omega
          · simp [hx, hq, hf]
      · simp [hx]
theorem countP_entR_ne (p p' : P) (i i' : Nat) (r : List P) (f : P → Bool) (h : ¬ (p', i') = (p, i)) : (entR p' i' r).countP (fun e => decide (e.2 = (p, i)) && f e.1) = 0 := by
  rw [List.countP_eq_zero]
  intro e he
  obtain ⟨z, _, rfl⟩ := List.mem_map.mp he
  simp [h]
theorem countP_entR_eq (p : P) (i : Nat) (r : List P) (f : P → Bool) : (entR p i r).countP (fun e => decide (e.2 = (p, i)) && f e.1) = r.countP f := by
  unfold entR
  rw [List.countP_map]
  congr 1
  funext z
  simp [Function.comp]
theorem countP_entF (p : P) (f : P → Bool) : ∀ (rs : List (List P)) (k i : Nat) (r : List P), rs[i]? = some r → (entF p k rs).countP (fun e => decide (e.2 = (p, k + i)) && f e.1) = r.countP f := by
  have zero : ∀ (rs : List (List P)) (k j : Nat), j < k → (entF p k rs).countP (fun e => decide (e.2 = (p, j)) && f e.1) = 0 := by
    intro rs
    induction rs with
    | nil => intro k j _; rfl
    | cons r rs ih =>
      intro k j hj
      show (entR p k r ++ entF p (k + 1) rs).countP _ = 0
      rw [List.countP_append, ih (k + 1) j (by omega), countP_entR_ne _ _ _ _ _ _ (by intro e; injection e with _ e2; omega)]
  intro rs
  induction rs with
  | nil => intro k i r h; simp at h
  | cons r0 rs ih =>
    intro k i r h
    show (entR p k r0 ++ entF p (k + 1) rs).countP _ = _
    rw [List.countP_append]
    cases i with
    | zero =>
      have : r0 = r := by simpa using h
      subst this
      rw [Nat.add_zero, countP_entR_eq, zero rs (k + 1) k (by omega), Nat.add_zero]
    | succ i =>
      have q := ih (k + 1) i r (by simpa using h)
      rw [show k + (i + 1) = k + 1 + i by omega, q, countP_entR_ne _ _ _ _ _ _ (by intro e; injection e with _ e2; omega), Nat.zero_add]
theorem countP_entP_ne (rows : P → List (List P)) (p p' : P) (i : Nat) (f : P → Bool) (h : p' ≠ p) : (entP rows p').countP (fun e => decide (e.2 = (p, i)) && f e.1) = 0 := by
  have key : ∀ (rs : List (List P)) (k : Nat), (entF p' k rs).countP (fun e => decide (e.2 = (p, i)) && f e.1) = 0 := by
    intro rs
    induction rs with
    | nil => intro k; rfl
    | cons r rs ih =>
      intro k
      show (entR p' k r ++ entF p' (k + 1) rs).countP _ = 0
      rw [List.countP_append, ih (k + 1), countP_entR_ne _ _ _ _ _ _ (by intro e; injection e with e1 _; exact h e1)]
  exact key _ _
theorem countP_entA (rows : P → List (List P)) (f : P → Bool) {p : P} {i : Nat} {r : List P} (hr : (rows p)[i]? = some r) : ∀ {qs : List P}, qs.Nodup → p ∈ qs → (entA rows qs).countP (fun e => decide (e.2 = (p, i)) && f e.1) = r.countP f
  | [], _, h => by cases h
  | q :: qs, nd, h => by
    obtain ⟨h1, h2⟩ := List.nodup_cons.mp nd
    show (entP rows q ++ entA rows qs).countP _ = _
    rw [List.countP_append]
    by_cases e : q = p
    · subst e
      have z : (entA rows qs).countP (fun e => decide (e.2 = (q, i)) && f e.1) = 0 := by
        unfold entA
        clear h nd h2
        induction qs with
        | nil => rfl
        | cons a qs ih =>
          have : a ≠ q := fun e => h1 (by rw [e]; exact List.mem_cons_self ..)
          rw [List.flatMap_cons, List.countP_append, countP_entP_ne rows q a i f this, ih fun hm => h1 (List.mem_cons_of_mem _ hm)]
      rw [z, Nat.add_zero]
      have := countP_entF q f (rows q) 0 i r hr
      rw [Nat.zero_add] at this
      exact this
    · rw [countP_entP_ne rows p q i f e, Nat.zero_add]
      exact countP_entA rows f hr h2 ((List.mem_cons.mp h).resolve_left fun z => e z.symm)
/-! ### the rounds -/
structure Rnd (qs : List P) (rows : P → List (List P)) (ρ : P → Int) (n : Int) (fl : List P) : Prop where
  n1 : 1 ≤ n
  nn : ∀ p ∈ qs, 0 ≤ ρ p ∧ ρ p < n
  fall : ∀ p ∈ qs, 0 < ρ p → ∃ r ∈ rows p, ∀ q ∈ r, 0 < ρ q ∧ ρ q < ρ p
  fnd : fl.Nodup
  fq : ∀ p ∈ fl, p ∈ qs
  f0 : ∀ p ∈ fl, ρ p = 0
  ff : ∀ p ∈ fl, ∃ r ∈ rows p, ∀ q ∈ r, 0 < ρ q
  bnd : n ≤ 1 + ((qs.countP fun p => decide (0 < ρ p) : Nat) : Int)
/-- what is left of a row -/
def Lft (qs : List P) (rows : P → List (List P)) (ρ : P → Int) (lf : P × Nat → Int) : Prop := ∀ p ∈ qs, ∀ i r, (rows p)[i]? = some r → lf (p, i) = ((r.countP fun q => decide (ρ q = 0) : Nat) : Int)
def fail0 (qs : List P) (rows : P → List (List P)) : List P := qs.filter fun p => decide ([] ∈ rows p)
theorem Rnd.start {qs : List P} {rows : P → List (List P)} (L : Leads qs rows) : Rnd qs rows (fun _ => 0) 1 (fail0 qs rows) where
  n1 := Int.le_refl _
  nn := fun p _ => ⟨Int.le_refl _, by decide⟩
  fall := fun p _ h => absurd h (by decide)
  fnd := L.nd.filter _
  fq := fun p h => (List.mem_filter.mp h).1
  f0 := fun p _ => rfl
  ff := fun p h => ⟨[], of_decide_eq_true (List.mem_filter.mp h).2, fun q hq => by cases hq⟩
  bnd := by omega
theorem Lft.start (qs : List P) (rows : P → List (List P)) {lf : P × Nat → Int} (h : ∀ p ∈ qs, ∀ i r, (rows p)[i]? = some r → lf (p, i) = (r.length : Int)) : Lft qs rows (fun _ => 0) lf := fun p hp i r hr => by
  rw [h p hp i r hr]
  congr 1
  rw [List.countP_eq_length.mpr]
  intro a _
  simp
def told (ρ : P → Int) (n : Int) (fl : List P) : P → Int := fun p => if p ∈ fl then n else ρ p
theorem told_pos {qs : List P} {rows : P → List (List P)} {ρ : P → Int} {n : Int} {fl : List P} (R : Rnd qs rows ρ n fl) {p : P} (hp : p ∈ qs) : 0 < told ρ n fl p ↔ 0 < ρ p ∨ p ∈ fl := by
  unfold told
  have := R.n1
  by_cases h : p ∈ fl
  · rw [if_pos h]
    exact ⟨fun _ => .inr h, fun _ => by omega⟩
  · rw [if_neg h]
    exact ⟨fun q => .inl q, fun q => q.resolve_right h⟩
theorem told_zero {qs : List P} {rows : P → List (List P)} {ρ : P → Int} {n : Int} {fl : List P} (R : Rnd qs rows ρ n fl) {p : P} : told ρ n fl p = 0 ↔ ρ p = 0 ∧ p ∉ fl := by
  unfold told
  have := R.n1
  by_cases h : p ∈ fl
  · rw [if_pos h]
    exact ⟨fun e => by omega, fun e => absurd h e.2⟩
  · rw [if_neg h]
    exact ⟨fun e => ⟨e, h⟩, fun e => e.1⟩
/-- the counting down of the lists above fl -/
structure Dwn (qs : List P) (rows : P → List (List P)) (ρ : P → Int) (lf0 : P × Nat → Int) (L : List (P × Nat)) (lf : P × Nat → Int) (lt : List P) : Prop where
  val : ∀ x, lf x = lf0 x - (L.count x : Int)
  nd : lt.Nodup
  mem : ∀ p ∈ lt, p ∈ qs ∧ ρ p = 0 ∧ ∃ i r, (rows p)[i]? = some r ∧ lf (p, i) ≤ 0
theorem Dwn.start (qs : List P) (rows : P → List (List P)) (ρ : P → Int) (lf : P × Nat → Int) : Dwn qs rows ρ lf [] lf [] :=
  ⟨fun x => by simp, by simp, fun p h => by cases h⟩
def fput {α β : Type} [DecidableEq α] (f : α → β) (k : α) (v : β) : α → β := fun x => if x = k then v else f x
theorem fput_same {α β : Type} [DecidableEq α] (f : α → β) (k : α) (v : β) : fput f k v k = v := if_pos rfl
theorem fput_ne {α β : Type} [DecidableEq α] {f : α → β} {k x : α} {v : β} (h : x ≠ k) : fput f k v x = f x := if_neg h
theorem Dwn.step {qs : List P} {rows : P → List (List P)} {ρ : P → Int} {lf0 lf : P × Nat → Int} {L : List (P × Nat)} {lt : List P} (d : Dwn qs rows ρ lf0 L lf lt) (x : P × Nat) : Dwn qs rows ρ lf0 (L ++ [x]) (fput lf x (lf x - 1)) lt where
  val := fun y => by
    rw [List.count_append]
    by_cases e : y = x
    · subst e
      rw [fput_same, d.val y]
      have : List.count y [y] = 1 := by simp
      omega
    · rw [fput_ne e, d.val y]
      have : List.count y [x] = 0 := List.count_eq_zero_of_not_mem (by simpa using e)
      omega
  nd := d.nd
  mem := fun p hp => by
    obtain ⟨h1, h2, i, r, h3, h4⟩ := d.mem p hp
    refine ⟨h1, h2, i, r, h3, ?_⟩
    by_cases e : (p, i) = x
    · rw [← e, fput_same]; omega
    · rw [fput_ne e]; exact h4
theorem Dwn.put {qs : List P} {rows : P → List (List P)} {ρ : P → Int} {lf0 lf : P × Nat → Int} {L : List (P × Nat)} {lt : List P} (d : Dwn qs rows ρ lf0 L lf lt) {p : P} {i : Nat} {r : List P} (hp : p ∈ qs) (hr : (rows p)[i]? = some r) (h0 : ρ p = 0) (hl : lf (p, i) = 0) (hn : p ∉ lt) : Dwn qs rows ρ lf0 L lf (lt ++ [p]) where
  val := d.val
  nd := List.nodup_append.mpr ⟨d.nd, by simp, fun x hx y hy e => by
    have : y = p := by simpa using hy
    exact hn (by rw [← this, ← e]; exact hx)⟩
  mem := fun q hq => by
    rcases List.mem_append.mp hq with h | h
    · exact d.mem q h
    · have : q = p := by simpa using h
      subst this
      exact ⟨hp, h0, i, r, hr, by omega⟩
/-- a round -/
theorem Rnd.next {qs : List P} {rows : P → List (List P)} {ρ : P → Int} {n : Int} {fl lt : List P} {lf0 lf : P × Nat → Int} (L : Leads qs rows) (R : Rnd qs rows ρ n fl) (l0 : Lft qs rows ρ lf0) (hne : fl ≠ [])
    (d : Dwn qs rows (told ρ n fl) lf0 (fl.flatMap (alf (entA rows qs))) lf lt) : Rnd qs rows (told ρ n fl) (n + 1) lt ∧ Lft qs rows (told ρ n fl) lf := by
  have lf1 : Lft qs rows (told ρ n fl) lf := fun p hp i r hr => by
    rw [d.val, l0 p hp i r hr, count_alf _ _ R.fnd, countP_entA rows (fun q => decide (q ∈ fl)) hr L.nd hp]
    have hcl : ∀ q ∈ r, q ∈ qs := L.cl p hp r (List.mem_of_getElem? hr)
    clear hr hcl
    induction r with
    | nil => rfl
    | cons q r ih =>
      rw [List.countP_cons, List.countP_cons, List.countP_cons]
      by_cases h1 : q ∈ fl
      · have h2 : ρ q = 0 := R.f0 q h1
        have h3 : ¬ told ρ n fl q = 0 := fun e => ((told_zero R).mp e).2 h1
        simp only [h1, h2, h3, decide_true, decide_false, if_true, if_false, Bool.false_eq_true]
        omega
      · by_cases h2 : ρ q = 0
        · have h3 : told ρ n fl q = 0 := (told_zero R).mpr ⟨h2, h1⟩
          simp only [h1, h2, h3, decide_true, decide_false, if_true, if_false, Bool.false_eq_true]
          omega
        · have h3 : ¬ told ρ n fl q = 0 := fun e => h2 ((told_zero R).mp e).1
          simp only [h1, h2, h3, decide_true, decide_false, if_true, if_false, Bool.false_eq_true]
          omega
  have n1 := R.n1
  refine ⟨⟨by omega, fun p hp => ?_, fun p hp h => ?_, d.nd, fun p hp => (d.mem p hp).1, fun p hp => (d.mem p hp).2.1, fun p hp => ?_, ?_⟩, lf1⟩
  · have := R.nn p hp
    unfold told
    by_cases h : p ∈ fl
    · rw [if_pos h]; omega
    · rw [if_neg h]; omega
  · by_cases hf : p ∈ fl
    · obtain ⟨r, h1, h2⟩ := R.ff p hf
      refine ⟨r, h1, fun q hq => ?_⟩
      have hq0 := h2 q hq
      have hqs := L.cl p hp r h1 q hq
      have hnf : q ∉ fl := fun z => by have := R.f0 q z; omega
      have e1 : told ρ n fl q = ρ q := if_neg hnf
      have e2 : told ρ n fl p = n := if_pos hf
      rw [e1, e2]
      exact ⟨hq0, (R.nn q hqs).2⟩
    · have e2 : told ρ n fl p = ρ p := if_neg hf
      rw [e2] at h ⊢
      obtain ⟨r, h1, h2⟩ := R.fall p hp h
      refine ⟨r, h1, fun q hq => ?_⟩
      obtain ⟨a, b⟩ := h2 q hq
      have hnf : q ∉ fl := fun z => by have := R.f0 q z; omega
      have e1 : told ρ n fl q = ρ q := if_neg hnf
      rw [e1]
      exact ⟨a, b⟩
  · obtain ⟨hq, h0, i, r, hr, hle⟩ := d.mem p hp
    refine ⟨r, List.mem_of_getElem? hr, fun q hqr => ?_⟩
    have e := lf1 p hq i r hr
    have hz : r.countP (fun q => decide (told ρ n fl q = 0)) = 0 := by omega
    have hq0 := List.countP_eq_zero.mp hz q hqr
    have hqs := L.cl p hq r (List.mem_of_getElem? hr) q hqr
    have hnz : ¬ told ρ n fl q = 0 := fun z => hq0 (decide_eq_true z)
    have hnn := R.nn q hqs
    unfold told at hnz ⊢
    by_cases h : q ∈ fl
    · rw [if_pos h]; omega
    · rw [if_neg h] at hnz ⊢; omega
  · have key : (qs.countP fun p => decide (0 < ρ p)) + 1 ≤ qs.countP fun p => decide (0 < told ρ n fl p) := by
      obtain ⟨p0, hp0⟩ := List.exists_mem_of_ne_nil fl hne
      have hq0 := R.fq p0 hp0
      have hz := R.f0 p0 hp0
      have mono : ∀ l : List P, (∀ p ∈ l, p ∈ qs) → (l.countP fun p => decide (0 < ρ p)) ≤ l.countP fun p => decide (0 < told ρ n fl p) := fun l hl =>
        List.countP_mono_left fun p hp h => decide_eq_true ((told_pos R (hl p hp)).mpr (.inl (of_decide_eq_true h)))
      obtain ⟨s, t, e⟩ := List.append_of_mem hq0
      have hs := mono s fun p hp => by rw [e]; exact List.mem_append_left _ hp
      have ht := mono t fun p hp => by rw [e]; exact List.mem_append_right _ (List.mem_cons_of_mem _ hp)
      have h1 : (qs.countP fun p => decide (0 < ρ p)) = (s.countP fun p => decide (0 < ρ p)) + (t.countP fun p => decide (0 < ρ p)) := by
        rw [e, List.countP_append, List.countP_cons]
        simp [hz]
      have h2 : (qs.countP fun p => decide (0 < told ρ n fl p)) = (s.countP fun p => decide (0 < told ρ n fl p)) + (t.countP fun p => decide (0 < told ρ n fl p)) + 1 := by
        have hpos : 0 < told ρ n fl p0 := (told_pos R hq0).mpr (.inr hp0)
        conv => lhs; rw [e]
        rw [List.countP_append, List.countP_cons]
        simp [hpos]
        omega
      omega
    have := R.bnd
    omega
/-- how many are left -/
def zer (qs : List P) (ρ : P → Int) : Nat := qs.countP fun p => decide (ρ p = 0)
theorem zer_lt {qs : List P} {rows : P → List (List P)} {ρ : P → Int} {n : Int} {fl : List P} (R : Rnd qs rows ρ n fl) (hne : fl ≠ []) : zer qs (told ρ n fl) < zer qs ρ := by
  obtain ⟨p0, hp0⟩ := List.exists_mem_of_ne_nil fl hne
  have hq0 := R.fq p0 hp0
  have hz := R.f0 p0 hp0
  unfold zer
  have mono : ∀ l : List P, (l.countP fun p => decide (told ρ n fl p = 0)) ≤ l.countP fun p => decide (ρ p = 0) := fun l =>
    List.countP_mono_left fun p _ h => decide_eq_true ((told_zero R).mp (of_decide_eq_true h)).1
  obtain ⟨s, t, e⟩ := List.append_of_mem hq0
  have hs := mono s
  have ht := mono t
  have hnz : ¬ told ρ n fl p0 = 0 := fun z => ((told_zero R).mp z).2 hp0
  rw [e, List.countP_append, List.countP_append, List.countP_cons, List.countP_cons]
  simp only [hz, hnz, decide_true, decide_false, if_true, if_false, Bool.false_eq_true]
  omega
theorem Rnd.le {qs : List P} {rows : P → List (List P)} {ρ : P → Int} {n : Int} {fl : List P} (R : Rnd qs rows ρ n fl) {p : P} (hp : p ∈ qs) : ρ p ≤ (qs.length : Int) := by
  have h1 := (R.nn p hp).2
  have h2 := R.bnd
  have h3 : (qs.countP fun p => decide (0 < ρ p)) ≤ qs.length := List.countP_le_length
  omega
end
end CM
/-! What the top has written; defs and promises. Printed by gen_base.py. -/
namespace Ct
open PySem PySem.Spec PyProof.Rows L2 Nd
/-- a def of the text, at its name -/
structure TF (K : PySem.W.Frag) (x : Str) (st : Stmt) : Prop where
  ex : ∃ fd, Fun K x x st (He.ga K x) fd
/-- a def of a class, at f -/
structure TM (K : PySem.W.Frag) (x q : Str) (st : Stmt) (f : Addr) : Prop where
  ex : ∃ fd, Fun K x q st f fd
structure Tx (K : PySem.W.Frag) (mg : Str → Option Value) : Prop where
  f_ValueError : mg "ValueError" = none
  f_abs : mg "abs" = none
  f_bool : mg "bool" = none
  f_enumerate : mg "enumerate" = none
  f_int : mg "int" = none
  f_isinstance : mg "isinstance" = none
  f_len : mg "len" = none
  f_list : mg "list" = none
  f_min : mg "min" = none
  f_range : mg "range" = none
  f_sorted : mg "sorted" = none
  f_str : mg "str" = none
  f_super : mg "super" = none
  f_tuple : mg "tuple" = none
  g_is_name : mg "is_name" = some (.ref (He.ga K "is_name"))
  k_is_name : PySem.W.keepIn K (.ref (He.ga K "is_name")) = true
  g_is_whole : mg "is_whole" = some (.ref (He.ga K "is_whole"))
  k_is_whole : PySem.W.keepIn K (.ref (He.ga K "is_whole")) = true
  g_is_number : mg "is_number" = some (.ref (He.ga K "is_number"))
  k_is_number : PySem.W.keepIn K (.ref (He.ga K "is_number")) = true
  g_replies_of : mg "replies_of" = some (.ref (He.ga K "replies_of"))
  k_replies_of : PySem.W.keepIn K (.ref (He.ga K "replies_of")) = true
  g_led_from : mg "led_from" = some (.ref (He.ga K "led_from"))
  k_led_from : PySem.W.keepIn K (.ref (He.ga K "led_from")) = true
  g_rounds_of : mg "rounds_of" = some (.ref (He.ga K "rounds_of"))
  k_rounds_of : PySem.W.keepIn K (.ref (He.ga K "rounds_of")) = true
  g_sets_of : mg "sets_of" = some (.ref (He.ga K "sets_of"))
  k_sets_of : PySem.W.keepIn K (.ref (He.ga K "sets_of")) = true
  g_union_of : mg "union_of" = some (.ref (He.ga K "union_of"))
  k_union_of : PySem.W.keepIn K (.ref (He.ga K "union_of")) = true
  g_is_deed : mg "is_deed" = some (.ref (He.ga K "is_deed"))
  k_is_deed : PySem.W.keepIn K (.ref (He.ga K "is_deed")) = true
  g_is_move : mg "is_move" = some (.ref (He.ga K "is_move"))
  k_is_move : PySem.W.keepIn K (.ref (He.ga K "is_move")) = true
  g__law_cell : mg "_law_cell" = some (.ref (He.ga K "_law_cell"))
  k__law_cell : PySem.W.keepIn K (.ref (He.ga K "_law_cell")) = true
  g__law_draws : mg "_law_draws" = some (.ref (He.ga K "_law_draws"))
  k__law_draws : PySem.W.keepIn K (.ref (He.ga K "_law_draws")) = true
  g__law_menu : mg "_law_menu" = some (.ref (He.ga K "_law_menu"))
  k__law_menu : PySem.W.keepIn K (.ref (He.ga K "_law_menu")) = true
  g__law_free : mg "_law_free" = some (.ref (He.ga K "_law_free"))
  k__law_free : PySem.W.keepIn K (.ref (He.ga K "_law_free")) = true
  g__law_quiet : mg "_law_quiet" = some (.ref (He.ga K "_law_quiet"))
  k__law_quiet : PySem.W.keepIn K (.ref (He.ga K "_law_quiet")) = true
  g__law_replies : mg "_law_replies" = some (.ref (He.ga K "_law_replies"))
  k__law_replies : PySem.W.keepIn K (.ref (He.ga K "_law_replies")) = true
  g__law_same : mg "_law_same" = some (.ref (He.ga K "_law_same"))
  k__law_same : PySem.W.keepIn K (.ref (He.ga K "_law_same")) = true
  g__law_copy : mg "_law_copy" = some (.ref (He.ga K "_law_copy"))
  k__law_copy : PySem.W.keepIn K (.ref (He.ga K "_law_copy")) = true
  g__law_turned : mg "_law_turned" = some (.ref (He.ga K "_law_turned"))
  k__law_turned : PySem.W.keepIn K (.ref (He.ga K "_law_turned")) = true
  g__law_table : mg "_law_table" = some (.ref (He.ga K "_law_table"))
  k__law_table : PySem.W.keepIn K (.ref (He.ga K "_law_table")) = true
  g__law_union : mg "_law_union" = some (.ref (He.ga K "_law_union"))
  k__law_union : PySem.W.keepIn K (.ref (He.ga K "_law_union")) = true
  g__law_options : mg "_law_options" = some (.ref (He.ga K "_law_options"))
  k__law_options : PySem.W.keepIn K (.ref (He.ga K "_law_options")) = true
  g__law_picked : mg "_law_picked" = some (.ref (He.ga K "_law_picked"))
  k__law_picked : PySem.W.keepIn K (.ref (He.ga K "_law_picked")) = true
  g__law_cover : mg "_law_cover" = some (.ref (He.ga K "_law_cover"))
  k__law_cover : PySem.W.keepIn K (.ref (He.ga K "_law_cover")) = true
  g__law_lookers : mg "_law_lookers" = some (.ref (He.ga K "_law_lookers"))
  k__law_lookers : PySem.W.keepIn K (.ref (He.ga K "_law_lookers")) = true
  g__law_doubled : mg "_law_doubled" = some (.ref (He.ga K "_law_doubled"))
  k__law_doubled : PySem.W.keepIn K (.ref (He.ga K "_law_doubled")) = true
  g__law_added : mg "_law_added" = some (.ref (He.ga K "_law_added"))
  k__law_added : PySem.W.keepIn K (.ref (He.ga K "_law_added")) = true
  g__law_ladder : mg "_law_ladder" = some (.ref (He.ga K "_law_ladder"))
  k__law_ladder : PySem.W.keepIn K (.ref (He.ga K "_law_ladder")) = true
  g__law_branch : mg "_law_branch" = some (.ref (He.ga K "_law_branch"))
  k__law_branch : PySem.W.keepIn K (.ref (He.ga K "_law_branch")) = true
  g__law_world : mg "_law_world" = some (.ref (He.ga K "_law_world"))
  k__law_world : PySem.W.keepIn K (.ref (He.ga K "_law_world")) = true
  g__law_end : mg "_law_end" = some (.ref (He.ga K "_law_end"))
  k__law_end : PySem.W.keepIn K (.ref (He.ga K "_law_end")) = true
  g__law_refused : mg "_law_refused" = some (.ref (He.ga K "_law_refused"))
  k__law_refused : PySem.W.keepIn K (.ref (He.ga K "_law_refused")) = true
  g__law_kept : mg "_law_kept" = some (.ref (He.ga K "_law_kept"))
  k__law_kept : PySem.W.keepIn K (.ref (He.ga K "_law_kept")) = true
  g__law_turn : mg "_law_turn" = some (.ref (He.ga K "_law_turn"))
  k__law_turn : PySem.W.keepIn K (.ref (He.ga K "_law_turn")) = true
  g__law_played : mg "_law_played" = some (.ref (He.ga K "_law_played"))
  k__law_played : PySem.W.keepIn K (.ref (He.ga K "_law_played")) = true
  g_law : mg "law" = some (.ref (He.ga K "law"))
  k_law : PySem.W.keepIn K (.ref (He.ga K "law")) = true
  g_Game : mg "Game" = some (.ref (He.ga K "Game"))
  c_Game : Cls K (He.ga K "Game")
  n_Game_low : NoAttr K (He.ga K "Game") "low"
  n_Game_high : NoAttr K (He.ga K "Game") "high"
  n_Game_own_rounds : NoAttr K (He.ga K "Game") "own_rounds"
  n_Game_own_ways : NoAttr K (He.ga K "Game") "own_ways"
  n_Game_own_gap : NoAttr K (He.ga K "Game") "own_gap"
  mk_Game : Mk K (He.ga K "Game") (He.ma K (He.ga K "Game") "__init__")
  m_Game_word : Meth K (He.ga K "Game") "word" (He.ma K (He.ga K "Game") "word")
  m_Game_rounds : Meth K (He.ga K "Game") "rounds" (He.ma K (He.ga K "Game") "rounds")
  m_Game_spoiler : Meth K (He.ga K "Game") "spoiler" (He.ma K (He.ga K "Game") "spoiler")
  g_Spoiler : mg "Spoiler" = some (.ref (He.ga K "Spoiler"))
  c_Spoiler : Cls K (He.ga K "Spoiler")
  n_Spoiler_own_low : NoAttr K (He.ga K "Spoiler") "own_low"
  n_Spoiler_own_high : NoAttr K (He.ga K "Spoiler") "own_high"
  n_Spoiler_own_rounds : NoAttr K (He.ga K "Spoiler") "own_rounds"
  n_Spoiler_own_stand : NoAttr K (He.ga K "Spoiler") "own_stand"
  n_Spoiler_own_stretch : NoAttr K (He.ga K "Spoiler") "own_stretch"
  n_Spoiler_own_there : NoAttr K (He.ga K "Spoiler") "own_there"
  n_Spoiler_own_replies : NoAttr K (He.ga K "Spoiler") "own_replies"
  mk_Spoiler : Mk K (He.ga K "Spoiler") (He.ma K (He.ga K "Spoiler") "__init__")
  m_Spoiler_own_begin : Meth K (He.ga K "Spoiler") "own_begin" (He.ma K (He.ga K "Spoiler") "own_begin")
  m_Spoiler_own_falling : Meth K (He.ga K "Spoiler") "own_falling" (He.ma K (He.ga K "Spoiler") "own_falling")
  p_Spoiler_stand : ∃ p g, PropOf K (He.ga K "Spoiler") "stand" p g ∧ TM K "stand" "Spoiler.stand" s_Spoiler_stand g
  p_Spoiler_stretch : ∃ p g, PropOf K (He.ga K "Spoiler") "stretch" p g ∧ TM K "stretch" "Spoiler.stretch" s_Spoiler_stretch g
  p_Spoiler_won : ∃ p g, PropOf K (He.ga K "Spoiler") "won" p g ∧ TM K "won" "Spoiler.won" s_Spoiler_won g
  g_Web : mg "Web" = some (.ref (He.ga K "Web"))
  c_Web : Cls K (He.ga K "Web")
  n_Web_own_rows : NoAttr K (He.ga K "Web") "own_rows"
  mk_Web : Mk K (He.ga K "Web") (He.ma K (He.ga K "Web") "__init__")
  m_Web_moves : Meth K (He.ga K "Web") "moves" (He.ma K (He.ga K "Web") "moves")
  m_Web_replies : Meth K (He.ga K "Web") "replies" (He.ma K (He.ga K "Web") "replies")
  m_Web_own_check : Meth K (He.ga K "Web") "own_check" (He.ma K (He.ga K "Web") "own_check")
  m_Web_own_quiet : Meth K (He.ga K "Web") "own_quiet" (He.ma K (He.ga K "Web") "own_quiet")
  i_MOST_games : ∃ t, mg "MOST_games" = some (.int 20000 t)
  i_MOST_webs : ∃ t, mg "MOST_webs" = some (.int 4000 t)
  s_LETTERS : ∃ t, mg "LETTERS" = some (.str "abcdefghijklmnopqrstuvwxyz" t)
section
variable (P : Program) (w : World) (K : PySem.W.Frag) (mg : Str → Option Value) (base : Heap)
/-- the def x keeps its promise, at level k -/
structure DOk (k : Nat) (x : Str) (ps : List Str) (sp : Sp) : Prop where
  ex : ∃ fd, FnOk P w K mg base CX0 k (He.ga K x) fd ps sp ∧ Binds K fd ps []
  g : mg x = some (.ref (He.ga K x))
  kp : PySem.W.keepIn K (.ref (He.ga K x)) = true
/-- the method m of C -/
structure MOk (k : Nat) (C m : Str) (ps : List Str) (sp : Sp) : Prop where
  ex : ∃ fd, FnOk P w K mg base CX0 k (He.ma K (He.ga K C) m) fd ps sp ∧ Binds K fd ps []
  c : Cls K (He.ga K C)
  m : Meth K (He.ga K C) m (He.ma K (He.ga K C) m)
/-- the maker of C -/
structure KOk (k : Nat) (C : Str) (ps : List Str) (sp : Sp) : Prop where
  ex : ∃ fd, FnOk P w K mg base CX0 k (He.ma K (He.ga K C) "__init__") fd ps sp ∧ Binds K fd ps []
  c : Mk K (He.ga K C) (He.ma K (He.ga K C) "__init__")
  g : mg C = some (.ref (He.ga K C))
/-- a property of C -/
structure POk (k : Nat) (C m : Str) (sp : Sp) : Prop where
  ex : ∃ p f fd, PropOf K (He.ga K C) m p f ∧ FnOk P w K mg base CX0 k f fd ["self"] sp ∧ Binds K fd ["self"] []
  c : Cls K (He.ga K C)
end
section
variable {X : Cx} {k : Nat} {x C m : Str} {ps : List Str} {sp : Sp} {e o : Expr} {es : List Expr} {p pos apos : Pos} {t : TA} {ta : TE}
theorem pe_d (D : DOk X.prog X.w X.K X.mg X.base k x ps sp) (hr : Room k X.A) (hg : Gl X x) (ha : PA X (e :: es) t) (hdb : (x == ("__debug__" : Str)) = false := by decide)
    (he : starEach (e :: es) X.env = (false, eval e X.env) :: starEach es X.env := by rfl) (hpl : (backTo pos (starEach es X.env)).any (·.1) = false := by rfl) : PE X (.Call (.Name x p) (e :: es) [] pos) (tCall sp [] E0 t) := by
  obtain ⟨fd, F, b⟩ := D.ex
  exact pe_call F hr hg D.g D.kp b .nil pass0 ha hdb he hpl
theorem pe_m {pl : Sem Bool} (D : MOk X.prog X.w X.K X.mg X.base k C m ps sp) (hr : Room k X.A) (ho : PE X o ta) (ha : PA X (e :: es) t)
    (hst : starEach (e :: es) X.env = (false, eval e X.env) :: starEach es X.env := by rfl) (hpl : (backTo pos (starEach es X.env)).any (·.1) = false := by rfl)
    (ht : eval (.Call (.Attribute o m apos) (e :: es) [] pos) X.env = (do
      let q ← eval o X.env
      standAt apos.atName
      let (f, first) ← holding [q] (getMethod q m pl)
      callWith pos f first (backTo pos (starEach (e :: es) X.env)) (backToKw pos (keywordEach [] X.env))) := by rfl) :
    PE X (.Call (.Attribute o m apos) (e :: es) [] pos) (tMeth (He.ga X.K C) m sp [] E0 ta t) := by
  obtain ⟨fd, F, b⟩ := D.ex
  exact pe_meth ho D.c D.m F hr b .nil pass0 ha hst hpl ht
theorem pe_m0 {pl : Sem Bool} (D : MOk X.prog X.w X.K X.mg X.base k C m ps sp) (hr : Room k X.A) (ho : PE X o ta)
    (ht : eval (.Call (.Attribute o m apos) [] [] pos) X.env = (do
      let q ← eval o X.env
      standAt apos.atName
      let (f, first) ← holding [q] (getMethod q m pl)
      callWith pos f first (backTo pos (starEach [] X.env)) (backToKw pos (keywordEach [] X.env))) := by rfl) :
    PE X (.Call (.Attribute o m apos) [] [] pos) (tMeth (He.ga X.K C) m sp [] E0 ta tNil) := by
  obtain ⟨fd, F, b⟩ := D.ex
  exact pe_meth0 ho D.c D.m F hr b .nil pass0 ht
theorem pe_k (D : KOk X.prog X.w X.K X.mg X.base k C ps sp) (hr : Room (k + 1) X.A) (hg : Gl X C) (ha : PA X (e :: es) t) (hdb : (C == ("__debug__" : Str)) = false := by decide)
    (he : starEach (e :: es) X.env = (false, eval e X.env) :: starEach es X.env := by rfl) (hpl : (backTo pos (starEach es X.env)).any (·.1) = false := by rfl) : PE X (.Call (.Name C p) (e :: es) [] pos) (tMake (He.ga X.K C) sp [] E0 t) := by
  obtain ⟨fd, F, b⟩ := D.ex
  exact pe_make D.c F hr hg D.g b .nil pass0 ha hdb he hpl
theorem pe_p (D : POk X.prog X.w X.K X.mg X.base k C m sp) (hr : Room (k + 1) X.A) (ho : PE X o ta) (hab : attributeBase o m X.env (eval o X.env) = eval o X.env := by rfl) : PE X (.Attribute o m pos) (tProp (He.ga X.K C) sp [] E0 ta) := by
  obtain ⟨p, f, fd, hp, F, b⟩ := D.ex
  exact pe_prop ho D.c hp F hr b .nil pass0 hab
end
section
variable {P : Program} {w : World} {K : PySem.W.Frag} {mg : Str → Option Value} {base : Heap} {N ps : List Str} {k : Nat} {sp : Sp} {x q C m : Str} {st : Stmt}
/-- what a def's theorem shows -/
abbrev Body (P : Program) (w : World) (K : PySem.W.Frag) (mg : Str → Option Value) (base : Heap) (N : List Str) (k : Nat) (sp : Sp) (q : Str) (st : Stmt) (f : Addr) : Prop :=
  ∀ (cdv : Value) (A : Around) (outer : List Env) (s : Shared) (H : Hp) (vs : List V) (Q : VK) (E : XK), Room k (A.deeper (envOfC q (defScope st) s.heap.objs.size f cdv)) → sp vs H Q E →
    ∃ t, PSs (cxOf CX0 P w K mg base N q (defScope st) f cdv A outer s H E).nox (defBody st) t ∧ t { nx := fun _ H' => Q .non H', rt := Q } (start N vs) H
abbrev BindsBy (x : Str) (st : Stmt) (ps : List Str) : Prop :=
  ∀ (kV doc pm : Value) (an : Option Addr) (cdv ct : Value) (us : List Value), us.length = ps.length → bindArgs (PySem.W.fnOf x q (defArgs st) (defBody st) (defScope st) .none kV doc pm an cdv ct) ⟨us, []⟩ = pure (ps.zip us)
theorem dok (F : TF K x st) (g : mg x = some (.ref (He.ga K x))) (S : FnScope N ps (defScope st)) (len : ∀ vs H Q E, sp vs H Q E → vs.length = ps.length) (b : BindsBy (q := x) x st ps) (body : Body P w K mg base N k sp x st (He.ga K x)) :
    DOk P w K mg base (k + 1) x ps sp := by
  obtain ⟨fd, F⟩ := F.ex
  exact ⟨⟨fd, F.ok S len body, F.binds b⟩, g, F.kp⟩
theorem mok (F : TM K m q st (He.ma K (He.ga K C) m)) (c : Cls K (He.ga K C)) (h : Meth K (He.ga K C) m (He.ma K (He.ga K C) m)) (S : FnScope N ps (defScope st)) (len : ∀ vs H Q E, sp vs H Q E → vs.length = ps.length) (b : BindsBy (q := q) m st ps)
    (body : Body P w K mg base N k sp q st (He.ma K (He.ga K C) m)) : MOk P w K mg base (k + 1) C m ps sp := by
  obtain ⟨fd, F⟩ := F.ex
  exact ⟨⟨fd, F.ok S len body, F.binds b⟩, c, h⟩
theorem kok (F : TM K "__init__" q st (He.ma K (He.ga K C) "__init__")) (c : Mk K (He.ga K C) (He.ma K (He.ga K C) "__init__")) (g : mg C = some (.ref (He.ga K C))) (S : FnScope N ps (defScope st)) (len : ∀ vs H Q E, sp vs H Q E → vs.length = ps.length) (b : BindsBy (q := q) "__init__" st ps)
    (body : Body P w K mg base N k sp q st (He.ma K (He.ga K C) "__init__")) : KOk P w K mg base (k + 1) C ps sp := by
  obtain ⟨fd, F⟩ := F.ex
  exact ⟨⟨fd, F.ok S len body, F.binds b⟩, c, g⟩
theorem pok (h : ∃ p f, PropOf K (He.ga K C) m p f ∧ TM K m q st f) (c : Cls K (He.ga K C)) (S : FnScope N ["self"] (defScope st)) (len : ∀ vs H Q E, sp vs H Q E → vs.length = 1) (b : BindsBy (q := q) m st ["self"])
    (body : ∀ f, Body P w K mg base N k sp q st f) : POk P w K mg base (k + 1) C m sp := by
  obtain ⟨p, f, hp, ⟨fd, F⟩⟩ := h
  exact ⟨⟨p, f, fd, hp, F.ok S len (body f), F.binds b⟩, c⟩
end
end Ct
set_option maxHeartbeats 4000000
/-! Small defs: is_whole, is_number, is_name, is_deed, is_move, _law_cell. -/
namespace Ct
open PySem PySem.Spec PyProof.Rows L2 Nd
section
variable {P : Program} {w : World} {K : PySem.W.Frag} {mg : Str → Option Value} {base : Heap}
def spWhole : Sp := fun vs H Q _ => ∃ x a b : Int, vs = [.int x, .int a, .int b] ∧ Q (.bl (decide (a ≤ x ∧ x ≤ b))) H
theorem sc_is_whole : FnScope (["x", "least", "most"] : List Str) ["x", "least", "most"] (defScope s_is_whole) := ⟨rfl, rfl, rfl, by decide +kernel, rfl, by decide +kernel, by decide +kernel⟩
theorem ok_whole (F : TF K "is_whole" s_is_whole) (T : Tx K mg) : DOk P w K mg base 1 "is_whole" ["x", "least", "most"] spWhole := by
  refine dok F T.g_is_whole sc_is_whole (fun vs H Q E h => ?_) (fun _ _ _ _ _ _ us hl => match us, hl with | [_, _, _], _ => rfl) (fun cdv A outer s H vs Q E hr h => ?_)
  · obtain ⟨x, a, b, rfl, _⟩ := h
    rfl
  obtain ⟨x, a, b, rfl, k⟩ := h
  refine ⟨_, (pss_one (ps_ret (pe_and (pe_callB call_isi (by rfl) T.f_isinstance (by decide +kernel) (pa_cons (pv 0) (pa_cons (pe_bltn (v := .ty "int") (by rfl) T.f_int (by decide +kernel) rfl) pa_nil))) (pe_and (pe_not (pe_callB call_isi (by rfl) T.f_isinstance (by decide +kernel) (pa_cons (pv 0) (pa_cons (pe_bltn (v := .ty "bool") (by rfl) T.f_bool (by decide +kernel) rfl) pa_nil)))) (pe_one (pe_chain op_le op_le (pv 1) (pv 0) (pv 2))))))), ?_⟩
  refine ⟨_, rfl, .int x, .ty "int", .type "int", .type "int", true, rfl, .ty "int", .base (.int x), kit_ty (by decide +kernel), true, rfl, iteT ?_⟩
  refine ⟨_, rfl, .int x, .ty "bool", .type "int", .type "bool", false, rfl, .ty "bool", .base (.int x), kit_ty (by decide +kernel), false, rfl, true, rfl, iteT ?_⟩
  refine ⟨_, rfl, _, rfl, _, _, rfl, rfl, _, rfl, ?_⟩
  by_cases h1 : a ≤ x
  · rw [decide_eq_true h1]
    refine iteT ⟨_, rfl, _, _, rfl, rfl, ?_⟩
    have e : decide (a ≤ x ∧ x ≤ b) = decide (x ≤ b) := decide_eq_decide.mpr ⟨fun q => q.2, fun q => ⟨h1, q⟩⟩
    rw [e] at k
    exact k
  · rw [decide_eq_false h1]
    refine iteF ?_
    have e : decide (a ≤ x ∧ x ≤ b) = false := decide_eq_false fun q => h1 q.1
    rw [e] at k
    exact k
def spNumber : Sp := fun vs H Q _ => ∃ x : Int, vs = [.int x] ∧ Q (.bl (decide (0 ≤ x ∧ x ≤ 9))) H
theorem sc_is_number : FnScope (["x"] : List Str) ["x"] (defScope s_is_number) := ⟨rfl, rfl, rfl, by decide +kernel, rfl, by decide +kernel, by decide +kernel⟩
theorem ok_number (F : TF K "is_number" s_is_number) (T : Tx K mg) (D_is_whole : DOk P w K mg base 1 "is_whole" ["x", "least", "most"] spWhole) : DOk P w K mg base 2 "is_number" ["x"] spNumber := by
  refine dok F T.g_is_number sc_is_number (fun vs H Q E h => ?_) (fun _ _ _ _ _ _ us hl => match us, hl with | [_], _ => rfl) (fun cdv A outer s H vs Q E hr h => ?_)
  · obtain ⟨x, rfl, _⟩ := h
    rfl
  obtain ⟨x, rfl, k⟩ := h
  refine ⟨_, (pss_one (ps_ret (pe_d D_is_whole (hr.mono (by decide)) (by rfl) (pa_cons (pv 0) (pa_cons pe_int (pa_cons pe_int pa_nil)))))), ?_⟩
  exact ⟨_, rfl, x, 0, 9, rfl, k⟩
end
end Ct
set_option maxHeartbeats 2000000
/-! The data of the law over the heap: deeds, moves, pairs, rows. -/
namespace Ct
open PySem PySem.Spec PyProof.Rows L2 Nd
abbrev Deed := Int × Str × Key
abbrev Move := Deed × Int
abbrev Rows := List (List Move)
abbrev Pr := Int × Int
def hid (d : Deed) : Bool := decide (d.2.1 = ("step" : Str))
def deedV (d : Deed) : List V := [.int d.1, .str d.2.1, kV d.2.2]
def DeedAt (H : Hp) (v : V) (d : Deed) : Prop := ∃ a, v = .ref a ∧ H a = some (.tup (deedV d))
def MoveAt (H : Hp) (v : V) (m : Move) : Prop := ∃ a u, v = .ref a ∧ H a = some (.tup [u, .int m.2]) ∧ DeedAt H u m.1
def PairAt (H : Hp) (v : V) (p : Pr) : Prop := ∃ a, v = .ref a ∧ H a = some (.tup [.int p.1, .int p.2])
/-- a list of these -/
def ListAt {α : Type} (F : Hp → V → α → Prop) (H : Hp) (v : V) (l : List α) : Prop := ∃ a vs, v = .ref a ∧ H a = some (.lst vs) ∧ Paired (F H) vs l
abbrev IntsAt (H : Hp) (v : V) (l : List Int) : Prop := ∃ a, v = .ref a ∧ H a = some (.lst (l.map V.int))
abbrev MovesAt (H : Hp) (v : V) (l : List Move) : Prop := ListAt MoveAt H v l
abbrev RowsAt (H : Hp) (v : V) (R : Rows) : Prop := ListAt MovesAt H v R
abbrev DeedsAt (H : Hp) (v : V) (l : List Deed) : Prop := ListAt DeedAt H v l
section
variable {H H' : Hp} {v : V}
theorem DeedAt.mono {d : Deed} (h : DeedAt H v d) (t : Tups H H') : DeedAt H' v d := let ⟨a, e, q⟩ := h; ⟨a, e, t _ _ q⟩
theorem MoveAt.mono {m : Move} (h : MoveAt H v m) (t : Tups H H') : MoveAt H' v m := let ⟨a, u, e, q, d⟩ := h; ⟨a, u, e, t _ _ q, d.mono t⟩
theorem PairAt.mono {p : Pr} (h : PairAt H v p) (t : Tups H H') : PairAt H' v p := let ⟨a, e, q⟩ := h; ⟨a, e, t _ _ q⟩
theorem ListAt.mono {α : Type} {F : Hp → V → α → Prop} {l : List α} (h : ListAt F H v l) (s : Same H H') (f : ∀ v x, F H v x → F H' v x) : ListAt F H' v l :=
  let ⟨a, vs, e, q, p⟩ := h; ⟨a, vs, e, s _ _ q, Paired.mapP p f⟩
theorem IntsAt.mono {l : List Int} (h : IntsAt H v l) (s : Same H H') : IntsAt H' v l := let ⟨a, e, q⟩ := h; ⟨a, e, s _ _ q⟩
theorem MovesAt.mono {l : List Move} (h : MovesAt H v l) (s : Same H H') : MovesAt H' v l := ListAt.mono h s fun _ _ x => x.mono (Tups.same s)
theorem RowsAt.mono {R : Rows} (h : RowsAt H v R) (s : Same H H') : RowsAt H' v R := ListAt.mono h s fun _ _ x => MovesAt.mono x s
theorem DeedsAt.mono {l : List Deed} (h : DeedsAt H v l) (s : Same H H') : DeedsAt H' v l := ListAt.mono h s fun _ _ x => x.mono (Tups.same s)
end
/-! ### things beside each other -/
section
variable {α β : Type} {F : α → β → Prop}
theorem paired_len {l : List α} {m : List β} (h : Paired F l m) : l.length = m.length := Paired.length h
theorem paired_getR {l : List α} {m : List β} (h : Paired F l m) : ∀ {i : Nat} {y : β}, m[i]? = some y → ∃ x, l[i]? = some x ∧ F x y := by
  induction h with
  | nil => intro i y e; simp at e
  | cons r t ih =>
    intro i y e
    cases i with
    | zero => exact ⟨_, rfl, by simp at e; rw [← e]; exact r⟩
    | succ i => simpa using ih (i := i) (y := y) (by simpa using e)
theorem paired_snoc {l : List α} {m : List β} {x : α} {y : β} (h : Paired F l m) (r : F x y) : Paired F (l ++ [x]) (m ++ [y]) := by
  induction h with
  | nil => exact .cons r .nil
  | cons q t ih => exact .cons q ih
theorem paired_app {l l' : List α} {m m' : List β} (h : Paired F l m) (h' : Paired F l' m') : Paired F (l ++ l') (m ++ m') := by
  induction h with
  | nil => exact h'
  | cons q t ih => exact .cons q ih
theorem paired_of_mem {G : α → β → Prop} {l : List α} {m : List β} (h : Paired F l m) : (∀ x y, x ∈ l → F x y → G x y) → Paired G l m := by
  induction h with
  | nil => intro _; exact .nil
  | cons r t ih => intro g; exact .cons (g _ _ (List.mem_cons_self ..) r) (ih fun x y hx => g x y (List.mem_cons_of_mem _ hx))
theorem paired_set {l : List α} {m : List β} {x : α} {y : β} (h : Paired F l m) (r : F x y) : ∀ i, Paired F (l.set i x) (m.set i y) := by
  induction h with
  | nil => intro i; exact .nil
  | cons q t ih =>
    intro i
    cases i with
    | zero => exact .cons r t
    | succ i => exact .cons q (ih i)
theorem paired_rev {l : List α} {m : List β} (h : Paired F l m) : Paired F l.reverse m.reverse := by
  induction h with
  | nil => exact .nil
  | cons q t ih =>
    rw [List.reverse_cons, List.reverse_cons]
    exact paired_snoc ih q
theorem paired_take {l : List α} {m : List β} (h : Paired F l m) : ∀ n, Paired F (l.take n) (m.take n) := by
  induction h with
  | nil => intro n; simp; exact .nil
  | cons q t ih =>
    intro n
    cases n with
    | zero => exact .nil
    | succ n => exact .cons q (ih n)
theorem paired_drop {l : List α} {m : List β} (h : Paired F l m) : ∀ n, Paired F (l.drop n) (m.drop n) := by
  induction h with
  | nil => intro n; simp; exact .nil
  | cons q t ih =>
    intro n
    cases n with
    | zero => exact .cons q t
    | succ n => exact ih n
end
theorem paired_mapL {α β γ : Type} {F : β → γ → Prop} {f : α → β} {g : α → γ} : ∀ {l : List α}, (∀ x ∈ l, F (f x) (g x)) → Paired F (l.map f) (l.map g)
  | [], _ => .nil
  | a :: l, h => .cons (h a (List.mem_cons_self ..)) (paired_mapL fun x hx => h x (List.mem_cons_of_mem _ hx))
/-! ### indices -/
theorem atI_of {vs : List V} {i : Int} {v : V} (h0 : 0 ≤ i) (h : vs[i.toNat]? = some v) : atI vs i = some v := by
  have hl : i < (vs.length : Int) := by
    have := (List.getElem?_eq_some_iff.mp h).1
    omega
  unfold atI ixN
  rw [if_pos h0, if_pos hl]
  exact h
theorem atI_ints {ns : List Int} {i n : Int} (h0 : 0 ≤ i) (h : ns[i.toNat]? = some n) : atI (ns.map V.int) i = some (.int n) :=
  atI_of h0 (by rw [List.getElem?_map, h]; rfl)
theorem map_get {ns : List Int} {i : Nat} {y : V} (h : (ns.map V.int)[i]? = some y) : ∃ n, ns[i]? = some n ∧ y = .int n := by
  rw [List.getElem?_map] at h
  cases e : ns[i]? with
  | none => rw [e] at h; cases h
  | some n =>
    rw [e] at h
    exact ⟨n, rfl, (Option.some.inj h).symm⟩
theorem hu9_of {A : Around} {k : Nat} (hr : Room k A) : A.units + 9 < cLine := by have := hr.un; omega
theorem hu64_of {A : Around} {k : Nat} (hr : Room k A) : A.units + 64 < cLine := by have := hr.un; omega
theorem hu65_of {A : Around} {k : Nat} (hr : Room k A) : A.units + 65 < cLine := by have := hr.un; omega
theorem flat_ints (l : List Int) : (l.map V.int).all flatV = true := by
  rw [List.all_map, List.all_eq_true]
  exact fun _ _ => rfl
theorem in_ints (l : List Int) (i : Int) : inV (.int i) (l.map V.int) = decide (i ∈ l) := by
  unfold inV
  rw [List.any_map]
  induction l with
  | nil => rfl
  | cons x l ih =>
    rw [List.any_cons, ih]
    show ((x == i) || decide (i ∈ l)) = _
    rw [show (x == i) = decide (x = i) from rfl, ← Bool.decide_or]
    exact decide_eq_decide.mpr ⟨fun h => by rcases h with h | h; exact h ▸ List.mem_cons_self ..; exact List.mem_cons_of_mem _ h, fun h => by rcases List.mem_cons.mp h with h | h; exact .inl h.symm; exact .inr h⟩
theorem szk {α : Type} {l : List α} (n : Nat) (h : l.length = n) (h2 : n ≤ 100000 := by decide) : l.length ≤ sizeLine := Nat.le_trans (h ▸ h2) (by decide)
theorem upd_nil {H : Hp} {a b : Addr} {o : HO} (e : upd H a o b = none) : H b = none := by
  by_cases h : b = a
  · subst h
    rw [upd_same] at e
    cases e
  · rw [upd_ne h] at e
    exact e
theorem tyL {K : PySem.W.Frag} {H : Hp} {a : Addr} {xs : List V} (h : H a = some (.lst xs)) : tyV K "list" (.ref a) H := .inl ⟨rfl, _, SqL.of h⟩
theorem ints_snoc {H : Hp} {q : Addr} {ds : List Int} {d : Int} : upd H q (.lst (ds.map V.int ++ [.int d])) q = some (.lst ((ds ++ [d]).map V.int)) := by
  rw [upd_same, List.map_append]
  rfl
theorem szL {n : Nat} (h : n ≤ 100000) : n ≤ sizeLine := Nat.le_trans h (by decide)
theorem szLt {n : Nat} (h : n < 100000) : n < sizeLine := Nat.lt_of_lt_of_le h (by decide)
/-- new objects alone -/
theorem Same.new {H H1 : Hp} {p : Addr} {o : HO} (s : Same H H1) (h : H1 p = none) : Same H (upd H1 p o) := fun b u e => by
  rw [upd_ne (ne_of_none (s b u e) h)]
  exact s b u e
/-- an object that H does not know changes -/
theorem Same.mut {H H1 : Hp} {p : Addr} {o : HO} (s : Same H H1) (h : H p = none) : Same H (upd H1 p o) := fun b u e => by
  rw [upd_ne (ne_of_none e h)]
  exact s b u e
theorem Same.new1 {H : Hp} {p : Addr} {o : HO} (h : H p = none) : Same H (upd H p o) := Same.new (Same.refl H) h
end Ct
set_option maxHeartbeats 4000000
/-! is_name, is_deed, is_move; _law_cell, _law_draws. -/
namespace Ct
open PySem PySem.Spec PyProof.Rows L2 Nd
def abc : Str := "abcdefghijklmnopqrstuvwxyz"
structure NameOk (z : Str) : Prop where
  lo : 1 ≤ z.length
  hi : z.length ≤ 8
  el : ∀ (i : Nat) (c : Nat), z.cps[i]? = some c → c ∈ abc.cps.toList
structure DeedOk (d : Deed) : Prop where
  core : 0 ≤ d.1 ∧ d.1 ≤ 2
  rest : (d.2.1 = "call" ∧ ∃ z, d.2.2 = .inr z ∧ NameOk z) ∨ ((d.2.1 = "return" ∨ d.2.1 = "step") ∧ ∃ i, d.2.2 = .inl i ∧ 0 ≤ i ∧ i ≤ 9)
/-- what is drawn within the spans -/
structure Drawn (sp ds : List Int) : Prop where
  len : ds.length = sp.length
  rng : ∀ (i : Nat) (s d : Int), sp[i]? = some s → ds[i]? = some d → 0 ≤ d ∧ d < s
theorem Drawn.get {sp ds : List Int} (h : Drawn sp ds) {i : Nat} {s : Int} (e : sp[i]? = some s) : ∃ d, ds[i]? = some d ∧ 0 ≤ d ∧ d < s := by
  have hl : i < ds.length := by rw [h.len]; exact (List.getElem?_eq_some_iff.mp e).1
  exact ⟨_, List.getElem?_eq_getElem hl, h.rng i s _ e (List.getElem?_eq_getElem hl)⟩
section
variable {P : Program} {w : World} {K : PySem.W.Frag} {mg : Str → Option Value} {base : Heap}
def spName : Sp := fun vs H Q _ => ∃ z : Str, vs = [.str z] ∧ NameOk z ∧ Q (.bl true) H
theorem sc_is_name : FnScope (["x", "sign"] : List Str) ["x"] (defScope s_is_name) := ⟨rfl, rfl, rfl, by decide +kernel, rfl, by decide +kernel, by decide +kernel⟩
theorem ok_name (F : TF K "is_name" s_is_name) (T : Tx K mg) : DOk P w K mg base 1 "is_name" ["x"] spName := by
  refine dok F T.g_is_name sc_is_name (fun vs H Q E h => ?_) (fun _ _ _ _ _ _ us hl => match us, hl with | [_], _ => rfl) (fun cdv A outer s H vs Q E hr h => ?_)
  · obtain ⟨x, rfl, _⟩ := h
    rfl
  obtain ⟨z, rfl, ok, k⟩ := h
  refine ⟨_, (pss_cons (ps_if (PW.pt (pw_or (pt_not (pt_val (pe_callB call_isi (by rfl) T.f_isinstance (by decide +kernel) (pa_cons (pv 0) (pa_cons (pe_bltn (v := .ty "str") (by rfl) T.f_str (by decide +kernel) rfl) pa_nil))))) (pw_or (pt_cmpR op_lt (pe_callB call_len_str (by rfl) T.f_len (by decide +kernel) (pa_cons (pv 0) pa_nil)) pe_int (nomark _)) (pw_or1 (pt_cmpR op_gt (pe_callB call_len_str (by rfl) T.f_len (by decide +kernel) (pa_cons (pv 0) pa_nil)) pe_int (nomark _)))))) (pss_one (ps_ret pe_bl)) pss_nil)
    (pss_cons (ps_for PassesOwn.never rfl (pi_str (pv 0)) (pg_name (i := 1) sc_is_name.nd rfl (Or.inl rfl)) (pss_one (ps_if (pt_cmpR op_notIn_sign (pv 1) (pe_glob (v := .str "abcdefghijklmnopqrstuvwxyz") rfl T.s_LETTERS.choose_spec ⟨_, rfl⟩) (by rfl)) (pss_one (ps_ret pe_bl)) pss_nil)))
    (pss_one (ps_ret pe_bl)))), ?_⟩
  refine ⟨_, rfl, .str z, .ty "str", .type "str", .type "str", true, rfl, .ty "str", .base (.str z), kit_ty (by decide +kernel), true, rfl, ?_⟩
  have h1 : ¬ ((z.length : Int) < 1) := by have := ok.lo; omega
  have h2 : ¬ ((8 : Int) < (z.length : Int)) := by have := ok.hi; omega
  have h3 := szL (n := z.length) (by have := ok.hi; omega)
  refine iteF ⟨_, rfl, z, rfl, h3, _, _, rfl, rfl, _, rfl, ?_⟩
  rw [decide_eq_false h1]
  refine iteF ⟨_, rfl, z, rfl, h3, _, _, rfl, rfl, _, rfl, ?_⟩
  rw [decide_eq_false h2]
  refine iteF ⟨_, rfl, _, rfl, ?_⟩
  refine for_it walk_str (fun _ σ H1 => H1 = H ∧ ∃ o, σ = [some (.str z), o]) ⟨rfl, _, rfl⟩ (fun _ _ _ _ _ => trivial) ?_ ?_
  · rintro i x σ H1 H2 hi ⟨rfl, o, rfl⟩ ⟨rfl, c, hc, rfl⟩
    refine ⟨_, rfl, c, abc, rfl, rfl, _, rfl, ?_⟩
    rw [decide_eq_true (ok.el i c hc)]
    exact iteF ⟨rfl, _, rfl⟩
  · rintro σ H1 ⟨rfl, o, rfl⟩
    exact k
def spDeed : Sp := fun vs H Q _ => ∃ v d, vs = [v] ∧ DeedAt H v d ∧ DeedOk d ∧ ∀ H', Same H H' → Q (.bl true) H'
theorem sc_is_deed : FnScope (["deed"] : List Str) ["deed"] (defScope s_is_deed) := ⟨rfl, rfl, rfl, by decide +kernel, rfl, by decide +kernel, by decide +kernel⟩
theorem ok_deed (F : TF K "is_deed" s_is_deed) (T : Tx K mg) (D_is_whole : DOk P w K mg base 1 "is_whole" ["x", "least", "most"] spWhole) (D_is_number : DOk P w K mg base 2 "is_number" ["x"] spNumber)
    (D_is_name : DOk P w K mg base 1 "is_name" ["x"] spName) : DOk P w K mg base 3 "is_deed" ["deed"] spDeed := by
  refine dok F T.g_is_deed sc_is_deed (fun vs H Q E h => ?_) (fun _ _ _ _ _ _ us hl => match us, hl with | [_], _ => rfl) (fun cdv A outer s H vs Q E hr h => ?_)
  · obtain ⟨v, d, rfl, _⟩ := h
    rfl
  obtain ⟨v, d, rfl, ⟨a, rfl, hd⟩, ok, k⟩ := h
  refine ⟨_, (pss_cons (ps_if (PW.pt (pw_or (pt_not (pt_val (pe_callB call_isi (by rfl) T.f_isinstance (by decide +kernel) (pa_cons (pv 0) (pa_cons (pe_bltn (v := .ty "tuple") (by rfl) T.f_tuple (by decide +kernel) rfl) pa_nil))))) (pw_or (pt_cmpR op_ne (pe_callB call_len_seq (by rfl) T.f_len (by decide +kernel) (pa_cons (pv 0) pa_nil)) pe_int (nomark _)) (pw_or1 (pt_not (pt_val (pe_d D_is_whole (hr.mono (by decide)) (by rfl) (pa_cons (pe_ix ix_tup (pv 0) pe_int (fun _ _ => rfl)) (pa_cons pe_int (pa_cons pe_int pa_nil)))))))))) (pss_one (ps_ret pe_bl)) pss_nil)
    (pss_cons (ps_if (pt_cmpR op_eq (pe_ix ix_tup (pv 0) pe_int (fun _ _ => rfl)) pe_str (nomark _)) (pss_one (ps_ret (pe_d D_is_name (hr.mono (by decide)) (by rfl) (pa_cons (pe_ix ix_tup (pv 0) pe_int (fun _ _ => rfl)) pa_nil)))) pss_nil)
    (pss_one (ps_ret (pe_and (pe_cmpR op_in_seq (pe_ix ix_tup (pv 0) pe_int (fun _ _ => rfl)) (pe_tup (pa_cons pe_str (pa_cons pe_str pa_nil))) (by rfl)) (pe_one (pe_d D_is_number (hr.mono (by decide)) (by rfl) (pa_cons (pe_ix ix_tup (pv 0) pe_int (fun _ _ => rfl)) pa_nil)))))))), ?_⟩
  refine ⟨_, rfl, .ref a, .ty "tuple", .type "tuple", .type "tuple", true, rfl, .ty "tuple", .base (.tup hd), kit_ty (by decide +kernel), true, rfl, ?_⟩
  refine iteF ⟨_, rfl, a, _, rfl, .inr (SqT.of hd), rfl, _, rfl, iteF ?_⟩
  refine ⟨_, rfl, a, _, 0, _, rfl, rfl, SqT.of hd, rfl, d.1, 0, 2, rfl, true, ?_, iteF ?_⟩
  · rw [decide_eq_true ok.core]
  obtain ⟨c, x, y⟩ := d
  have sc : scal (.str x) (.str "call") = true := rfl
  rcases ok.rest with ⟨rfl, z, rfl, hz⟩ | ⟨hx, i, rfl, hi⟩
  · refine ⟨_, rfl, a, _, 1, _, rfl, rfl, SqT.of hd, rfl, rfl, _, rfl, iteT ?_⟩
    refine ⟨_, rfl, a, _, 2, _, rfl, rfl, SqT.of hd, rfl, z, rfl, hz, k H (Same.refl H)⟩
  · have hne : x ≠ ("call" : Str) := by rcases hx with rfl | rfl <;> decide
    refine ⟨_, rfl, a, _, 1, _, rfl, rfl, SqT.of hd, rfl, rfl, _, rfl, ?_⟩
    rw [decide_eq_false (fun q => hne (V.str.inj q))]
    refine iteF ⟨_, rfl, a, _, 1, _, rfl, rfl, SqT.of hd, rfl, by decide, fun p hp => ?_⟩
    have s1 : Same H (upd H p (.tup [.str "return", .str "step"])) := Same.new1 hp
    refine ⟨p, _, rfl, .inr (SqT.of (upd_same)), rfl, rfl, true, ?_, iteT ?_⟩
    · rcases hx with rfl | rfl <;> rfl
    · refine ⟨_, rfl, a, _, 2, _, rfl, rfl, SqT.of (s1 _ _ hd), rfl, i, rfl, ?_⟩
      rw [decide_eq_true hi]
      exact k _ s1
def spMove : Sp := fun vs H Q _ => ∃ v m n, vs = [v, .int n] ∧ MoveAt H v m ∧ DeedOk m.1 ∧ (0 ≤ m.2 ∧ m.2 ≤ n - 1) ∧ ∀ H', Same H H' → Q (.bl true) H'
theorem sc_is_move : FnScope (["move", "size"] : List Str) ["move", "size"] (defScope s_is_move) := ⟨rfl, rfl, rfl, by decide +kernel, rfl, by decide +kernel, by decide +kernel⟩
theorem ok_move (F : TF K "is_move" s_is_move) (T : Tx K mg) (D_is_whole : DOk P w K mg base 1 "is_whole" ["x", "least", "most"] spWhole) (D_is_deed : DOk P w K mg base 3 "is_deed" ["deed"] spDeed) :
    DOk P w K mg base 4 "is_move" ["move", "size"] spMove := by
  refine dok F T.g_is_move sc_is_move (fun vs H Q E h => ?_) (fun _ _ _ _ _ _ us hl => match us, hl with | [_, _], _ => rfl) (fun cdv A outer s H vs Q E hr h => ?_)
  · obtain ⟨v, m, n, rfl, _⟩ := h
    rfl
  obtain ⟨v, m, n, rfl, ⟨a, u, rfl, hm, hd⟩, ok, hn, k⟩ := h
  refine ⟨_, (pss_cons (ps_if (PW.pt (pw_or (pt_not (pt_val (pe_callB call_isi (by rfl) T.f_isinstance (by decide +kernel) (pa_cons (pv 0) (pa_cons (pe_bltn (v := .ty "tuple") (by rfl) T.f_tuple (by decide +kernel) rfl) pa_nil))))) (pw_or1 (pt_cmpR op_ne (pe_callB call_len_seq (by rfl) T.f_len (by decide +kernel) (pa_cons (pv 0) pa_nil)) pe_int (nomark _))))) (pss_one (ps_ret pe_bl)) pss_nil)
    (pss_one (ps_ret (pe_and (pe_d D_is_deed (hr.mono (by decide)) (by rfl) (pa_cons (pe_ix ix_tup (pv 0) pe_int (fun _ _ => rfl)) pa_nil)) (pe_one (pe_d D_is_whole (hr.mono (by decide)) (by rfl) (pa_cons (pe_ix ix_tup (pv 0) pe_int (fun _ _ => rfl)) (pa_cons pe_int (pa_cons (pe_op op_sub (pv 1) pe_int) pa_nil))))))))), ?_⟩
  refine ⟨_, rfl, .ref a, .ty "tuple", .type "tuple", .type "tuple", true, rfl, .ty "tuple", .base (.tup hm), kit_ty (by decide +kernel), true, rfl, ?_⟩
  refine iteF ⟨_, rfl, a, _, rfl, .inr (SqT.of hm), rfl, _, rfl, iteF ?_⟩
  refine ⟨_, rfl, a, _, 0, _, rfl, rfl, SqT.of hm, rfl, u, m.1, rfl, hd, ok, fun H1 s1 => ⟨_, rfl, iteT ?_⟩⟩
  refine ⟨_, rfl, a, _, 1, _, rfl, rfl, SqT.of (s1 _ _ hm), rfl, _, rfl, _, _, rfl, rfl, m.2, 0, _, rfl, ?_⟩
  rw [decide_eq_true hn]
  exact k _ s1
theorem sqSame {K : PySem.W.Frag} {H H' : Hp} {a : Addr} {xs : List V} (h : SqL K H a xs) (s : Same H H') : SqL K H' a xs :=
  h.imp (fun r => r.imp (fun e => s _ _ e) fun ⟨o, e⟩ => ⟨o, s _ _ e⟩) id
def spCell (K : PySem.W.Frag) : Sp := fun vs H Q _ => ∃ (a : Addr) (ns : List Int) (k : Int), vs = [.ref a, .int k] ∧ SqL K H a (ns.map V.int) ∧ ns.length ≤ 100000 ∧ (0 ≤ k ∧ k ≤ 1000) ∧ ∀ x, 0 ≤ x → Q (.int x) H
theorem sc__law_cell : FnScope (["_law_script", "_law_k", "_law_seed", "_law_one"] : List Str) ["_law_script", "_law_k"] (defScope s_cell_L) := ⟨rfl, rfl, rfl, by decide +kernel, rfl, by decide +kernel, by decide +kernel⟩
theorem ok_cell (F : TF K "_law_cell" s_cell_L) (T : Tx K mg) : DOk P w K mg base 1 "_law_cell" ["_law_script", "_law_k"] (spCell K) := by
  refine dok F T.g__law_cell sc__law_cell (fun vs H Q E h => ?_) (fun _ _ _ _ _ _ us hl => match us, hl with | [_, _], _ => rfl) (fun cdv A outer s H vs Q E hr h => ?_)
  · obtain ⟨a, ns, k, rfl, _⟩ := h
    rfl
  obtain ⟨a, ns, i, rfl, ha, hl, ⟨h0, h1⟩, k⟩ := h
  refine ⟨_, (pss_cons (ps_if (pt_cmpR op_lt (pv 1) (pe_callB call_len_seq (by rfl) T.f_len (by decide +kernel) (pa_cons (pv 0) pa_nil)) (nomark _)) (pss_one (ps_ret (pe_callB call_abs (by rfl) T.f_abs (by decide +kernel) (pa_cons (pe_callTy call_int1 (by rfl) T.f_int (by decide +kernel) (pa_cons (pe_ix ix_list (pv 0) (pv 1) (fun _ _ => rfl)) pa_nil)) pa_nil)))) pss_nil)
    (pss_cons (ps_set (i := 2) sc__law_cell.nd rfl (Or.inl rfl) (pe_op op_add (pe_op op_mul pe_int (pv 1)) (pe_callB call_len_seq (by rfl) T.f_len (by decide +kernel) (pa_cons (pv 0) pa_nil))))
    (pss_cons (ps_for PassesOwn.never rfl (pi_list (pv 0)) (pg_name (i := 3) sc__law_cell.nd rfl (Or.inl rfl)) (pss_one (ps_set (i := 2) sc__law_cell.nd rfl (Or.inl rfl) (pe_op op_mod (pe_callTy call_int1 (by rfl) T.f_int (by decide +kernel) (pa_cons (pe_op op_add (pe_op op_mul (pv 2) pe_int) (pe_callB call_abs (by rfl) T.f_abs (by decide +kernel) (pa_cons (pe_callTy call_int1 (by rfl) T.f_int (by decide +kernel) (pa_cons (pv 3) pa_nil)) pa_nil))) pa_nil)) pe_int))))
    (pss_one (ps_ret (pv 2)))))), ?_⟩
  refine ⟨_, rfl, _, rfl, a, _, rfl, .inl (ha), _, _, rfl, rfl, _, rfl, ?_⟩
  rw [List.length_map]
  refine ite2 (fun c => ?_) (fun c => ?_)
  · have c : i < (ns.length : Int) := of_decide_eq_true c
    have hn : ns[i.toNat]? = some (ns[i.toNat]'(by omega)) := List.getElem?_eq_getElem _
    refine ⟨_, rfl, _, rfl, a, _, _, _, rfl, rfl, ha, atI_ints h0 hn, .inl ⟨_, rfl, _, rfl, k _ ?_⟩⟩
    split <;> omega
  · refine ⟨_, rfl, _, _, rfl, rfl, .inl ⟨by decide, by decide⟩, _, rfl, a, _, rfl, .inl (ha), _, _, rfl, rfl, ?_⟩
    refine ⟨_, rfl, a, rfl, ⟨_, ha⟩, ?_⟩
    refine for_list (xs := ns.map V.int) (Pv := fun _ σ H1 => H1 = H ∧ ∃ (o : Option V) (x : Int), (0 ≤ x ∧ x ≤ 100000000) ∧ σ = [some (.ref a), some (.int i), some (.int x), o]) ⟨rfl, _, _, ⟨?_, ?_⟩, rfl⟩ ?_ ?_ ?_
    · omega
    · simp only [List.length_map]; omega
    · rintro j σ H1 _ ⟨rfl, o, x, _, rfl⟩
      exact ha
    · rintro j y σ H1 hy ⟨rfl, o, x, ⟨hx, hx'⟩, rfl⟩
      obtain ⟨n, hn, rfl⟩ := map_get hy
      refine ⟨_, rfl, _, _, rfl, rfl, .inr ⟨by decide, by decide⟩, _, rfl, .inl ⟨_, rfl, _, rfl, _, _, rfl, rfl, .inl ⟨_, rfl, _, _, rfl, rfl, (by decide : (0:Int) < 1000003), ?_⟩⟩⟩
      refine ⟨rfl, _, _, ⟨Int.emod_nonneg _ (by decide), ?_⟩, rfl⟩
      have := Int.emod_lt_of_pos (x * 31 + (if n < 0 then -n else n)) (b := 1000003) (by decide)
      omega
    · rintro σ H1 ⟨rfl, o, x, ⟨hx, _⟩, rfl⟩
      exact ⟨_, rfl, k x hx⟩
def spDraws : Sp := fun vs H Q _ => ∃ (c : Int) (a : Addr) (sp : List Int), vs = [.int c, .ref a] ∧ H a = some (.lst (sp.map V.int)) ∧ sp.length ≤ 100000 ∧ (∀ s ∈ sp, 0 < s ∧ s < 1000000) ∧ 0 ≤ c ∧
  ∀ (ds : List Int) p H', H p = none → Same H H' → H' p = some (.lst (ds.map V.int)) → Drawn sp ds → Q (.ref p) H'
theorem drawn_snoc {sp ds : List Int} {i : Nat} {s d : Int} (hl : ds.length = i) (h : ∀ (j : Nat) (s d : Int), sp[j]? = some s → ds[j]? = some d → 0 ≤ d ∧ d < s) (hs : sp[i]? = some s) (hd : 0 ≤ d ∧ d < s) :
    ∀ (j : Nat) (s d' : Int), sp[j]? = some s → (ds ++ [d])[j]? = some d' → 0 ≤ d' ∧ d' < s := by
  intro j s' d' e1 e2
  by_cases hj : j < ds.length
  · rw [List.getElem?_append_left hj] at e2
    exact h j s' d' e1 e2
  · have hj2 : j < (ds ++ [d]).length := (List.getElem?_eq_some_iff.mp e2).1
    rw [List.length_append] at hj2
    have : j = i := by simp at hj2; omega
    subst this
    subst hl
    rw [List.getElem?_append_right (Nat.le_refl _), Nat.sub_self] at e2
    rw [e1] at hs
    obtain rfl := Option.some.inj hs
    obtain rfl := Option.some.inj e2
    exact hd
theorem sc__law_draws : FnScope (["_law_cell_here", "_law_spans", "_law_left", "_law_out", "_law_k", "_law_one", "_law_two"] : List Str) ["_law_cell_here", "_law_spans"] (defScope s_draws_L) := ⟨rfl, rfl, rfl, by decide +kernel, rfl, by decide +kernel, by decide +kernel⟩
theorem ok_draws (F : TF K "_law_draws" s_draws_L) (T : Tx K mg) : DOk P w K mg base 1 "_law_draws" ["_law_cell_here", "_law_spans"] spDraws := by
  refine dok F T.g__law_draws sc__law_draws (fun vs H Q E h => ?_) (fun _ _ _ _ _ _ us hl => match us, hl with | [_, _], _ => rfl) (fun cdv A outer s H vs Q E hr h => ?_)
  · obtain ⟨c, a, sp, rfl, _⟩ := h
    rfl
  obtain ⟨c, a, sp, rfl, ha, hl, hsp, hc, k⟩ := h
  refine ⟨_, (pss_cons (ps_set (i := 2) sc__law_draws.nd rfl (Or.inl rfl) pe_int)
    (pss_cons (ps_if (pt_cmpR op_ge (pv 0) (pe_op op_pow pe_int pe_int) (nomark _)) (pss_one (ps_set (i := 2) sc__law_draws.nd rfl (Or.inl rfl) (pv 0))) pss_nil)
    (pss_cons (ps_set (i := 3) sc__law_draws.nd rfl (Or.inl rfl) (pe_lst pa_nil))
    (pss_cons (ps_for PassesOwn.never rfl (pi_range1 rfl T.f_range (pa_cons (pe_callB call_len_seq (by rfl) T.f_len (by decide +kernel) (pa_cons (pv 1) pa_nil)) pa_nil)) (pg_name (i := 4) sc__law_draws.nd rfl (Or.inl rfl)) (pss_one (ps_if (pt_cmpR op_gt (pv 2) pe_int (nomark _)) (pss_cons (ps_expr (pe_bm PySem.F.plainAttrs_list PySem.F.slot_list_append PySem.F.type_list_append mt_append (pv 3) (pa_cons (pe_op op_mod (pe_callTy call_int1 (by rfl) T.f_int (by decide +kernel) (pa_cons (pv 2) pa_nil)) (pe_ix ix_list (pv 1) (pv 4) (fun _ _ => rfl))) pa_nil)))
    (pss_one (ps_set (i := 2) sc__law_draws.nd rfl (Or.inl rfl) (pe_op op_fdiv (pe_callTy call_int1 (by rfl) T.f_int (by decide +kernel) (pa_cons (pv 2) pa_nil)) (pe_ix ix_list (pv 1) (pv 4) (fun _ _ => rfl)))))) (pss_cons (ps_set (i := 5) sc__law_draws.nd rfl (Or.inl rfl) (pe_op op_mod (pe_callTy call_int1 (by rfl) T.f_int (by decide +kernel) (pa_cons (pe_op op_add (pe_op op_mul (pv 0) pe_int) (pe_op op_mul (pe_op op_add (pv 4) pe_int) pe_int)) pa_nil)) pe_int))
    (pss_cons (ps_set (i := 6) sc__law_draws.nd rfl (Or.inl rfl) (pe_op op_mod (pe_callTy call_int1 (by rfl) T.f_int (by decide +kernel) (pa_cons (pe_op op_add (pe_op op_add (pe_op op_mul (pv 5) (pv 5)) (pe_op op_mul pe_int (pv 4))) (pv 0)) pa_nil)) pe_int))
    (pss_one (ps_expr (pe_bm PySem.F.plainAttrs_list PySem.F.slot_list_append PySem.F.type_list_append mt_append (pv 3) (pa_cons (pe_op op_mod (pe_op op_mod (pe_callTy call_int1 (by rfl) T.f_int (by decide +kernel) (pa_cons (pe_op op_add (pe_op op_mul (pv 6) (pv 6)) (pv 5)) pa_nil)) pe_int) (pe_ix ix_list (pv 1) (pv 4) (fun _ _ => rfl))) pa_nil)))))))))
    (pss_one (ps_ret (pv 3))))))), ?_⟩
  refine ⟨_, rfl, _, _, rfl, rfl, ⟨by decide, by decide, by decide⟩, _, _, rfl, rfl, _, rfl, ?_⟩

  refine ite2 (fun _ => ⟨_, rfl, ?_⟩) (fun _ => ?_)
  all_goals
    refine ⟨Nat.zero_le _, fun q hq => ?_⟩
    have haq : a ≠ q := by rintro rfl; rw [ha] at hq; cases hq
    refine ⟨_, rfl, a, _, rfl, .inl (SqL.of (by rw [upd_ne haq]; exact ha)), _, rfl, by simp only [List.length_map]; omega, by simp only [List.length_map]; omega, ?_⟩
    rw [show ((sp.map V.int).length : Int).toNat = sp.length by simp]
    refine for_range (Pv := fun i σ H1 => ∃ (x : Int) (o o1 o2 : Option V) (ds : List Int), 0 ≤ x ∧ ds.length = i ∧ (∀ (j : Nat) (s d : Int), sp[j]? = some s → ds[j]? = some d → 0 ≤ d ∧ d < s) ∧
      Same H H1 ∧ H1 q = some (.lst (ds.map V.int)) ∧ σ = [some (.int c), some (.ref a), some (.int x), some (.ref q), o, o1, o2]) ?_ ?_ ?_
    · exact ⟨_, _, _, _, [], by first | exact hc | decide, rfl, fun j s d _ e => by simp at e, Same.new1 hq, upd_same, rfl⟩
    · rintro i σ H1 hi ⟨x, o, o1, o2, ds, hx, hds, hr', s1, h1, rfl⟩
      have hi' : i < sp.length := hi
      have hs : sp[i]? = some sp[i] := List.getElem?_eq_getElem hi'
      have hpos := hsp _ (List.getElem_mem hi')
      have hat : atI (sp.map V.int) (0 + (i : Int)) = some (.int sp[i]) := atI_ints (by omega) (by rw [show (0 + (i : Int)).toNat = i by omega]; exact hs)
      refine ⟨_, rfl, _, _, rfl, rfl, _, rfl, ite2 (fun hxx => ?_) (fun _ => ?_)⟩
      · refine ⟨_, rfl, tyL h1, _, rfl, .inl ⟨_, rfl, _, rfl, _, rfl, a, _, _, _, rfl, rfl, SqL.of (s1 _ _ ha), hat, _, _, rfl, rfl, hpos.1, ?_⟩⟩
        refine ⟨q, _, _, rfl, rfl, h1, szLt (by simp; omega), ?_⟩
        have s2 : Same H (upd H1 q (.lst (ds.map V.int ++ [.int (x % sp[i])]))) := Same.mut s1 hq
        refine ⟨_, rfl, .inl ⟨_, rfl, _, rfl, _, rfl, a, _, _, _, rfl, rfl, SqL.of (s2 _ _ ha), hat, _, _, rfl, rfl, ⟨hpos.1, by omega⟩, ?_⟩⟩
        refine ⟨_, _, _, _, ds ++ [x % sp[i]], Int.ediv_nonneg hx (by omega), by simp [hds], drawn_snoc hds hr' hs ⟨Int.emod_nonneg _ (by omega), Int.emod_lt_of_pos _ hpos.1⟩, s2, ?_, rfl⟩
        rw [upd_same, List.map_append]
        rfl
      · refine ⟨_, rfl, _, _, rfl, rfl, .inr ⟨by decide, by decide⟩, _, rfl, _, _, rfl, rfl, _, _, rfl, rfl, .inr ⟨by decide, by decide⟩, _, _, rfl, rfl, .inl ⟨_, rfl, _, _, rfl, rfl, (by decide : (0:Int) < 2147483647), ?_⟩⟩
        refine ⟨_, rfl, _, rfl, _, _, rfl, rfl, .inl ⟨?_, ?_⟩, _, rfl, _, _, rfl, rfl, .inl ⟨by decide, by decide⟩, _, _, rfl, rfl, _, rfl, _, _, rfl, rfl, .inl ⟨_, rfl, _, _, rfl, rfl, (by decide : (0:Int) < 1000003), ?_⟩⟩
        · have := Int.emod_nonneg (c * 48271 + (0 + (i : Int) + 1) * 69621) (b := 2147483647) (by decide)
          omega
        · have := Int.emod_lt_of_pos (c * 48271 + (0 + (i : Int) + 1) * 69621) (b := 2147483647) (by decide)
          omega
        refine ⟨_, rfl, tyL h1, _, rfl, _, rfl, _, _, rfl, rfl, .inl ⟨by omega, by omega⟩, _, rfl, _, _, rfl, rfl, .inl ⟨_, rfl, _, _, rfl, rfl, (by decide : (0:Int) < 999983), _, rfl, _, rfl, a, _, _, _, rfl, rfl, SqL.of (s1 _ _ ha), hat, _, _, rfl, rfl, hpos.1, ?_⟩⟩
        refine ⟨q, _, _, rfl, rfl, h1, szLt (by simp; omega), ?_⟩
        refine ⟨x, _, _, _, ds ++ [_], hx, by simp [hds], drawn_snoc hds hr' hs ⟨Int.emod_nonneg _ (by omega), Int.emod_lt_of_pos _ hpos.1⟩, Same.mut s1 hq, ints_snoc, rfl⟩
    · rintro σ H1 ⟨x, o, o1, o2, ds, hx, hds, hr', s1, h1, rfl⟩
      refine ⟨_, rfl, k ds q H1 hq s1 h1 ⟨hds, hr'⟩⟩
end
end Ct
set_option maxHeartbeats 2000000
/-! Deep values: deeds, pairs, ints as PyData; a dict that is a list of ints; a web. -/
namespace Ct
open PySem PySem.Spec PyProof.Rows L2 Nd
open PySem.PyData in
/-- it can be laid, and is at most n deep -/
structure Ly (n : Nat) (d : PyData) : Prop where
  can : canLay0 d = true
  dep : depth d ≤ n
theorem Ly.shaped {n : Nat} {d : PyData} (h : Ly n d) (hn : n ≤ 64) : SeqAt.shaped d = true := by
  unfold SeqAt.shaped
  rw [h.can, decide_eq_true (Nat.le_trans h.dep hn)]
  rfl
theorem ly_int (n : Nat) (i : Int) : Ly n (.int i) := ⟨by simp only [PyData.canLay0], by simp only [PyData.depth]; omega⟩
theorem ly_bl (n : Nat) (b : Bool) : Ly n (.bool b) := ⟨by simp only [PyData.canLay0], by simp only [PyData.depth]; omega⟩
theorem ly_str {n : Nat} {z : Str} (h : PyData.strOk z = true) : Ly n (.str z) := ⟨by simp only [PyData.canLay0, h], by simp only [PyData.depth]; omega⟩
theorem ly_all {n : Nat} : ∀ {ds : List PyData}, (∀ d ∈ ds, Ly n d) → PyData.canLayAll0 ds = true ∧ PyData.depthAll ds ≤ n
  | [], _ => ⟨by simp only [PyData.canLayAll0], by simp only [PyData.depthAll]; omega⟩
  | d :: ds, h => by
    obtain ⟨h1, h2⟩ := ly_all fun x hx => h x (List.mem_cons_of_mem _ hx)
    have h3 := h d (List.mem_cons_self ..)
    refine ⟨by simp only [PyData.canLayAll0, h3.can, h1, Bool.and_self], ?_⟩
    simp only [PyData.depthAll]
    exact Nat.max_le.mpr ⟨h3.dep, h2⟩
theorem ly_list {n : Nat} {ds : List PyData} (h : ∀ d ∈ ds, Ly n d) : Ly (n + 1) (.list ds) := by
  obtain ⟨h1, h2⟩ := ly_all h
  exact ⟨by simp only [PyData.canLay0, h1], by simp only [PyData.depth]; omega⟩
theorem ly_tup {n : Nat} {ds : List PyData} (h : ∀ d ∈ ds, Ly n d) : Ly (n + 1) (.tuple ds) := by
  obtain ⟨h1, h2⟩ := ly_all h
  exact ⟨by simp only [PyData.canLay0, h1], by simp only [PyData.depth]; omega⟩
def kD : Key → PyData
  | .inl i => .int i
  | .inr z => .str z
def deedD (d : Deed) : PyData := .tuple [.int d.1, .str d.2.1, kD d.2.2]
def intsD (l : List Int) : PyData := .list (l.map PyData.int)
def pairD (p : Pr) : PyData := .tuple [.int p.1, .int p.2]
theorem abc_ok : ∀ c ∈ abc.cps.toList, c < 0x110000 := by decide +kernel
theorem NameOk.strOk {z : Str} (h : NameOk z) : PyData.strOk z = true := by
  unfold PyData.strOk
  rw [← Array.all_toList, List.all_eq_true]
  intro c hc
  obtain ⟨i, hi⟩ := List.getElem?_of_mem hc
  exact decide_eq_true (abc_ok c (h.el i c (by rw [← Array.getElem?_toList]; exact hi)))
theorem DeedOk.ly {d : Deed} (h : DeedOk d) : Ly 1 (deedD d) := by
  refine ly_tup fun x hx => ?_
  simp only [List.mem_cons, List.not_mem_nil, or_false] at hx
  rcases hx with rfl | rfl | rfl
  · exact ly_int 0 _
  · refine ly_str ?_
    rcases h.rest with ⟨e, _⟩ | ⟨e | e, _⟩ <;> rw [e] <;> decide +kernel
  · rcases h.rest with ⟨_, z, e, hz⟩ | ⟨_, i, e, _⟩ <;> rw [e]
    · exact ly_str hz.strOk
    · exact ly_int 0 _
theorem DeedOk.shaped {d : Deed} (h : DeedOk d) : SeqAt.shaped (deedD d) = true := h.ly.shaped (by decide)
theorem ly_ints (l : List Int) : Ly 1 (intsD l) := ly_list fun d hd => by
  obtain ⟨i, _, rfl⟩ := List.mem_map.mp hd
  exact ly_int 0 i
theorem ly_pair (p : Pr) : Ly 1 (pairD p) := ly_tup fun d hd => by
  simp only [List.mem_cons, List.not_mem_nil, or_false] at hd
  rcases hd with rfl | rfl <;> exact ly_int 0 _
theorem eqv_k (a b : Key) : PyData.eqv (kD a) (kD b) = decide (a = b) := by
  rcases a with a | a <;> rcases b with b | b <;> simp [kD, PyData.eqv, Sum.inl.injEq, Sum.inr.injEq] <;> first | exact (by cases h : (a == b) <;> simp_all) | rfl
theorem eqv_deed (a b : Deed) : PyData.eqv (deedD a) (deedD b) = decide (a = b) := by
  obtain ⟨a1, a2, a3⟩ := a
  obtain ⟨b1, b2, b3⟩ := b
  simp only [deedD, PyData.eqv, PyData.eqvAll, eqv_k, Bool.and_true]
  have e1 : (a1 == b1) = decide (a1 = b1) := rfl
  have e2 : (a2 == b2) = decide (a2 = b2) := by cases h : (a2 == b2) <;> simp_all
  rw [e1, e2, ← Bool.decide_and, ← Bool.decide_and]
  exact decide_eq_decide.mpr (by rw [Prod.mk.injEq, Prod.mk.injEq])
theorem eqvAll_ints : ∀ a b : List Int, PyData.eqvAll (a.map PyData.int) (b.map PyData.int) = decide (a = b)
  | [], [] => rfl
  | [], _ :: _ => rfl
  | _ :: _, [] => rfl
  | x :: a, y :: b => by
    have e : (x == y) = decide (x = y) := rfl
    simp only [List.map_cons, PyData.eqvAll, PyData.eqv, eqvAll_ints a b]
    rw [e, ← Bool.decide_and]
    exact decide_eq_decide.mpr (by rw [List.cons.injEq])
theorem eqv_ints (a b : List Int) : PyData.eqv (intsD a) (intsD b) = decide (a = b) := by
  simp only [intsD, PyData.eqv, eqvAll_ints]
theorem eqv_pair (a b : Pr) : PyData.eqv (pairD a) (pairD b) = decide (a = b) := by
  obtain ⟨a1, a2⟩ := a
  obtain ⟨b1, b2⟩ := b
  have e1 : (a1 == b1) = decide (a1 = b1) := rfl
  have e2 : (a2 == b2) = decide (a2 = b2) := rfl
  simp only [pairD, PyData.eqv, PyData.eqvAll, Bool.and_true]
  rw [e1, e2, ← Bool.decide_and]
  exact decide_eq_decide.mpr (by rw [Prod.mk.injEq])
section
variable {K : PySem.W.Frag} {H : Hp} {v : V}
theorem dpAll_map {α : Type} {F : V → α → Prop} {f : α → PyData} (h : ∀ v x, F v x → Dp K H v (f x)) : ∀ {vs : List V} {l : List α}, Paired F vs l → DpAll K H vs (l.map f)
  | _, _, .nil => .nil
  | _, _, .cons r t => .cons (h _ _ r) (dpAll_map h t)
theorem DeedAt.dp {d : Deed} (h : DeedAt H v d) : Dp K H v (deedD d) := by
  obtain ⟨a, rfl, e⟩ := h
  refine .tup (SqT.of e) (.cons (.int _) (.cons (.str _) (.cons ?_ .nil)))
  rcases d.2.2 with i | z
  · exact .int i
  · exact .str z
theorem PairAt.dp {p : Pr} (h : PairAt H v p) : Dp K H v (pairD p) := by
  obtain ⟨a, rfl, e⟩ := h
  exact .tup (SqT.of e) (.cons (.int _) (.cons (.int _) .nil))
theorem IntsAt.dp {l : List Int} (h : IntsAt H v l) : Dp K H v (intsD l) := by
  obtain ⟨a, rfl, e⟩ := h
  refine .lst (SqL.of e) ?_
  clear e
  induction l with
  | nil => exact .nil
  | cons i l ih => exact .cons (.int i) ih
theorem ListAt.dp {α : Type} {F : Hp → V → α → Prop} {f : α → PyData} {l : List α} (h : ListAt F H v l) (g : ∀ v x, F H v x → Dp K H v (f x)) : Dp K H v (.list (l.map f)) := by
  obtain ⟨a, vs, rfl, e, p⟩ := h
  exact .lst (SqL.of e) (dpAll_map g p)
end
theorem any_of {α : Type} {f : α → PyData} (h : ∀ a b : α, PyData.eqv (f a) (f b) = true ↔ a = b) (l : List α) (d : α) : ((l.map f).any fun z => PyData.eqv z (f d)) = true ↔ d ∈ l := by
  rw [List.any_map, List.any_eq_true]
  exact ⟨fun ⟨x, hx, e⟩ => (h x d).mp e ▸ hx, fun hd => ⟨d, hd, (h d d).mpr rfl⟩⟩
theorem any_not {α : Type} {f : α → PyData} (h : ∀ a b : α, PyData.eqv (f a) (f b) = true ↔ a = b) (l : List α) (d : α) : (!(l.map f).any fun z => PyData.eqv z (f d)) = true ↔ d ∉ l := by
  rw [← any_of h l d, Bool.not_eq_true', Bool.not_eq_true]
theorem eqv_deed' (a b : Deed) : PyData.eqv (deedD a) (deedD b) = true ↔ a = b := by rw [eqv_deed, decide_eq_true_iff]
theorem eqv_ints' (a b : List Int) : PyData.eqv (intsD a) (intsD b) = true ↔ a = b := by rw [eqv_ints, decide_eq_true_iff]
/-! ### a dict of ints, each with True -/
def tagK (l : List Int) : List (Key × V) := l.map fun i => (.inl i, .bl true)
theorem tag_get (l : List Int) (i : Int) : (valV (tagK l) (.inl i)).isSome = decide (i ∈ l) := by
  induction l with
  | nil => rfl
  | cons x l ih =>
    by_cases e : x = i
    · subst e
      rw [tagK, List.map_cons, valV_pos rfl, decide_eq_true (List.mem_cons_self ..)]
      rfl
    · rw [tagK, List.map_cons, valV_neg (fun q => e (Sum.inl.inj q))]
      exact ih.trans (decide_eq_decide.mpr ⟨List.mem_cons_of_mem _, fun h => (List.mem_cons.mp h).resolve_left fun q => e q.symm⟩)
theorem tag_new {l : List Int} {i : Int} (h : i ∉ l) : putK (tagK l) (.inl i) (.bl true) = tagK (l ++ [i]) := by
  have e : valV (tagK l) (.inl i) = none := by
    have := tag_get l i
    rw [decide_eq_false h] at this
    exact Option.isSome_eq_false_iff.mp this |> Option.isNone_iff_eq_none.mp
  rw [putK_new _ e, tagK, tagK, List.map_append]
  rfl
theorem tag_old {l : List Int} {i : Int} (h : i ∈ l) : putK (tagK l) (.inl i) (.bl true) = tagK l := by
  have a : ((tagK l).any fun kv => decide (kv.1 = (Sum.inl i : Key))) = true := by
    rw [valV_any, tag_get, decide_eq_true h]
  unfold putK
  rw [if_pos a]
  unfold tagK
  rw [List.map_map]
  refine List.map_congr_left fun x _ => ?_
  show (if (Sum.inl x : Key) = .inl i then _ else _) = _
  split <;> rfl
theorem tag_keys (l : List Int) : (tagK l).map (fun kv => kV kv.1) = l.map V.int := by
  unfold tagK
  rw [List.map_map]
  rfl
theorem tag_len (l : List Int) : (tagK l).length = l.length := List.length_map ..
/-! ### a web -/
def WebAt (K : PySem.W.Frag) (H : Hp) (v : V) (R : Rows) : Prop := ∃ a dx r, v = .ref a ∧ H a = some (.ins (He.ga K "Web") dx [("own_rows", r)]) ∧ RowsAt H r R
theorem WebAt.mono {K : PySem.W.Frag} {H H' : Hp} {v : V} {R : Rows} (h : WebAt K H v R) (s : Same H H') : WebAt K H' v R := let ⟨a, dx, r, e, q, x⟩ := h; ⟨a, dx, r, e, s _ _ q, x.mono s⟩
/-- the row of a place -/
theorem RowsAt.row {H : Hp} {v : V} {R : Rows} {i : Int} (h : RowsAt H v R) (hi : CM.InR R.length i) : ∃ a vs m, v = .ref a ∧ H a = some (.lst vs) ∧ vs.length = R.length ∧ atI vs i = some m ∧ MovesAt H m (CM.row R i) := by
  obtain ⟨a, vs, rfl, e, p⟩ := h
  have h1 : i.toNat < R.length := by have h2 := hi.1; have := hi.2; omega
  obtain ⟨m, hm, q⟩ := paired_getR p (List.getElem?_eq_getElem h1)
  refine ⟨a, vs, m, rfl, e, paired_len p, atI_of hi.1 hm, ?_⟩
  have : CM.row R i = R[i.toNat] := by
    unfold CM.row
    rw [List.getD_eq_getElem?_getD, List.getElem?_eq_getElem h1]
    rfl
  rw [this]
  exact q
theorem atI_lt {vs : List V} {i : Int} {v : V} (h : atI vs i = some v) (h0 : 0 ≤ i) : vs[i.toNat]? = some v := by
  unfold atI ixN at h
  rw [if_pos h0] at h
  split at h
  · exact h
  · cases h
end Ct
/-! The kinds of keys; tables. -/
namespace Ct
open PySem PySem.Spec PyProof.Rows L2 Nd
def kN : Key → NK
  | .inl i => .num i
  | .inr z => .text z
def deedN (d : Deed) : NK := .tup [.num d.1, .text d.2.1, kN d.2.2]
def pairN (p : Pr) : NK := .tup [.num p.1, .num p.2]
theorem kN_inj {a b : Key} (h : kN a = kN b) : a = b := by
  rcases a with a | a <;> rcases b with b | b <;> simp [kN] at h <;> rw [h]
theorem deedN_inj {a b : Deed} (h : deedN a = deedN b) : a = b := by
  obtain ⟨a1, a2, a3⟩ := a
  obtain ⟨b1, b2, b3⟩ := b
  simp only [deedN, NestedKey.tup.injEq, List.cons.injEq, NestedKey.num.injEq, NestedKey.text.injEq, and_true] at h
  obtain ⟨h1, h2, h3⟩ := h
  rw [h1, h2, kN_inj h3]
theorem pairN_inj {a b : Pr} (h : pairN a = pairN b) : a = b := by
  obtain ⟨a1, a2⟩ := a
  obtain ⟨b1, b2⟩ := b
  simp only [pairN, NestedKey.tup.injEq, List.cons.injEq, NestedKey.num.injEq, and_true] at h
  rw [h.1, h.2]
theorem kN_depth (a : Key) : (kN a).depth = 0 := by rcases a with a | a <;> rfl
theorem nums_inj : ∀ {a b : List Int}, a.map NestedKey.num = b.map NestedKey.num → a = b
  | [], [], _ => rfl
  | [], _ :: _, h => by simp at h
  | _ :: _, [], h => by simp at h
  | x :: a, y :: b, h => by
    simp only [List.map_cons, List.cons.injEq, NestedKey.num.injEq] at h
    rw [h.1, nums_inj h.2]
theorem nums_depth (l : List Int) : (NestedKey.tup (l.map NestedKey.num)).depth ≤ 1 := by
  have : ∀ l : List Int, NestedKey.depthAll (l.map NestedKey.num) = 0 := by
    intro l
    induction l with
    | nil => rfl
    | cons x l ih => simp only [List.map_cons, NestedKey.depthAll, NestedKey.depth, ih]; rfl
  simp only [NestedKey.depth, this]
  decide
def TD : KeyTy (Int × Deed) where
  enc q := .tup [.num q.1, deedN q.2]
  inj a b h := by
    simp only [NestedKey.tup.injEq, List.cons.injEq, NestedKey.num.injEq, and_true] at h
    exact Prod.ext h.1 (deedN_inj h.2)
  deep a := by simp only [deedN, NestedKey.depth, NestedKey.depthAll, kN_depth]; decide
def TDeed : KeyTy Deed where
  enc := deedN
  inj a b h := deedN_inj h
  deep a := by simp only [deedN, NestedKey.depth, NestedKey.depthAll, kN_depth]; decide
def TP : KeyTy Pr where
  enc := pairN
  inj a b h := pairN_inj h
  deep a := by simp only [pairN, NestedKey.depth, NestedKey.depthAll]; decide
def TPl : KeyTy (Pr × Int) where
  enc q := .tup [pairN q.1, .num q.2]
  inj a b h := by
    simp only [NestedKey.tup.injEq, List.cons.injEq, NestedKey.num.injEq, and_true] at h
    exact Prod.ext (pairN_inj h.1) h.2
  deep a := by simp only [pairN, NestedKey.depth, NestedKey.depthAll]; decide
def TW : KeyTy (Int × List Int) where
  enc q := .tup [.num q.1, .tup (q.2.map NestedKey.num)]
  inj a b h := by
    simp only [NestedKey.tup.injEq, List.cons.injEq, NestedKey.num.injEq, and_true] at h
    exact Prod.ext h.1 (nums_inj h.2)
  deep a := by
    have := nums_depth a.2
    simp only [NestedKey.depth, NestedKey.depthAll] at this ⊢
    omega
section
variable {H : Hp} {v u : V} {a : Addr}
theorem DeedAt.key {d : Deed} (h : DeedAt H v d) : KeyAt H v (deedN d) := by
  obtain ⟨a, rfl, e⟩ := h
  refine .tup e (.cons (.num _) (.cons (.text _) (.cons ?_ .nil)))
  rcases d.2.2 with i | z
  · exact .num i
  · exact .text z
theorem DeedAt.isD {d : Deed} (h : DeedAt H v d) : IsK H v (TDeed.enc d) := by
  obtain ⟨b, rfl, _⟩ := id h
  exact ⟨b, rfl, h.key, TDeed.deep d⟩
theorem PairAt.key {p : Pr} (h : PairAt H v p) : KeyAt H v (pairN p) := by
  obtain ⟨a, rfl, e⟩ := h
  exact .tup e (.cons (.num _) (.cons (.num _) .nil))
theorem PairAt.isP {p : Pr} (h : PairAt H v p) : IsK H v (TP.enc p) := by
  obtain ⟨b, rfl, _⟩ := id h
  exact ⟨b, rfl, h.key, TP.deep p⟩
theorem isTD {i : Int} {d : Deed} (h : DeedAt H v d) (e : H a = some (.tup [.int i, v])) : IsK H (.ref a) (TD.enc (i, d)) := ⟨a, rfl, .tup e (.cons (.num _) (.cons h.key .nil)), TD.deep _⟩
theorem isTPl {i : Int} {p : Pr} (h : PairAt H v p) (e : H a = some (.tup [v, .int i])) : IsK H (.ref a) (TPl.enc (p, i)) := ⟨a, rfl, .tup e (.cons h.key (.cons (.num _) .nil)), TPl.deep _⟩
theorem DM.at {κ : Type} {T : KeyTy κ} {w : World} {qs : List κ} {f : κ → V} (h : DM T w H a qs f) : ∃ o, H a = some (dob a o) := let ⟨o, x⟩ := h; ⟨o, x.1⟩
theorem DM.notTup {κ : Type} {T : KeyTy κ} {w : World} {qs : List κ} {f : κ → V} (h : DM T w H a qs f) : ∀ xs, H a ≠ some (.tup xs) := fun xs e => by
  obtain ⟨o, ho⟩ := DM.at h
  rw [e] at ho
  cases ho
theorem DM.notLst {κ : Type} {T : KeyTy κ} {w : World} {qs : List κ} {f : κ → V} (h : DM T w H a qs f) {b : Addr} {xs : List V} (e : H b = some (.lst xs)) : b ≠ a := by
  rintro rfl
  obtain ⟨o, ho⟩ := DM.at h
  rw [e] at ho
  cases ho
theorem IntsAt.upd {l : List Int} {o : HO} (h : IntsAt H v l) (hn : v ≠ .ref a) : IntsAt (upd H a o) v l := by
  obtain ⟨b, rfl, e⟩ := h
  exact ⟨b, rfl, by rw [upd_ne (fun q => hn (by rw [q]))]; exact e⟩
theorem MovesAt.upd {l : List Move} {o : HO} (h : MovesAt H v l) (hn : v ≠ .ref a) (ht : ∀ xs, H a ≠ some (.tup xs)) : MovesAt (upd H a o) v l := by
  obtain ⟨b, vs, rfl, e, p⟩ := h
  exact ⟨b, vs, rfl, by rw [upd_ne (fun q => hn (by rw [q]))]; exact e, Paired.mapP p fun v m q => q.mono (Tups.upd ht)⟩
end
/-- the table of replies -/
structure Tab (w : World) (H : Hp) (a : Addr) (R : Rows) (ds : List Deed) : Prop where
  ex : ∃ (qs : List (Int × Deed)) (f : Int × Deed → V), DM TD w H a qs f ∧ (∀ i d, CM.InR R.length i → d ∈ ds → hid d = false → (i, d) ∈ qs) ∧ ∀ q ∈ qs, IntsAt H (f q) (CM.reps hid R q.1 q.2)
theorem Tab.mono {w : World} {H H' : Hp} {a : Addr} {R : Rows} {ds : List Deed} (h : Tab w H a R ds) (s : Same H H') : Tab w H' a R ds := by
  obtain ⟨qs, f, d, h1, h2⟩ := h.ex
  obtain ⟨o, ho⟩ := DM.at d
  exact ⟨qs, f, d.mono (by rw [s _ _ ho, ho]) (Tups.same s), h1, fun q hq => (h2 q hq).mono s⟩
end Ct
set_option maxHeartbeats 4000000
/-! sorted(moves): moves are (deed, place); what stands at the third place of a deed has the kind that the second tells. -/
namespace Ct
section
open PySem PySem.Spec PyProof.Rows PySem.SeqAt
open PySem.AutoSeq1 (wpAny_loadPart')
open PySem.MeetsSeq PySem.MeetsSeq2 PySem.MeetsSeq3
/-- a < b of tuples; only where they differ first, their items' < is asked for -/
theorem tup_less (p q : Addr) (us vs : Array Value) (nu nv : Nat) (du dv : Option Addr) (su sv : Array (Option Value)) (eq less : Nat → Bool) :
    Meets (Builtin.«tuple.__lt__» ⟨[.ref p, .ref q], []⟩) (fun A R s =>
      s.heap.get? p = some { cls := .type "tuple", dict := du, data := .seq us nu, slots := su } ∧ s.heap.get? q = some { cls := .type "tuple", dict := dv, data := .seq vs nv, slots := sv } ∧
      (∀ j (h1 : j < us.size) (h2 : j < vs.size), (∀ i, i < j → eq i = true) → EqAt A.in1 s us[j] vs[j] (eq j)) ∧
      (∀ j (h1 : j < us.size) (h2 : j < vs.size), (∀ i, i < j → eq i = true) → eq j = false → PySem.SeqAt.RcLt A.in1 s us[j] vs[j] (less j)) ∧
      R (.ok (.ret (.bool (PySem.SeqAt.firstLt eq less (decide (us.size < vs.size)) (List.range (min us.size vs.size)))))) s) := by
  refine .of_wp fun prog w A R s0 H => ?_
  obtain ⟨hp0, g0, d0, tk0, os0⟩ := s0
  obtain ⟨Hp, Hq, He, Hl, HR⟩ := H
  have sub2 := AutoSeq1.sub_tuple_tuple
  have len2 : (us.toList.zip vs.toList).length = min us.size vs.size := by simp
  wp_walk using wpAny_loadPart' Hp, wpAny_loadPart' Hq, wpAny_forIn_list _ (fun todo acc s1 => acc.1 = none ∧ s1 = ⟨hp0, g0, d0, tk0, os0⟩ ∧ ∃ i, todo = (us.toList.zip vs.toList).drop i ∧ (∀ j, j < i → eq j = true) ∧
    R (.ok (.ret (.bool (PySem.SeqAt.firstLt eq less (decide (us.size < vs.size)) ((List.range (min us.size vs.size)).drop i))))) ⟨hp0, g0, d0, tk0, os0⟩) _
  case turn =>
    rintro ⟨u, v⟩ todo acc s1 ⟨_, rfl, i, hdrop, hbef, HR⟩
    have il : i < (us.toList.zip vs.toList).length := by
      rcases Nat.lt_or_ge i (us.toList.zip vs.toList).length with c | c
      · exact c
      · rw [List.drop_of_length_le c] at hdrop
        cases hdrop
    have im : i < min us.size vs.size := len2 ▸ il
    have iu : i < us.size := by omega
    have iv : i < vs.size := by omega
    rw [List.drop_eq_getElem_cons il] at hdrop
    injection hdrop with hpair hrest
    obtain rfl : u = us[i] := by simpa using congrArg Prod.fst hpair
    obtain rfl : v = vs[i] := by simpa using congrArg Prod.snd hpair
    rw [show (List.range (min us.size vs.size)).drop i = i :: (List.range (min us.size vs.size)).drop (i + 1) by simp [List.drop_eq_getElem_cons, im]] at HR
    refine wpAny_bind (He i iu iv hbef prog w _ _ ?_)
    cases hc : eq i with
    | true =>
      rw [PySem.SeqAt.firstLt_yes hc] at HR
      wp_walk
      exact ⟨rfl, rfl, i + 1, hrest, fun j hj => by
        by_cases e : j = i
        · rw [e]
          exact hc
        · exact hbef j (by omega), HR⟩
    | false =>
      rw [PySem.SeqAt.firstLt_no hc] at HR
      have less_i := Hl i iu iv hbef hc prog w
      wp_walk using less_i
      exact ⟨_, rfl, HR⟩
  case fin =>
    rintro ⟨x1, x2⟩ s1 ⟨hx, rfl, i, hdrop, _, HR⟩
    simp only at hx
    subst hx
    have ge : min us.size vs.size ≤ i := by
      rcases Nat.lt_or_ge i (us.toList.zip vs.toList).length with c | c
      · rw [List.drop_eq_getElem_cons c] at hdrop
        cases hdrop
      · exact len2 ▸ c
    rw [List.drop_of_length_le (by simpa using ge)] at HR
    wp_walk
    exact ⟨_, rfl, by simpa [Builtin.Tuple.tupleCompareSizes, PySem.SeqAt.firstLt] using HR⟩
  case h =>
    exact ⟨rfl, rfl, 0, rfl, fun j hj => absurd hj (Nat.not_lt_zero _), by simpa using HR⟩
theorem less_tuples {A : Around} {s : Shared} {p q : Addr} {us vs : Array Value} {eq less : Nat → Bool} (hu : s.heap.IsTuple p us) (hv : s.heap.IsTuple q vs) (hA : A.units < cLine)
    (he : ∀ j (h1 : j < us.size) (h2 : j < vs.size), (∀ i, i < j → eq i = true) → EqAt A.in1 s us[j] vs[j] (eq j))
    (hl : ∀ j (h1 : j < us.size) (h2 : j < vs.size), (∀ i, i < j → eq i = true) → eq j = false → PySem.SeqAt.RcLt A.in1 s us[j] vs[j] (less j)) :
    PySem.SeqAt.RcLt A s (.ref p) (.ref q) (PySem.SeqAt.firstLt eq less (decide (us.size < vs.size)) (List.range (min us.size vs.size))) := fun prog w E Q h => by
  obtain ⟨⟨cu, du, datu, su⟩, ho, hc, n, hd⟩ := id hu
  obtain ⟨⟨cv, dv, datv, sv⟩, ho2, hc2, n2, hd2⟩ := id hv
  simp only at hc hd hc2 hd2
  subst hc hd hc2 hd2
  exact richCompare_meets_room (op := .Lt) ⟨_, ho, rfl⟩ ⟨_, ho2, rfl⟩ F.slot_tuple_lt F.entry_tuple_lt (F.args_tuple_lt_2 _ _) (tup_less p q us vs n n2 du dv su sv eq less)
    ⟨ho, ho2, he, hl, show Value.bool (PySem.SeqAt.firstLt eq less (decide (us.size < vs.size)) (List.range (min us.size vs.size))) ≠ Value.notImplemented ∧ Q (.bool (PySem.SeqAt.firstLt eq less (decide (us.size < vs.size)) (List.range (min us.size vs.size)))) s from ⟨(fun x => nomatch x), h⟩⟩ hA
end
/-! ### the codes that moves are sorted by -/
section
open PySem PySem.Spec PyProof.Rows L2
def rk (x : Str) : Int := if x = "call" then 0 else if x = "return" then 1 else 2
def third : Key → List Int
  | .inl i => [i]
  | .inr z => z.cps.toList.map (fun c : Nat => (c : Int) + 1) ++ [0]
def mcode (m : Move) : List Int := m.1.1 :: rk m.1.2.1 :: (third m.1.2.2 ++ [m.2])
theorem lex_str (r r' : List Int) : ∀ xs ys : List Nat, HT.lexLt (xs.map (fun c : Nat => (c : Int) + 1) ++ 0 :: r) (ys.map (fun c : Nat => (c : Int) + 1) ++ 0 :: r') = if xs = ys then HT.lexLt r r' else decide (xs < ys)
  | [], [] => by
    show HT.lexLt (0 :: r) (0 :: r') = _
    rw [HT.lexLt_cons, if_pos rfl, if_pos rfl]
  | [], y :: ys => by
    show HT.lexLt (0 :: r) (((y : Int) + 1) :: _) = _
    rw [HT.lexLt_cons, if_neg (by omega), if_neg (by simp), decide_eq_true (by omega : (0 : Int) < (y : Int) + 1)]
    exact (decide_eq_true (List.nil_lt_cons y ys)).symm
  | x :: xs, [] => by
    show HT.lexLt (((x : Int) + 1) :: _) (0 :: r') = _
    rw [HT.lexLt_cons, if_neg (by omega), if_neg (by simp), decide_eq_false (by omega : ¬ (x : Int) + 1 < 0)]
    exact (decide_eq_false (List.not_lt_nil (x :: xs))).symm
  | x :: xs, y :: ys => by
    show HT.lexLt (((x : Int) + 1) :: (xs.map (fun c : Nat => (c : Int) + 1) ++ 0 :: r)) (((y : Int) + 1) :: (ys.map (fun c : Nat => (c : Int) + 1) ++ 0 :: r')) = _
    rw [HT.lexLt_cons]
    by_cases e : x = y
    · subst e
      rw [if_pos rfl, lex_str r r' xs ys]
      by_cases e2 : xs = ys
      · rw [if_pos e2, if_pos (by rw [e2])]
      · rw [if_neg e2, if_neg (by simpa using e2)]
        exact decide_eq_decide.mpr (by rw [List.cons_lt_cons_iff]; constructor; exact fun h => .inr ⟨rfl, h⟩; rintro (h | ⟨_, h⟩); exact absurd h (Nat.lt_irrefl x); exact h)
    · rw [if_neg (by omega), if_neg (fun q => e (List.cons.inj q).1)]
      exact decide_eq_decide.mpr (by rw [List.cons_lt_cons_iff]; constructor; exact fun h => .inl (by omega); rintro (h | ⟨h, _⟩); omega; exact absurd h e)
def lessK : Key → Key → Bool
  | .inl i, .inl j => decide (i < j)
  | .inr x, .inr y => decide (x.cps.toList < y.cps.toList)
  | _, _ => false
def SameK : Key → Key → Prop
  | .inl _, .inl _ => True
  | .inr _, .inr _ => True
  | _, _ => False
theorem str_ext {x y : Str} (h : x.cps.toList = y.cps.toList) : x = y := by
  obtain ⟨x⟩ := x
  obtain ⟨y⟩ := y
  exact congrArg Str.mk (Array.toList_inj.mp h)
theorem lex_third {a b : Key} (r r' : List Int) (h : SameK a b) : HT.lexLt (third a ++ r) (third b ++ r') = if a = b then HT.lexLt r r' else lessK a b := by
  rcases a with i | x <;> rcases b with j | y
  · show HT.lexLt (i :: r) (j :: r') = _
    rw [HT.lexLt_cons]
    by_cases e : i = j
    · rw [if_pos e, if_pos (by rw [e])]
    · rw [if_neg e, if_neg (fun q => e (Sum.inl.inj q))]
      rfl
  · exact h.elim
  · exact h.elim
  · show HT.lexLt (x.cps.toList.map (fun c : Nat => (c : Int) + 1) ++ [0] ++ r) (y.cps.toList.map (fun c : Nat => (c : Int) + 1) ++ [0] ++ r') = _
    rw [List.append_assoc, List.append_assoc]
    show HT.lexLt (x.cps.toList.map (fun c : Nat => (c : Int) + 1) ++ 0 :: r) (y.cps.toList.map (fun c : Nat => (c : Int) + 1) ++ 0 :: r') = _
    rw [lex_str]
    by_cases e : x = y
    · rw [if_pos (by rw [e]), if_pos (by rw [e])]
    · rw [if_neg (fun q => e (str_ext q)), if_neg (fun q => e (Sum.inr.inj q))]
      rfl
theorem kinds {d : Deed} (h : DeedOk d) : d.2.1 = "call" ∨ d.2.1 = "return" ∨ d.2.1 = "step" := by
  rcases h.rest with ⟨e, _⟩ | ⟨e | e, _⟩
  · exact .inl e
  · exact .inr (.inl e)
  · exact .inr (.inr e)
theorem rk_lt {x y : Str} (hx : x = "call" ∨ x = "return" ∨ x = "step") (hy : y = "call" ∨ y = "return" ∨ y = "step") : decide (rk x < rk y) = decide (x.cps.toList < y.cps.toList) ∧ (rk x = rk y ↔ x = y) := by
  rcases hx with rfl | rfl | rfl <;> rcases hy with rfl | rfl | rfl <;> exact ⟨by decide +kernel, by decide +kernel⟩
theorem sameK {d e : Deed} (hd : DeedOk d) (he : DeedOk e) (h : d.2.1 = e.2.1) : SameK d.2.2 e.2.2 := by
  rcases hd.rest with ⟨k1, z, e1, _⟩ | ⟨k1, i, e1, _⟩ <;> rcases he.rest with ⟨k2, z2, e2, _⟩ | ⟨k2, i2, e2, _⟩ <;> rw [e1, e2]
  · trivial
  · rw [k1] at h
    rcases k2 with k2 | k2 <;> rw [k2] at h <;> exact absurd h (by decide)
  · rw [k2] at h
    rcases k1 with k1 | k1 <;> rw [k1] at h <;> exact absurd h (by decide)
  · trivial
/-- d before e -/
def ltDeed (d e : Deed) : Bool := if d.1 = e.1 then (if d.2.1 = e.2.1 then (if d.2.2 = e.2.2 then false else lessK d.2.2 e.2.2) else decide (d.2.1.cps.toList < e.2.1.cps.toList)) else decide (d.1 < e.1)
theorem lex_move {m n : Move} (hm : DeedOk m.1) (hn : DeedOk n.1) : HT.lexLt (mcode m) (mcode n) = if m.1 = n.1 then decide (m.2 < n.2) else ltDeed m.1 n.1 := by
  obtain ⟨⟨c, x, a⟩, i⟩ := m
  obtain ⟨⟨c', x', a'⟩, j⟩ := n
  show HT.lexLt (c :: rk x :: (third a ++ [i])) (c' :: rk x' :: (third a' ++ [j])) = if (c, x, a) = (c', x', a') then decide (i < j) else ltDeed (c, x, a) (c', x', a')
  obtain ⟨k1, k2⟩ := rk_lt (kinds hm) (kinds hn)
  have k1 : decide (rk x < rk x') = decide (x.cps.toList < x'.cps.toList) := k1
  have k2 : rk x = rk x' ↔ x = x' := k2
  rw [HT.lexLt_cons]
  unfold ltDeed
  by_cases e1 : c = c'
  · subst e1
    rw [if_pos rfl, HT.lexLt_cons]
    by_cases e2 : x = x'
    · subst e2
      rw [if_pos rfl, lex_third _ _ (sameK hm hn rfl)]
      by_cases e3 : a = a'
      · subst e3
        rw [if_pos rfl, if_pos rfl]
        show (if i = j then HT.lexLt [] [] else decide (i < j)) = _
        by_cases e4 : i = j
        · rw [if_pos e4, e4, decide_eq_false (Int.lt_irrefl j)]
          rfl
        · rw [if_neg e4]
      · rw [if_neg e3, if_neg (fun q => e3 (Prod.mk.inj (Prod.mk.inj q).2).2)]
        simp only [if_true]
        rw [if_neg e3]
    · rw [if_neg (fun q => e2 (k2.mp q)), if_neg (fun q => e2 (Prod.mk.inj (Prod.mk.inj q).2).1), k1]
      simp only [if_true]
      rw [if_neg e2]
  · rw [if_neg e1, if_neg (fun q => e1 (Prod.mk.inj q).1)]
    simp only
    rw [if_neg e1]
/-! ### the sort's questions -/
def DdV (h : Heap) (u : Value) (d : Deed) : Prop := ∃ b o n t1 t2 u3, u = .ref b ∧ h.get? b = some o ∧ o.cls = .type "tuple" ∧ o.data = .seq #[.int d.1 t1, .str d.2.1 t2, u3] n ∧ RelV (kV d.2.2) u3
def MvV (h : Heap) (v : Value) (m : Move) : Prop := ∃ a o n b t, v = .ref a ∧ h.get? a = some o ∧ o.cls = .type "tuple" ∧ o.data = .seq #[b, .int m.2 t] n ∧ DdV h b m.1
theorem DdV.keeps {h h' : Heap} {u : Value} {d : Deed} (x : DdV h u d) (k : ∀ b o, h.get? b = some o → o.cls = .type "tuple" → h'.get? b = some o) : DdV h' u d := by
  obtain ⟨b, o, n, t1, t2, u3, e, ho, hc, hd⟩ := x
  exact ⟨b, o, n, t1, t2, u3, e, k _ _ ho hc, hc, hd⟩
theorem MvV.keeps {h h' : Heap} {u : Value} {m : Move} (x : MvV h u m) (k : ∀ b o, h.get? b = some o → o.cls = .type "tuple" → h'.get? b = some o) : MvV h' u m := by
  obtain ⟨a, o, n, b, t, e, ho, hc, hd, x⟩ := x
  exact ⟨a, o, n, b, t, e, k _ _ ho hc, hc, hd, x.keeps k⟩
theorem third_inj {a : Key} {u : Value} (r : RelV (kV a) u) : (∃ i t, a = .inl i ∧ u = .int i t) ∨ ∃ z t, a = .inr z ∧ u = .str z t := by
  rcases a with i | z
  · obtain ⟨t, e⟩ := r
    exact .inl ⟨i, t, rfl, e⟩
  · obtain ⟨t, e⟩ := r
    exact .inr ⟨z, t, rfl, e⟩
theorem DdV.key {h : Heap} {u : Value} {d : Deed} (x : DdV h u d) : NestedIs h (deedN d) u := by
  obtain ⟨b, o, n, t1, t2, u3, rfl, ho, hc, hd, r⟩ := x
  refine .tup ho hc hd (.cons (.int _ _) (.cons (.text _ _) (.cons ?_ .nil)))
  rcases third_inj r with ⟨i, t, e, rfl⟩ | ⟨z, t, e, rfl⟩ <;> rw [e]
  · exact .int _ _
  · exact .text _ _
theorem DdV.eq {A : Around} {s : Shared} {u v : Value} {d e : Deed} (x : DdV s.heap u d) (y : DdV s.heap v e) (hA : A.units + 9 < cLine) : SeqAt.EqAt A s u v (decide (d = e)) := by
  have h := eqAt_key (deedN d) (deedN e) A s u v x.key y.key (by
    have h1 := TDeed.deep d
    have h2 : min (deedN d).depth (deedN e).depth ≤ (deedN d).depth := Nat.min_le_left _ _
    have h3 : (deedN d).depth ≤ 8 := h1
    omega)
  rw [← NestedKey.decide_eq] at h
  have e : decide (deedN d = deedN e) = decide (d = e) := decide_eq_decide.mpr ⟨fun q => deedN_inj q, fun q => by rw [q]⟩
  rw [e] at h
  exact h
theorem DdV.less {A : Around} {s : Shared} {u v : Value} {d e : Deed} (x : DdV s.heap u d) (y : DdV s.heap v e) (hd : DeedOk d) (he : DeedOk e) (hA : A.units < cLine) : SeqAt.RcLt A s u v (ltDeed d e) := by
  obtain ⟨b, o, n, t1, t2, u3, rfl, ho, hc, hdat, r⟩ := x
  obtain ⟨b', o', n', t1', t2', u3', rfl, ho', hc', hdat', r'⟩ := y
  let eq : Nat → Bool := fun j => match j with | 0 => (d.1 == e.1) | 1 => (d.2.1 == e.2.1) | _ => decide (d.2.2 = e.2.2)
  let less : Nat → Bool := fun j => match j with | 0 => decide (d.1 < e.1) | 1 => decide (d.2.1.cps.toList < e.2.1.cps.toList) | _ => lessK d.2.2 e.2.2
  have key : SeqAt.RcLt A s (.ref b) (.ref b') (SeqAt.firstLt eq less (decide (3 < 3)) (List.range 3)) := by
    refine less_tuples (us := #[.int d.1 t1, .str d.2.1 t2, u3]) (vs := #[.int e.1 t1', .str e.2.1 t2', u3']) ⟨o, ho, hc, n, hdat⟩ ⟨o', ho', hc', n', hdat'⟩ hA (fun j h1 h2 hb => ?_) (fun j h1 h2 hb hq => ?_)
    · match j, h1, h2, hb with
      | 0, _, _, _ => exact SeqAt.EqAt.int_int _ _ _ _
      | 1, _, _, _ => exact SeqAt.EqAt.str_str _ _ _ _
      | 2, _, _, hb =>
        have hk : d.2.1 = e.2.1 := by
          have := hb 1 (by decide)
          exact eq_of_beq this
        have hs := sameK hd he hk
        show SeqAt.EqAt A.in1 s u3 u3' (decide (d.2.2 = e.2.2))
        rcases third_inj r with ⟨i, t, e1, rfl⟩ | ⟨z, t, e1, rfl⟩ <;> rcases third_inj r' with ⟨i', t', e2, rfl⟩ | ⟨z', t', e2, rfl⟩ <;> rw [e1, e2] at hs ⊢
        · have : decide ((Sum.inl i : Key) = .inl i') = (i == i') := by
            show _ = decide (i = i')
            exact decide_eq_decide.mpr ⟨fun q => Sum.inl.inj q, fun q => by rw [q]⟩
          rw [this]
          exact SeqAt.EqAt.int_int _ _ _ _
        · exact hs.elim
        · exact hs.elim
        · have : decide ((Sum.inr z : Key) = .inr z') = (z == z') := by
            cases hz : (z == z') with
            | true => rw [eq_of_beq hz, decide_eq_true rfl]
            | false => exact decide_eq_false fun q => by rw [Sum.inr.inj q, beq_self_eq_true] at hz; cases hz
          rw [this]
          exact SeqAt.EqAt.str_str _ _ _ _
      | j + 3, h1, _, _ => exact absurd h1 (by simp)
    · match j, h1, h2, hb, hq with
      | 0, _, _, _, _ => exact fun prog w E Q h => HT.rcLt_int A.in1 s _ _ _ _ prog w E Q h
      | 1, _, _, _, _ => exact fun prog w E Q h => DT.rcLt_str A.in1 s _ _ _ _ prog w E Q h
      | 2, _, _, hb, _ =>
        have hk : d.2.1 = e.2.1 := by
          have := hb 1 (by decide)
          exact eq_of_beq this
        have hs := sameK hd he hk
        show SeqAt.RcLt A.in1 s u3 u3' (lessK d.2.2 e.2.2)
        rcases third_inj r with ⟨i, t, e1, rfl⟩ | ⟨z, t, e1, rfl⟩ <;> rcases third_inj r' with ⟨i', t', e2, rfl⟩ | ⟨z', t', e2, rfl⟩ <;> rw [e1, e2] at hs ⊢
        · exact fun prog w E Q h => HT.rcLt_int A.in1 s _ _ _ _ prog w E Q h
        · exact hs.elim
        · exact hs.elim
        · exact fun prog w E Q h => DT.rcLt_str A.in1 s _ _ _ _ prog w E Q h
      | j + 3, h1, _, _, _ => exact absurd h1 (by simp)
  have e3 : SeqAt.firstLt eq less (decide (3 < 3)) (List.range 3) = ltDeed d e := by
    show (if (d.1 == e.1) = true then (if (d.2.1 == e.2.1) = true then (if decide (d.2.2 = e.2.2) = true then false else lessK d.2.2 e.2.2) else decide (d.2.1.cps.toList < e.2.1.cps.toList)) else decide (d.1 < e.1)) = _
    unfold ltDeed
    simp only [beq_iff_eq, decide_eq_true_eq]
  rw [e3] at key
  exact key
end
end Ct
/-! Web: own_check, own_quiet, moves, replies. -/
namespace Ct
open PySem PySem.Spec PyProof.Rows L2 Nd
open CM (InR Wf Qt Rep row reps Srch SrchIn Gath)
section
variable {P : Program} {w : World} {K : PySem.W.Frag} {mg : Str → Option Value} {base : Heap}
theorem hid_eq (d : Deed) : hid d = decide (V.str d.2.1 = .str "step") := decide_eq_decide.mpr ⟨fun h => by rw [h], fun h => V.str.inj h⟩
def spCheck (K : PySem.W.Frag) : Sp := fun vs H Q _ => ∃ s R i, vs = [s, .int i] ∧ WebAt K H s R ∧ InR R.length i ∧ Q .non H
theorem sc_Web_own_check : FnScope (["self", "at"] : List Str) ["self", "at"] (defScope s_Web_own_check) := ⟨rfl, rfl, rfl, by decide +kernel, rfl, by decide +kernel, by decide +kernel⟩
theorem ok_check (F : TM K "own_check" "Web.own_check" s_Web_own_check (He.ma K (He.ga K "Web") "own_check")) (T : Tx K mg) (D_is_whole : DOk P w K mg base 1 "is_whole" ["x", "least", "most"] spWhole) :
    MOk P w K mg base 2 "Web" "own_check" ["self", "at"] (spCheck K) := by
  refine mok F T.c_Web T.m_Web_own_check sc_Web_own_check (fun vs H Q E h => ?_) (fun _ _ _ _ _ _ us hl => match us, hl with | [_, _], _ => rfl) (fun cdv A outer s H vs Q E hr h => ?_)
  · obtain ⟨s, R, i, rfl, _⟩ := h
    rfl
  obtain ⟨v, R, i, rfl, ⟨a, dx, r, rfl, ha, hR⟩, hi, k⟩ := h
  obtain ⟨b, rs, m, rfl, hb, hl, _, _⟩ := hR.row hi
  refine ⟨_, (pss_one (ps_if (pt_not (pt_val (pe_d D_is_whole (hr.mono (by decide)) (by rfl) (pa_cons (pv 1) (pa_cons pe_int (pa_cons (pe_op op_sub (pe_callB call_len_seq (by rfl) T.f_len (by decide +kernel) (pa_cons (pe_fld (pv 0) rfl) pa_nil)) pe_int) pa_nil)))))) (pss_one ps_never) pss_nil)), ?_⟩
  refine ⟨_, rfl, _, rfl, a, _, dx, _, _, rfl, ha, T.c_Web, T.n_Web_own_rows, rfl, b, _, rfl, .inl (SqL.of hb), _, _, rfl, rfl, i, 0, _, rfl, true, ?_, iteF k⟩
  rw [hl, decide_eq_true (⟨hi.1, by have := hi.2; omega⟩ : 0 ≤ i ∧ i ≤ (R.length : Int) - 1)]
def spQuiet (K : PySem.W.Frag) : Sp := fun vs H Q _ => ∃ s R i, vs = [s, .int i] ∧ WebAt K H s R ∧ Wf R ∧ R.length ≤ 4000 ∧ InR R.length i ∧
  ∀ (qs : List Int) q H', H q = none → Same H H' → H' q = some (.lst (qs.map V.int)) → (∀ f, f ∈ qs ↔ Qt hid R i f) → Q (.ref q) H'
theorem sc_Web_own_quiet : FnScope (["self", "at", "found", "seen", "k", "deed", "after"] : List Str) ["self", "at"] (defScope s_Web_own_quiet) := ⟨rfl, rfl, rfl, by decide +kernel, rfl, by decide +kernel, by decide +kernel⟩
theorem ok_quiet (F : TM K "own_quiet" "Web.own_quiet" s_Web_own_quiet (He.ma K (He.ga K "Web") "own_quiet")) (T : Tx K mg) :
    MOk P w K mg base 1 "Web" "own_quiet" ["self", "at"] (spQuiet K) := by
  refine mok F T.c_Web T.m_Web_own_quiet sc_Web_own_quiet (fun vs H Q E h => ?_) (fun _ _ _ _ _ _ us hl => match us, hl with | [_, _], _ => rfl) (fun cdv A outer s H vs Q E hr h => ?_)
  · obtain ⟨s, R, i, rfl, _⟩ := h
    rfl
  obtain ⟨v, R, i, rfl, hw, wf, h4, hi, k⟩ := h
  obtain ⟨a, dx, r, rfl, ha, hR⟩ := hw
  have hu := hu_of hr
  refine ⟨_, (pss_cons (ps_set (i := 2) sc_Web_own_quiet.nd rfl (Or.inl rfl) (pe_lst (pa_cons (pv 1) pa_nil)))
    (pss_cons (ps_set (i := 3) sc_Web_own_quiet.nd rfl (Or.inl rfl) (pe_disp (pps_cons (pv 1) pe_bl pps_nil) rfl rfl (fun z => nomatch z) (by decide)))
    (pss_cons (ps_set (i := 4) sc_Web_own_quiet.nd rfl (Or.inl rfl) pe_int)
    (pss_cons (ps_while PassesOwn.never (pt_cmpR op_lt (pv 4) (pe_callB call_len_seq (by rfl) T.f_len (by decide +kernel) (pa_cons (pv 2) pa_nil)) (nomark _)) (pss_cons (ps_for PassesOwn.never rfl (pi_list (pe_ix ix_list (pe_fld (pv 0) rfl) (pe_ix ix_list (pv 2) (pv 4) (fun _ _ => rfl)) (fun _ _ => rfl))) (pg_tup rfl (pgs_cons (pg_name (i := 5) sc_Web_own_quiet.nd rfl (Or.inl rfl)) (pgs_cons (pg_name (i := 6) sc_Web_own_quiet.nd rfl (Or.inl rfl)) pgs_nil))) (pss_one (ps_if (PW.pt (pw_and (pt_cmpR op_eq (pe_ix ix_tup (pv 5) pe_int (fun _ _ => rfl)) pe_str (nomark _)) (pw_and1 (pt_cmp (pc_dnotin hu (pv 6) (pv 3)))))) (pss_cons (ps_asg pe_bl (pg_sub (pv 3) (pv 6) (set_dict hu)))
    (pss_one (ps_expr (pe_bm PySem.F.plainAttrs_list PySem.F.slot_list_append PySem.F.type_list_append mt_append (pv 2) (pa_cons (pv 6) pa_nil))))) pss_nil)))
    (pss_one (ps_set (i := 4) sc_Web_own_quiet.nd rfl (Or.inl rfl) (pe_op op_add (pv 4) pe_int)))))
    (pss_one (ps_ret (pv 2))))))), ?_⟩
  refine ⟨_, rfl, szk 1 rfl, fun q hq => ?_⟩
  intro p hp
  refine ⟨_, rfl, ?_⟩
  have hpq : p ≠ q := by rintro rfl; rw [upd_same] at hp; cases hp
  have hp0 : H p = none := upd_nil hp
  refine ⟨upd_same, [(.inl i, .bl true)], rfl, Nat.le_of_ble_eq_true rfl, ?_⟩
  refine ⟨fun m σ H1 => ∃ (k : Nat) (o5 o6 : Option V) (fs : List Int), m + k = R.length ∧ σ = [some (.ref a), some (.int i), some (.ref q), some (.ref p), some (.int k), o5, o6] ∧ Same H H1 ∧
    H1 q = some (.lst (fs.map V.int)) ∧ H1 p = some (.dK (tagK fs)) ∧ Srch hid R i fs k, ⟨R.length, 0, none, none, [i], rfl, rfl, ?_, ?_, ?_, Srch.start R i⟩, ?_⟩
  · exact Same.mut (Same.new (Same.new1 hq) hp) hp0
  · rw [upd_ne (Ne.symm hpq), upd_ne (Ne.symm hpq), upd_same]
    rfl
  · rw [upd_same]
    rfl
  rintro m σ H1 ⟨k', o5, o6, fs, hm, rfl, s1, h1, h2, S⟩
  refine ⟨_, rfl, _, rfl, q, _, rfl, .inl (SqL.of h1), _, _, rfl, rfl, _, rfl, ite2 (fun c => ?_) (fun c => ?_)⟩
  · have c : (k' : Int) < ((fs.map V.int).length : Int) := of_decide_eq_true c
    rw [List.length_map] at c
    have hk : k' < fs.length := by omega
    have hf : fs[k']? = some fs[k'] := List.getElem?_eq_getElem hk
    have hfr : InR R.length fs[k'] := S.rng wf hi _ (List.getElem_mem hk)
    obtain ⟨b, rs, mv, e, hb, hl, hat, c', ms, rfl, hc', hP⟩ := hR.row hfr
    subst e
    have hle := S.le wf hi
    refine ⟨_, fun _ _ h => h, ?_⟩
    refine ⟨_, rfl, a, _, dx, _, _, rfl, s1 _ _ ha, T.c_Web, T.n_Web_own_rows, rfl, _, rfl, _, rfl, q, _, _, _, rfl, rfl, SqL.of h1, atI_ints (by omega) (by rw [show ((k' : Int)).toNat = k' by omega]; exact hf), b, _, _, _, rfl, rfl, SqL.of (s1 _ _ hb), hat, c', rfl, ⟨_, SqL.of (s1 _ _ hc')⟩, ?_⟩
    have hqb : q ≠ p := Ne.symm hpq
    refine for_list (xs := ms) (Pv := fun j σ H2 => ∃ (o5 o6 : Option V) (gs : List Int), σ = [some (.ref a), some (.int i), some (.ref q), some (.ref p), some (.int k'), o5, o6] ∧ Same H H2 ∧
      H2 q = some (.lst (gs.map V.int)) ∧ H2 p = some (.dK (tagK gs)) ∧ SrchIn hid R i gs k' fs[k'] j) ⟨o5, o6, fs, rfl, s1, h1, h2, S.inn hf⟩ ?_ ?_ ?_
    · rintro j σ H2 _ ⟨_, _, gs, _, s2, _⟩
      exact SqL.of (s2 _ _ hc')
    · rintro j x σ H2 hx ⟨o5, o6, gs, rfl, s2, g1, g2, SI⟩
      have hj := (List.getElem?_eq_some_iff.mp hx).1
      have hj2 : j < (row R fs[k']).length := by rw [← paired_len hP]; exact hj
      have hmv : (row R fs[k'])[j]? = some (row R fs[k'])[j] := List.getElem?_eq_getElem hj2
      obtain ⟨x', hx', hMv⟩ := paired_getR hP hmv
      rw [hx] at hx'
      obtain rfl := Option.some.inj hx'
      generalize (row R fs[k'])[j] = mvv at hmv hMv
      obtain ⟨d, af⟩ := mvv
      obtain ⟨t, u, rfl, ht, ⟨z, rfl, hz⟩⟩ := hMv.mono (Tups.same s2)
      refine ⟨t, _, rfl, SqT.of ht, rfl, _, _, rfl, _, _, rfl, rfl, ?_⟩
      refine ⟨_, rfl, z, _, 1, _, rfl, rfl, SqT.of hz, rfl, rfl, _, rfl, ?_⟩
      rw [← hid_eq]
      have hle2 := SI.s.le wf hi
      refine ite2 (fun hh => ?_) (fun hh => ?_)
      · refine ⟨_, rfl, _, rfl, p, _, rfl, DGet.k (k := .inl af) g2, _, rfl, ?_⟩
        rw [tag_get]
        by_cases hin : af ∈ gs
        · rw [decide_eq_true hin]
          exact iteF ⟨_, _, gs, rfl, s2, g1, g2, SI.skip hmv (fun _ => hin)⟩
        · rw [decide_eq_false hin]
          have hl2 := (SI.add hmv hh hin).s.le wf hi
          rw [List.length_append, List.length_singleton] at hl2
          refine iteT ⟨_, rfl, _, rfl, _, _, rfl, DPut.k (k := .inl af) g2 (szLt (by rw [tag_len]; omega)), ?_⟩
          have n1 : upd H2 p (.dK (putK (tagK gs) (.inl af) (.bl true))) q = some (.lst (gs.map V.int)) := by rw [upd_ne hqb]; exact g1
          refine ⟨_, rfl, tyL n1, _, rfl, q, _, _, rfl, rfl, n1, szLt (by simp; omega), ?_⟩
          refine ⟨_, _, gs ++ [af], rfl, Same.mut (Same.mut s2 hp0) hq, ints_snoc, ?_, SI.add hmv hh hin⟩
          rw [upd_ne hpq, upd_same, tag_new hin]
      · exact ⟨_, _, gs, rfl, s2, g1, g2, SI.skip hmv (fun h => absurd h hh)⟩
    · rintro σ H2 ⟨o5, o6, gs, rfl, s2, g1, g2, SI⟩
      refine ⟨_, rfl, _, _, rfl, rfl, m - 1, by omega, k' + 1, o5, o6, gs, by omega, rfl, s2, g1, g2, SI.out ?_⟩
      rw [← paired_len hP]
      exact Nat.le_refl _
  · have c : ¬ (k' : Int) < ((fs.map V.int).length : Int) := of_decide_eq_false (by simpa using c)
    rw [List.length_map] at c
    exact ⟨_, rfl, k fs q H1 hq s1 h1 fun f => S.fin (by omega) f⟩
end
end Ct
/-! Web: moves, replies; _law_quiet, _law_replies. -/
namespace Ct
open PySem PySem.Spec PyProof.Rows L2 Nd
open CM (InR Wf Qt Rep row reps Srch SrchIn Gath)
section
variable {P : Program} {w : World} {K : PySem.W.Frag} {mg : Str → Option Value} {base : Heap}
def spMoves (K : PySem.W.Frag) : Sp := fun vs H Q _ => ∃ s R i, vs = [s, .int i] ∧ WebAt K H s R ∧ InR R.length i ∧
  ∀ p ms H', H p = none → Same H H' → H' p = some (.lst ms) → Paired (MoveAt H') ms (row R i) → Q (.ref p) H'
theorem sc_Web_moves : FnScope (["self", "at"] : List Str) ["self", "at"] (defScope s_Web_moves) := ⟨rfl, rfl, rfl, by decide +kernel, rfl, by decide +kernel, by decide +kernel⟩
theorem ok_moves (F : TM K "moves" "Web.moves" s_Web_moves (He.ma K (He.ga K "Web") "moves")) (T : Tx K mg) (D_Web_own_check : MOk P w K mg base 2 "Web" "own_check" ["self", "at"] (spCheck K)) :
    MOk P w K mg base 3 "Web" "moves" ["self", "at"] (spMoves K) := by
  refine mok F T.c_Web T.m_Web_moves sc_Web_moves (fun vs H Q E h => ?_) (fun _ _ _ _ _ _ us hl => match us, hl with | [_, _], _ => rfl) (fun cdv A outer s H vs Q E hr h => ?_)
  · obtain ⟨s, R, i, rfl, _⟩ := h
    rfl
  obtain ⟨v, R, i, rfl, hw, hi, k⟩ := h
  have hw' := hw
  obtain ⟨a, dx, r, rfl, ha, hR⟩ := hw
  obtain ⟨b, rs, m, rfl, hb, hl, hat, c, ms, rfl, hc, hP⟩ := hR.row hi
  refine ⟨_, (pss_cons (ps_expr (pe_m D_Web_own_check (hr.mono (by decide)) (pv 0) (pa_cons (pv 1) pa_nil)))
    (pss_one (ps_ret (pe_callTy call_list_of (by rfl) T.f_list (by decide +kernel) (pa_cons (pe_ix ix_list (pe_fld (pv 0) rfl) (pv 1) (fun _ _ => rfl)) pa_nil))))), ?_⟩
  refine ⟨_, rfl, a, dx, _, rfl, ha, rfl, _, rfl, .ref a, R, i, rfl, hw', hi, ?_⟩
  refine ⟨_, rfl, a, _, dx, _, _, rfl, ha, T.c_Web, T.n_Web_own_rows, rfl, _, rfl, b, _, _, _, rfl, rfl, SqL.of hb, hat, c, _, rfl, .inl (SqL.of hc), fun l hl => ?_⟩
  exact k l ms _ hl (Same.new1 hl) upd_same (Paired.mapP hP fun v m q => q.mono (Tups.same (Same.new1 hl)))
def spReplies (K : PySem.W.Frag) : Sp := fun vs H Q _ => ∃ s R i v d, vs = [s, .int i, v] ∧ WebAt K H s R ∧ Wf R ∧ R.length ≤ 4000 ∧ (∀ ms ∈ R, ∀ m ∈ ms, DeedOk m.1) ∧ InR R.length i ∧ DeedAt H v d ∧ DeedOk d ∧ hid d = false ∧
  ∀ q H', H q = none → Same H H' → H' q = some (.lst ((reps hid R i d).map V.int)) → Q (.ref q) H'
theorem row_get {R : Rows} {i : Int} {j : Nat} {m : Move} (h : (row R i)[j]? = some m) : ∃ ms ∈ R, m ∈ ms := CM.row_mem (List.mem_of_getElem? h)
theorem sc_Web_replies : FnScope (["self", "at", "deed", "found", "place", "move"] : List Str) ["self", "at", "deed"] (defScope s_Web_replies) := ⟨rfl, rfl, rfl, by decide +kernel, rfl, by decide +kernel, by decide +kernel⟩
theorem ok_replies (F : TM K "replies" "Web.replies" s_Web_replies (He.ma K (He.ga K "Web") "replies")) (T : Tx K mg) (D_Web_own_check : MOk P w K mg base 2 "Web" "own_check" ["self", "at"] (spCheck K))
    (D_Web_own_quiet : MOk P w K mg base 1 "Web" "own_quiet" ["self", "at"] (spQuiet K)) (D_is_deed : DOk P w K mg base 3 "is_deed" ["deed"] spDeed) :
    MOk P w K mg base 4 "Web" "replies" ["self", "at", "deed"] (spReplies K) := by
  refine mok F T.c_Web T.m_Web_replies sc_Web_replies (fun vs H Q E h => ?_) (fun _ _ _ _ _ _ us hl => match us, hl with | [_, _, _], _ => rfl) (fun cdv A outer s H vs Q E hr h => ?_)
  · obtain ⟨s, R, i, v, d, rfl, _⟩ := h
    rfl
  obtain ⟨v, R, i, dv, d, rfl, hw, wf, h4, hok, hi, hd, dok, hdh, k⟩ := h
  have hw' := hw
  obtain ⟨a, dx, r, rfl, ha, hR⟩ := hw
  obtain ⟨z, rfl, hz⟩ := hd
  have hu := hu_of hr
  have hu64 := hu64_of hr
  refine ⟨_, (pss_cons (ps_expr (pe_m D_Web_own_check (hr.mono (by decide)) (pv 0) (pa_cons (pv 1) pa_nil)))
    (pss_cons (ps_set (i := 3) sc_Web_replies.nd rfl (Or.inl rfl) pe_dnewK)
    (pss_cons (ps_if (PW.pt (pw_or (pt_not (pt_val (pe_d D_is_deed (hr.mono (by decide)) (by rfl) (pa_cons (pv 2) pa_nil)))) (pw_or1 (pt_cmpR op_eq (pe_ix ix_tup (pv 2) pe_int (fun _ _ => rfl)) pe_str (nomark _))))) (pss_one (ps_ret (pe_lst pa_nil))) pss_nil)
    (pss_cons (ps_for PassesOwn.never rfl (pi_list (pe_m D_Web_own_quiet (hr.mono (by decide)) (pv 0) (pa_cons (pv 1) pa_nil))) (pg_name (i := 4) sc_Web_replies.nd rfl (Or.inl rfl)) (pss_one (ps_for PassesOwn.never rfl (pi_list (pe_ix ix_list (pe_fld (pv 0) rfl) (pv 4) (fun _ _ => rfl))) (pg_name (i := 5) sc_Web_replies.nd rfl (Or.inl rfl)) (pss_one (ps_if (pt_cmpR (op_eqD hu64) (pe_ix ix_tup (pv 5) pe_int (fun _ _ => rfl)) (pv 2) (nomark _)) (pss_one (ps_asg pe_bl (pg_sub (pv 3) (pe_ix ix_tup (pv 5) pe_int (fun _ _ => rfl)) (set_dict hu)))) pss_nil)))))
    (pss_one (ps_ret (pe_callB cr_sortedI (by rfl) T.f_sorted (by decide +kernel) (pa_cons (pe_callTy (call_list_dK rfl) (by rfl) T.f_list (by decide +kernel) (pa_cons (pv 3) pa_nil)) pa_nil)))))))), ?_⟩
  refine ⟨_, rfl, a, dx, _, rfl, ha, rfl, _, rfl, .ref a, R, i, rfl, hw', hi, ?_⟩
  intro p hp
  have s1 : Same H (upd H p (.dK [])) := Same.new1 hp
  refine ⟨_, rfl, .ref z, d, rfl, ⟨z, rfl, s1 _ _ hz⟩, dok, fun H1 t1 => ⟨_, rfl, iteF ?_⟩⟩
  have s2 : Same H H1 := s1.trans t1
  refine ⟨_, rfl, z, _, 1, _, rfl, rfl, SqT.of (s2 _ _ hz), rfl, rfl, _, rfl, ?_⟩
  rw [← hid_eq, hdh]
  refine iteF ⟨_, rfl, a, dx, _, rfl, s2 _ _ ha, rfl, _, rfl, .ref a, R, i, rfl, hw'.mono s2, wf, h4, hi, fun qs q H2 hq t2 hq2 hqs => ?_⟩
  have s3 : Same H H2 := s2.trans t2
  have hp2 : H2 p = some (.dK (tagK [])) := t2 _ _ (t1 _ _ upd_same)
  have hqH : H q = none := by
    cases e : H q with
    | none => rfl
    | some u => rw [s2 _ _ e] at hq; cases hq
  have hqp : q ≠ p := by rintro rfl; rw [t1 _ _ upd_same] at hq; cases hq
  have hqr : ∀ f ∈ qs, InR R.length f := fun f hf => wf.qt hi ((hqs f).mp hf)
  refine ⟨q, rfl, ⟨_, SqL.of hq2⟩, ?_⟩
  refine for_list (xs := qs.map V.int) (Pv := fun j σ H3 => ∃ (o4 o5 : Option V) (out : List Int), σ = [some (.ref a), some (.int i), some (.ref z), some (.ref p), o4, o5] ∧ Same H H3 ∧ H3 q = some (.lst (qs.map V.int)) ∧
    H3 p = some (.dK (tagK out)) ∧ Gath R qs d out j 0) ⟨none, none, [], rfl, s3, hq2, hp2, Gath.start R qs d⟩ ?_ ?_ ?_
  · rintro j σ H3 _ ⟨o4, o5, out, rfl, s4, g1, g2, G⟩
    exact SqL.of g1
  · rintro j x σ H3 hx ⟨o4, o5, out, rfl, s4, g1, g2, G⟩
    obtain ⟨f, hf, rfl⟩ := map_get hx
    have hfr := hqr f (List.mem_of_getElem? hf)
    obtain ⟨b, rs, m, e, hb, hl, hat, c, ms, rfl, hc, hP⟩ := hR.row hfr
    subst e
    refine ⟨_, rfl, a, _, dx, _, _, rfl, s4 _ _ ha, T.c_Web, T.n_Web_own_rows, rfl, _, rfl, b, _, _, _, rfl, rfl, SqL.of (s4 _ _ hb), hat, c, rfl, ⟨_, SqL.of (s4 _ _ hc)⟩, ?_⟩
    refine for_list (xs := ms) (Pv := fun l σ H4 => ∃ (o5 : Option V) (out : List Int), σ = [some (.ref a), some (.int i), some (.ref z), some (.ref p), some (.int f), o5] ∧ Same H H4 ∧ H4 q = some (.lst (qs.map V.int)) ∧
      H4 p = some (.dK (tagK out)) ∧ Gath R qs d out j l) ⟨o5, out, rfl, s4, g1, g2, G⟩ ?_ ?_ ?_
    · rintro l σ H4 _ ⟨o5, out, _, s5, _⟩
      exact SqL.of (s5 _ _ hc)
    · rintro l x σ H4 hx ⟨o5, out, rfl, s5, g1, g2, G⟩
      have hj := (List.getElem?_eq_some_iff.mp hx).1
      have hmv : (row R f)[l]? = some ((row R f)[l]'(by rw [← paired_len hP]; exact hj)) := List.getElem?_eq_getElem _
      generalize (row R f)[l]'_ = mvv at hmv
      obtain ⟨x', hx', hMv⟩ := paired_getR hP hmv
      rw [hx] at hx'
      obtain rfl := Option.some.inj hx'
      obtain ⟨e, af⟩ := mvv
      obtain ⟨t, u, rfl, ht, he⟩ := hMv.mono (Tups.same s5)
      obtain ⟨ms', hm1, hm2⟩ := row_get hmv
      have hout : out.length < 4001 := by
        have := CM.nodup_le (n := R.length) G.nd fun x hx => by
          rcases (G.mem x).mp hx with ⟨f', _, h⟩ | ⟨f', _, h⟩
          · exact wf.move h
          · exact wf.move (List.mem_of_mem_take h)
        omega
      refine ⟨_, rfl, t, _, 0, _, rfl, rfl, SqT.of ht, rfl, _, rfl, deedD e, deedD d, he.dp, DeedAt.dp ⟨z, rfl, s5 _ _ hz⟩, (hok _ hm1 _ hm2).shaped, dok.shaped, _, rfl, ?_⟩
      rw [eqv_deed]
      by_cases hed : e = d
      · rw [decide_eq_true hed]
        subst hed
        refine iteT ⟨_, rfl, _, rfl, t, _, 1, _, rfl, rfl, SqT.of ht, rfl, p, _, rfl, DPut.k (k := .inl af) g2 (szLt (by rw [tag_len]; omega)), ?_⟩
        by_cases hin : af ∈ out
        · refine ⟨_, out, rfl, Same.mut s5 hp, by rw [upd_ne hqp]; exact g1, by rw [upd_same, tag_old hin], G.skip hf hmv fun _ => hin⟩
        · refine ⟨_, out ++ [af], rfl, Same.mut s5 hp, by rw [upd_ne hqp]; exact g1, by rw [upd_same, tag_new hin], G.add hf hmv rfl hin⟩
      · rw [decide_eq_false hed]
        exact iteF ⟨_, out, rfl, s5, g1, g2, G.skip hf hmv fun h => absurd h hed⟩
    · rintro σ H4 ⟨o5, out, rfl, s5, g1, g2, G⟩
      exact ⟨_, _, out, rfl, s5, g1, g2, G.next hf (by rw [← paired_len hP]; exact Nat.le_refl _)⟩
  · rintro σ H3 ⟨o4, o5, out, rfl, s4, g1, g2, G⟩
    rw [List.length_map] at G
    refine ⟨_, rfl, p, _, rfl, g2, fun l hl => ?_⟩
    refine ⟨l, out, rfl, SqL.of (by rw [upd_same, tag_keys]), fun ns' u hperm hs hu' => ?_⟩
    have e := CM.reps_sort wf hperm hs G.nd (G.fin (Nat.le_refl _) hqs)
    subst e
    have hu2 := upd_nil hu'
    have s5 : Same H (upd H3 l (.lst ((tagK out).map fun kv => kV kv.1))) := Same.new s4 hl
    exact k u _ (by cases e : H u with | none => rfl | some o => rw [s4 _ _ e] at hu2; cases hu2) (Same.new s5 hu') upd_same
def spQuietL : Sp := fun vs H Q _ => ∃ r R i, vs = [r, .int i] ∧ RowsAt H r R ∧ Wf R ∧ R.length ≤ 4000 ∧ InR R.length i ∧
  ∀ (qs : List Int) q H', H q = none → Same H H' → H' q = some (.lst (qs.map V.int)) → (∀ f, f ∈ qs ↔ Qt hid R i f) → Q (.ref q) H'
theorem sc__law_quiet : FnScope (["_law_rows", "_law_at", "_law_found", "_law_k", "_law_move"] : List Str) ["_law_rows", "_law_at"] (defScope s_quiet_L) := ⟨rfl, rfl, rfl, by decide +kernel, rfl, by decide +kernel, by decide +kernel⟩
theorem ok_quietL (F : TF K "_law_quiet" s_quiet_L) (T : Tx K mg) : DOk P w K mg base 1 "_law_quiet" ["_law_rows", "_law_at"] spQuietL := by
  refine dok F T.g__law_quiet sc__law_quiet (fun vs H Q E h => ?_) (fun _ _ _ _ _ _ us hl => match us, hl with | [_, _], _ => rfl) (fun cdv A outer s H vs Q E hr h => ?_)
  · obtain ⟨s, R, i, rfl, _⟩ := h
    rfl
  obtain ⟨v, R, i, rfl, hR, wf, h4, hi, k⟩ := h
  obtain ⟨b, rs, rfl, hb, hbP⟩ := id hR
  refine ⟨_, (pss_cons (ps_set (i := 2) sc__law_quiet.nd rfl (Or.inl rfl) (pe_lst (pa_cons (pv 1) pa_nil)))
    (pss_cons (ps_for PassesOwn.never rfl (pi_range1 rfl T.f_range (pa_cons (pe_callB call_len_seq (by rfl) T.f_len (by decide +kernel) (pa_cons (pv 0) pa_nil)) pa_nil)) (pg_name (i := 3) sc__law_quiet.nd rfl (Or.inl rfl)) (pss_one (ps_if (pt_cmpR op_lt (pv 3) (pe_callB call_len_seq (by rfl) T.f_len (by decide +kernel) (pa_cons (pv 2) pa_nil)) (nomark _)) (pss_one (ps_for PassesOwn.never rfl (pi_list (pe_ix ix_list (pv 0) (pe_ix ix_list (pv 2) (pv 3) (fun _ _ => rfl)) (fun _ _ => rfl))) (pg_name (i := 4) sc__law_quiet.nd rfl (Or.inl rfl)) (pss_one (ps_if (PW.pt (pw_and (pt_cmpR op_eq (pe_ix ix_tup (pe_ix ix_tup (pv 4) pe_int (fun _ _ => rfl)) pe_int (fun _ _ => rfl)) pe_str (nomark _)) (pw_and1 (pt_cmpR op_notIn_seq (pe_ix ix_tup (pv 4) pe_int (fun _ _ => rfl)) (pv 2) (by rfl))))) (pss_one (ps_expr (pe_bm PySem.F.plainAttrs_list PySem.F.slot_list_append PySem.F.type_list_append mt_append (pv 2) (pa_cons (pe_ix ix_tup (pv 4) pe_int (fun _ _ => rfl)) pa_nil)))) pss_nil)))) pss_nil)))
    (pss_one (ps_ret (pv 2))))), ?_⟩
  refine ⟨_, rfl, szk 1 rfl, fun q hq => ?_⟩
  have s0 : Same H (upd H q (.lst [.int i])) := Same.new1 hq
  refine ⟨_, rfl, b, _, rfl, .inl (SqL.of (s0 _ _ hb)), _, rfl, by have := paired_len hbP; omega, by have := paired_len hbP; omega, ?_⟩
  rw [show ((rs.length : Int)).toNat = R.length by rw [paired_len hbP]; omega]
  refine for_range (Pv := fun k' σ H1 => ∃ (o3 o4 : Option V) (fs : List Int), σ = [some (.ref b), some (.int i), some (.ref q), o3, o4] ∧ Same H H1 ∧
    H1 q = some (.lst (fs.map V.int)) ∧ Srch hid R i fs k') ⟨none, none, [i], rfl, s0, upd_same, Srch.start R i⟩ ?_ ?_
  · rintro k' σ H1 hk' ⟨o3, o4, fs, rfl, s1, h1, S⟩
    refine ⟨_, rfl, _, rfl, q, _, rfl, .inl (SqL.of h1), _, _, rfl, rfl, _, rfl, ite2 (fun c => ?_) (fun c => ?_)⟩
    · have c : 0 + (k' : Int) < ((fs.map V.int).length : Int) := of_decide_eq_true c
      rw [List.length_map] at c
      have hk : k' < fs.length := by omega
      have hf : fs[k']? = some fs[k'] := List.getElem?_eq_getElem hk
      have hfr : InR R.length fs[k'] := S.rng wf hi _ (List.getElem_mem hk)
      obtain ⟨b', rs', mv, e, hb', hl, hat, c', ms, rfl, hc', hP⟩ := hR.row hfr
      injection e with e
      subst e
      have hle := S.le wf hi
      refine ⟨_, rfl, _, rfl, _, rfl, q, _, _, _, rfl, rfl, SqL.of h1, atI_ints (by omega) (by rw [show (0 + (k' : Int)).toNat = k' by omega]; exact hf), b, _, _, _, rfl, rfl, SqL.of (s1 _ _ hb'), hat, c', rfl, ⟨_, SqL.of (s1 _ _ hc')⟩, ?_⟩
      refine for_list (xs := ms) (Pv := fun j σ H2 => ∃ (o4 : Option V) (gs : List Int), σ = [some (.ref b), some (.int i), some (.ref q), some (.int (0 + (k' : Int))), o4] ∧ Same H H2 ∧
        H2 q = some (.lst (gs.map V.int)) ∧ SrchIn hid R i gs k' fs[k'] j) ⟨o4, fs, rfl, s1, h1, S.inn hf⟩ ?_ ?_ ?_
      · rintro j σ H2 _ ⟨_, gs, _, s2, _⟩
        exact SqL.of (s2 _ _ hc')
      · rintro j x σ H2 hx ⟨o4, gs, rfl, s2, g1, SI⟩
        have hj := (List.getElem?_eq_some_iff.mp hx).1
        have hmv : (row R fs[k'])[j]? = some ((row R fs[k'])[j]'(by rw [← paired_len hP]; exact hj)) := List.getElem?_eq_getElem _
        generalize (row R fs[k'])[j]'_ = mvv at hmv
        obtain ⟨x', hx', hMv⟩ := paired_getR hP hmv
        rw [hx] at hx'
        obtain rfl := Option.some.inj hx'
        obtain ⟨d, af⟩ := mvv
        obtain ⟨t, u, rfl, ht, ⟨z, rfl, hz⟩⟩ := hMv.mono (Tups.same s2)
        refine ⟨_, rfl, t, _, 0, _, rfl, rfl, SqT.of ht, rfl, z, _, 1, _, rfl, rfl, SqT.of hz, rfl, rfl, _, rfl, ?_⟩
        rw [← hid_eq]
        refine ite2 (fun hh => ?_) (fun hh => ?_)
        · refine ⟨_, rfl, t, _, 1, _, rfl, rfl, SqT.of ht, rfl, _, rfl, q, _, rfl, .inl (SqL.of g1), rfl, flat_ints _, _, rfl, ?_⟩
          rw [if_pos rfl, in_ints]
          by_cases hin : af ∈ gs
          · rw [decide_eq_true hin]
            exact iteF ⟨_, gs, rfl, s2, g1, SI.skip hmv (fun _ => hin)⟩
          · rw [decide_eq_false hin]
            have hl2 := (SI.add hmv hh hin).s.le wf hi
            rw [List.length_append, List.length_singleton] at hl2
            refine iteT ⟨_, rfl, tyL g1, _, rfl, t, _, 1, _, rfl, rfl, SqT.of ht, rfl, q, _, _, rfl, rfl, g1, szLt (by simp; omega), ?_⟩
            exact ⟨_, gs ++ [af], rfl, Same.mut s2 hq, ints_snoc, SI.add hmv hh hin⟩
        · exact ⟨_, gs, rfl, s2, g1, SI.skip hmv (fun h => absurd h hh)⟩
      · rintro σ H2 ⟨o4, gs, rfl, s2, g1, SI⟩
        exact ⟨_, _, gs, rfl, s2, g1, SI.out (by rw [← paired_len hP]; exact Nat.le_refl _)⟩
    · have c : ¬ 0 + (k' : Int) < ((fs.map V.int).length : Int) := of_decide_eq_false (by simpa using c)
      rw [List.length_map] at c
      exact ⟨_, _, fs, rfl, s1, h1, S.none (by omega)⟩
  · rintro σ H1 ⟨o3, o4, fs, rfl, s1, h1, S⟩
    exact ⟨_, rfl, k fs q H1 hq s1 h1 fun f => S.fin (S.le wf hi) f⟩
def spRepliesL : Sp := fun vs H Q _ => ∃ r R i v d, vs = [r, .int i, v] ∧ RowsAt H r R ∧ Wf R ∧ R.length ≤ 4000 ∧ (∀ ms ∈ R, ∀ m ∈ ms, DeedOk m.1) ∧ InR R.length i ∧ DeedAt H v d ∧ DeedOk d ∧
  ∀ q H', H q = none → Same H H' → H' q = some (.lst ((reps hid R i d).map V.int)) → Q (.ref q) H'
theorem sc__law_replies : FnScope (["_law_rows", "_law_at", "_law_deed", "_law_out", "_law_place", "_law_move"] : List Str) ["_law_rows", "_law_at", "_law_deed"] (defScope s_replies_L) := ⟨rfl, rfl, rfl, by decide +kernel, rfl, by decide +kernel, by decide +kernel⟩
theorem ok_repliesL (F : TF K "_law_replies" s_replies_L) (T : Tx K mg) (D__law_quiet : DOk P w K mg base 1 "_law_quiet" ["_law_rows", "_law_at"] spQuietL) :
    DOk P w K mg base 2 "_law_replies" ["_law_rows", "_law_at", "_law_deed"] spRepliesL := by
  refine dok F T.g__law_replies sc__law_replies (fun vs H Q E h => ?_) (fun _ _ _ _ _ _ us hl => match us, hl with | [_, _, _], _ => rfl) (fun cdv A outer s H vs Q E hr h => ?_)
  · obtain ⟨s, R, i, v, d, rfl, _⟩ := h
    rfl
  obtain ⟨v, R, i, dv, d, rfl, hR, wf, h4, hok, hi, hd, dok, k⟩ := h
  obtain ⟨b, rs, rfl, hb, hbP⟩ := id hR
  obtain ⟨z, rfl, hz⟩ := hd
  have hu64 := hu64_of hr
  refine ⟨_, (pss_cons (ps_set (i := 3) sc__law_replies.nd rfl (Or.inl rfl) (pe_lst pa_nil))
    (pss_cons (ps_for PassesOwn.never rfl (pi_list (pe_d D__law_quiet (hr.mono (by decide)) (by rfl) (pa_cons (pv 0) (pa_cons (pv 1) pa_nil)))) (pg_name (i := 4) sc__law_replies.nd rfl (Or.inl rfl)) (pss_one (ps_for PassesOwn.never rfl (pi_list (pe_ix ix_list (pv 0) (pv 4) (fun _ _ => rfl))) (pg_name (i := 5) sc__law_replies.nd rfl (Or.inl rfl)) (pss_one (ps_if (PW.pt (pw_and (pt_cmpR (op_eqD hu64) (pe_ix ix_tup (pv 5) pe_int (fun _ _ => rfl)) (pv 2) (nomark _)) (pw_and1 (pt_cmpR op_notIn_seq (pe_ix ix_tup (pv 5) pe_int (fun _ _ => rfl)) (pv 3) (by rfl))))) (pss_one (ps_expr (pe_bm PySem.F.plainAttrs_list PySem.F.slot_list_append PySem.F.type_list_append mt_append (pv 3) (pa_cons (pe_ix ix_tup (pv 5) pe_int (fun _ _ => rfl)) pa_nil)))) pss_nil)))))
    (pss_one (ps_ret (pe_callB cr_sortedI (by rfl) T.f_sorted (by decide +kernel) (pa_cons (pv 3) pa_nil)))))), ?_⟩
  refine ⟨Nat.zero_le _, fun p hp => ?_⟩
  have s1 : Same H (upd H p (.lst [])) := Same.new1 hp
  refine ⟨_, rfl, _, rfl, .ref b, R, i, rfl, hR.mono s1, wf, h4, hi, fun qs q H2 hq t2 hq2 hqs => ?_⟩
  have s3 : Same H H2 := s1.trans t2
  have hp2 : H2 p = some (.lst (([] : List Int).map V.int)) := t2 _ _ upd_same
  have hqp : q ≠ p := by rintro rfl; rw [upd_same] at hq; cases hq
  have hqr : ∀ f ∈ qs, InR R.length f := fun f hf => wf.qt hi ((hqs f).mp hf)
  refine ⟨q, rfl, ⟨_, SqL.of hq2⟩, ?_⟩
  refine for_list (xs := qs.map V.int) (Pv := fun j σ H3 => ∃ (o4 o5 : Option V) (out : List Int), σ = [some (.ref b), some (.int i), some (.ref z), some (.ref p), o4, o5] ∧ Same H H3 ∧ H3 q = some (.lst (qs.map V.int)) ∧
    H3 p = some (.lst (out.map V.int)) ∧ Gath R qs d out j 0) ⟨none, none, [], rfl, s3, hq2, hp2, Gath.start R qs d⟩ ?_ ?_ ?_
  · rintro j σ H3 _ ⟨o4, o5, out, rfl, s4, g1, g2, G⟩
    exact SqL.of g1
  · rintro j x σ H3 hx ⟨o4, o5, out, rfl, s4, g1, g2, G⟩
    obtain ⟨f, hf, rfl⟩ := map_get hx
    have hfr := hqr f (List.mem_of_getElem? hf)
    obtain ⟨b', rs', m, e, hb', hl, hat, c, ms, rfl, hc, hP⟩ := hR.row hfr
    injection e with e
    subst e
    refine ⟨_, rfl, _, rfl, b, _, _, _, rfl, rfl, SqL.of (s4 _ _ hb'), hat, c, rfl, ⟨_, SqL.of (s4 _ _ hc)⟩, ?_⟩
    refine for_list (xs := ms) (Pv := fun l σ H4 => ∃ (o5 : Option V) (out : List Int), σ = [some (.ref b), some (.int i), some (.ref z), some (.ref p), some (.int f), o5] ∧ Same H H4 ∧ H4 q = some (.lst (qs.map V.int)) ∧
      H4 p = some (.lst (out.map V.int)) ∧ Gath R qs d out j l) ⟨o5, out, rfl, s4, g1, g2, G⟩ ?_ ?_ ?_
    · rintro l σ H4 _ ⟨o5, out, _, s5, _⟩
      exact SqL.of (s5 _ _ hc)
    · rintro l x σ H4 hx ⟨o5, out, rfl, s5, g1, g2, G⟩
      have hj := (List.getElem?_eq_some_iff.mp hx).1
      have hmv : (row R f)[l]? = some ((row R f)[l]'(by rw [← paired_len hP]; exact hj)) := List.getElem?_eq_getElem _
      generalize (row R f)[l]'_ = mvv at hmv
      obtain ⟨x', hx', hMv⟩ := paired_getR hP hmv
      rw [hx] at hx'
      obtain rfl := Option.some.inj hx'
      obtain ⟨e, af⟩ := mvv
      obtain ⟨t, u, rfl, ht, he⟩ := hMv.mono (Tups.same s5)
      obtain ⟨ms', hm1, hm2⟩ := row_get hmv
      have hout : out.length < 4001 := by
        have := CM.nodup_le (n := R.length) G.nd fun x hx => by
          rcases (G.mem x).mp hx with ⟨f', _, h⟩ | ⟨f', _, h⟩
          · exact wf.move h
          · exact wf.move (List.mem_of_mem_take h)
        omega
      refine ⟨_, rfl, t, _, 0, _, rfl, rfl, SqT.of ht, rfl, _, rfl, deedD e, deedD d, he.dp, DeedAt.dp ⟨z, rfl, s5 _ _ hz⟩, (hok _ hm1 _ hm2).shaped, dok.shaped, _, rfl, ?_⟩
      rw [eqv_deed]
      by_cases hed : e = d
      · rw [decide_eq_true hed]
        subst hed
        refine iteT ⟨_, rfl, t, _, 1, _, rfl, rfl, SqT.of ht, rfl, _, rfl, p, _, rfl, .inl (SqL.of g2), rfl, flat_ints _, _, rfl, ?_⟩
        rw [if_pos rfl, in_ints]
        by_cases hin : af ∈ out
        · rw [decide_eq_true hin]
          exact iteF ⟨_, out, rfl, s5, g1, g2, G.skip hf hmv fun _ => hin⟩
        · rw [decide_eq_false hin]
          refine iteT ⟨_, rfl, tyL g2, _, rfl, t, _, 1, _, rfl, rfl, SqT.of ht, rfl, p, _, _, rfl, rfl, g2, szLt (by simp; omega), ?_⟩
          exact ⟨_, out ++ [af], rfl, Same.mut s5 hp, by rw [upd_ne hqp]; exact g1, ints_snoc, G.add hf hmv rfl hin⟩
      · rw [decide_eq_false hed]
        exact iteF ⟨_, out, rfl, s5, g1, g2, G.skip hf hmv fun h => absurd h hed⟩
    · rintro σ H4 ⟨o5, out, rfl, s5, g1, g2, G⟩
      exact ⟨_, _, out, rfl, s5, g1, g2, G.next hf (by rw [← paired_len hP]; exact Nat.le_refl _)⟩
  · rintro σ H3 ⟨o4, o5, out, rfl, s4, g1, g2, G⟩
    rw [List.length_map] at G
    refine ⟨_, rfl, p, out, rfl, SqL.of g2, fun ns' u hperm hs hu' => ?_⟩
    have e := CM.reps_sort wf hperm hs G.nd (G.fin (Nat.le_refl _) hqs)
    subst e
    exact k u _ (by cases e : H u with | none => rfl | some o => rw [s4 _ _ e] at hu'; cases hu') (Same.new s4 hu') upd_same
end
end Ct
set_option maxHeartbeats 2000000
/-! Rules for the inside of a comprehension: the frag and the world told by name, so that a reading names no shared state. -/
namespace Ct
open PySem PySem.Spec PyProof.Rows L2 Nd
section
variable {X : Cx} {K : PySem.W.Frag} {w : World}
theorem ix_tupK (h : X.K = K := by rfl) : IxR X (rIxT K) := h ▸ ix_tup
theorem ix_listK (h : X.K = K := by rfl) : IxR X (rIxL K) := h ▸ ix_list
def rListK (K : PySem.W.Frag) : List V → Hp → VK → Prop := fun xs H Q => ∃ p ys, xs = [.ref p] ∧ (SqL K H p ys ∨ SqT K H p ys) ∧ ∀ l, H l = none → Q (.ref l) (upd H l (.lst ys))
theorem call_listK (h : X.K = K := by rfl) : CallR X (.type "list") (rListK K) := h ▸ call_list_of
theorem pe_revK {e : Expr} {te : TE} {k : Nat} {p1 p2 p3 pos : Pos} (he : PE X e te) (h : X.K = K := by rfl) : PE X (.Subscript e (.Slice none none (some (.UnaryOp .USub (.Constant (.int 1) k p1) p2)) p3) pos) (tRevL K te) := h ▸ pe_revL he
theorem op_eqDK (hu : X.A.units + 64 < cLine) (h : X.K = K := by rfl) : OpR X (compareOp .Eq) (rEqD K) := h ▸ op_eqD hu
theorem op_neDK (hu : X.A.units + 64 < cLine) (h : X.K = K := by rfl) : OpR X (compareOp .NotEq) (rNeD K) := h ▸ op_neD hu
theorem op_inDK (hu : X.A.units + 65 < cLine) (h : X.K = K := by rfl) : OpR X (compareOp .In) (rInD K) := h ▸ op_inD hu
theorem pe_fldK {e : Expr} {f : Str} {ta : TE} {pos : Pos} (he : PE X e ta) (hb : attributeBase e f X.env (eval e X.env) = eval e X.env) (h : X.K = K := by rfl) : PE X (.Attribute e f pos) (tFld K ta f) := h ▸ pe_fld he hb
theorem pg_tupK {es : List Expr} {k : Nat} {t : TGs} {n : Nat} {pos : Pos} (hc : X.calm = true) (hg : PGs X es t) (h : X.K = K := by rfl)
    (hn : (assignEach es X.env).length = n := by rfl) (hst : (assignEach es X.env).findIdx? (·.1) = none := by rfl) : PG X (.Tuple es k pos) (gTup K n t) := h ▸ pg_tup hc hg hn hst
theorem pe_ngetW {o i : Expr} {td ty : TE} {pos : Pos} (hu : X.A.units + 9 < cLine) (ho : PE X o td) (hi : PE X i ty) (hs : NoSl i) (h : X.w = w := by rfl) : PE X (.Subscript o i pos) (tGetN w td ty) := h ▸ pe_nget hu ho hi hs
end
end Ct
set_option maxHeartbeats 4000000
/-! _law_same, _law_copy, _law_turned, _law_table, _law_union. -/
namespace Ct
open PySem PySem.Spec PyProof.Rows L2 Nd
open CM (InR Wf Qt Rep row reps)
/-- data whose types agree, n deep -/
inductive Kin : Nat → PyData → PyData → Prop
  | int {n : Nat} (i j : Int) : Kin (n + 1) (.int i) (.int j)
  | bl {n : Nat} (i j : Bool) : Kin (n + 1) (.bool i) (.bool j)
  | str {n : Nat} {x y : Str} : PyData.strOk x = true → PyData.strOk y = true → Kin (n + 1) (.str x) (.str y)
  | is {n : Nat} (i : Int) (y : Str) : Kin (n + 1) (.int i) (.str y)
  | si {n : Nat} (x : Str) (j : Int) : Kin (n + 1) (.str x) (.int j)
  | tup {n : Nat} {xs ys : List PyData} : (∀ (k : Nat) (x y : PyData), xs[k]? = some x → ys[k]? = some y → Kin n x y) → ys.length ≤ 100000 → Kin (n + 1) (.tuple xs) (.tuple ys)
  | lst {n : Nat} {xs ys : List PyData} : (∀ (k : Nat) (x y : PyData), xs[k]? = some x → ys[k]? = some y → Kin n x y) → ys.length ≤ 100000 → Kin (n + 1) (.list xs) (.list ys)
theorem eqvAll_iff : ∀ {xs ys : List PyData}, xs.length = ys.length → (PyData.eqvAll xs ys = true ↔ ∀ (k : Nat) (x y : PyData), xs[k]? = some x → ys[k]? = some y → PyData.eqv x y = true)
  | [], [], _ => ⟨fun _ k x y h => by simp at h, fun _ => by simp only [PyData.eqvAll]⟩
  | [], _ :: _, h => by simp at h
  | _ :: _, [], h => by simp at h
  | a :: xs, b :: ys, h => by
    simp only [PyData.eqvAll, Bool.and_eq_true]
    rw [eqvAll_iff (by simpa using h)]
    constructor
    · rintro ⟨h1, h2⟩ k x y e1 e2
      cases k with
      | zero =>
        simp at e1 e2
        subst e1 e2
        exact h1
      | succ k => exact h2 k x y (by simpa using e1) (by simpa using e2)
    · intro h
      exact ⟨h 0 a b rfl rfl, fun k x y e1 e2 => h (k + 1) x y (by simpa using e1) (by simpa using e2)⟩
theorem eqvAll_len : ∀ {xs ys : List PyData}, xs.length ≠ ys.length → PyData.eqvAll xs ys = false
  | [], [], h => absurd rfl h
  | [], _ :: _, _ => by simp only [PyData.eqvAll]
  | _ :: _, [], _ => by simp only [PyData.eqvAll]
  | a :: xs, b :: ys, h => by
    simp only [PyData.eqvAll]
    rw [eqvAll_len (fun e => h (by simp [e])), Bool.and_false]
section
variable {K : PySem.W.Frag} {H : Hp}
theorem DpAll.len : ∀ {vs : List V} {ds : List PyData}, DpAll K H vs ds → vs.length = ds.length
  | _, _, .nil => rfl
  | _, _, .cons _ t => by simp [DpAll.len t]
theorem DpAll.get : ∀ {vs : List V} {ds : List PyData} {k : Nat} {d : PyData}, DpAll K H vs ds → ds[k]? = some d → ∃ v, vs[k]? = some v ∧ Dp K H v d
  | _, _, _, _, .nil, h => by simp at h
  | _, _, 0, _, .cons r _, h => by
    simp at h
    subst h
    exact ⟨_, rfl, r⟩
  | _, _, k + 1, _, .cons _ t, h => by simpa using DpAll.get t (by simpa using h)
theorem tyx_tup {a : Addr} {xs : List V} (h : SqT K H a xs) : TyX K H (.ref a) (.type "tuple") := by
  rcases h with h | ⟨o, its, n, e, c, _⟩
  · rcases h with h | ⟨o, h⟩
    · exact .base (.tup h)
    · exact .fTuple h
  · exact .kTuple e c
theorem tyx_lst {a : Addr} {xs : List V} (h : SqL K H a xs) : TyX K H (.ref a) (.type "list") := by
  rcases h with h | ⟨o, its, n, e, c, _⟩
  · rcases h with h | ⟨o, h⟩
    · exact .base (.lst h)
    · exact .base (.frz h)
  · exact .kList e c
end
section
variable {P : Program} {w : World} {K : PySem.W.Frag} {mg : Str → Option Value} {base : Heap}
def spSame (K : PySem.W.Frag) (n : Nat) : Sp := fun vs H Q _ => ∃ t u d e, vs = [t, u] ∧ Dp K H t d ∧ Dp K H u e ∧ Kin n d e ∧ Q (.bl (PyData.eqv d e)) H
theorem sc__law_same : FnScope (["_law_told", "_law_due", "_law_k"] : List Str) ["_law_told", "_law_due"] (defScope s_same_L) := ⟨rfl, rfl, rfl, by decide +kernel, rfl, by decide +kernel, by decide +kernel⟩
theorem ok_same (F : TF K "_law_same" s_same_L) (T : Tx K mg) : ∀ n, DOk P w K mg base (n + 1) "_law_same" ["_law_told", "_law_due"] (spSame K n) := by
  intro n
  induction n with
  | zero =>
    refine dok F T.g__law_same sc__law_same (fun vs H Q E h => ?_) (fun _ _ _ _ _ _ us hl => match us, hl with | [_, _], _ => rfl) (fun cdv A outer s H vs Q E hr h => ?_)
    · obtain ⟨t, u, d, e, _, _, _, hk, _⟩ := h
      cases hk
    · obtain ⟨t, u, d, e, _, _, _, hk, _⟩ := h
      cases hk
  | succ n D__law_same =>
  refine dok F T.g__law_same sc__law_same (fun vs H Q E h => ?_) (fun _ _ _ _ _ _ us hl => match us, hl with | [_, _], _ => rfl) (fun cdv A outer s H vs Q E hr h => ?_)
  · obtain ⟨t, u, d, e, rfl, _⟩ := h
    rfl
  obtain ⟨t, u, d, e, rfl, hd, he, hk, k⟩ := h
  have hu64 := hu64_of hr
  refine ⟨_, (pss_cons (ps_if (PW.pt (pw_or (pt_val (pe_callB call_isi (by rfl) T.f_isinstance (by decide +kernel) (pa_cons (pv 1) (pa_cons (pe_bltn (v := .ty "tuple") (by rfl) T.f_tuple (by decide +kernel) rfl) pa_nil)))) (pw_or1 (pt_val (pe_callB call_isi (by rfl) T.f_isinstance (by decide +kernel) (pa_cons (pv 1) (pa_cons (pe_bltn (v := .ty "list") (by rfl) T.f_list (by decide +kernel) rfl) pa_nil))))))) (pss_cons (ps_if (PW.pt (pw_or (pt_cmpR op_ne (pe_callB call_isi (by rfl) T.f_isinstance (by decide +kernel) (pa_cons (pv 1) (pa_cons (pe_bltn (v := .ty "tuple") (by rfl) T.f_tuple (by decide +kernel) rfl) pa_nil))) (pe_callB call_isi (by rfl) T.f_isinstance (by decide +kernel) (pa_cons (pv 0) (pa_cons (pe_bltn (v := .ty "tuple") (by rfl) T.f_tuple (by decide +kernel) rfl) pa_nil))) (nomark _)) (pw_or1 (pt_cmpR op_ne (pe_callB call_isi (by rfl) T.f_isinstance (by decide +kernel) (pa_cons (pv 1) (pa_cons (pe_bltn (v := .ty "list") (by rfl) T.f_list (by decide +kernel) rfl) pa_nil))) (pe_callB call_isi (by rfl) T.f_isinstance (by decide +kernel) (pa_cons (pv 0) (pa_cons (pe_bltn (v := .ty "list") (by rfl) T.f_list (by decide +kernel) rfl) pa_nil))) (nomark _))))) (pss_one (ps_ret pe_bl)) pss_nil)
    (pss_cons (ps_if (pt_cmpR op_ne (pe_callB call_len_seq (by rfl) T.f_len (by decide +kernel) (pa_cons (pv 0) pa_nil)) (pe_callB call_len_seq (by rfl) T.f_len (by decide +kernel) (pa_cons (pv 1) pa_nil)) (nomark _)) (pss_one (ps_ret pe_bl)) pss_nil)
    (pss_cons (ps_for PassesOwn.never rfl (pi_range1 rfl T.f_range (pa_cons (pe_callB call_len_seq (by rfl) T.f_len (by decide +kernel) (pa_cons (pv 1) pa_nil)) pa_nil)) (pg_name (i := 2) sc__law_same.nd rfl (Or.inl rfl)) (pss_one (ps_if (pt_not (pt_val (pe_d D__law_same (hr.mono (Nat.le_refl _)) (by rfl) (pa_cons (pe_ix ix_seq (pv 0) (pv 2) (fun _ _ => rfl)) (pa_cons (pe_ix ix_seq (pv 1) (pv 2) (fun _ _ => rfl)) pa_nil))))) (pss_one (ps_ret pe_bl)) pss_nil)))
    (pss_one (ps_ret pe_bl))))) pss_nil)
    (pss_cons (ps_if (pt_cmpR op_isN (pv 1) pe_non (nomark _)) (pss_one (ps_ret (pe_cmpR op_isN (pv 0) pe_non (nomark _)))) pss_nil)
    (pss_cons (ps_if (PW.pt (pw_or (pt_cmpR op_ne (pe_callB call_isi (by rfl) T.f_isinstance (by decide +kernel) (pa_cons (pv 1) (pa_cons (pe_bltn (v := .ty "bool") (by rfl) T.f_bool (by decide +kernel) rfl) pa_nil))) (pe_callB call_isi (by rfl) T.f_isinstance (by decide +kernel) (pa_cons (pv 0) (pa_cons (pe_bltn (v := .ty "bool") (by rfl) T.f_bool (by decide +kernel) rfl) pa_nil))) (nomark _)) (pw_or1 (pt_cmpR op_ne (pe_callB call_isi (by rfl) T.f_isinstance (by decide +kernel) (pa_cons (pv 1) (pa_cons (pe_bltn (v := .ty "int") (by rfl) T.f_int (by decide +kernel) rfl) pa_nil))) (pe_callB call_isi (by rfl) T.f_isinstance (by decide +kernel) (pa_cons (pv 0) (pa_cons (pe_bltn (v := .ty "int") (by rfl) T.f_int (by decide +kernel) rfl) pa_nil))) (nomark _))))) (pss_one (ps_ret pe_bl)) pss_nil)
    (pss_one (ps_ret (pe_and (pe_cmpR op_eq (pe_callB call_isi (by rfl) T.f_isinstance (by decide +kernel) (pa_cons (pv 1) (pa_cons (pe_bltn (v := .ty "str") (by rfl) T.f_str (by decide +kernel) rfl) pa_nil))) (pe_callB call_isi (by rfl) T.f_isinstance (by decide +kernel) (pa_cons (pv 0) (pa_cons (pe_bltn (v := .ty "str") (by rfl) T.f_str (by decide +kernel) rfl) pa_nil))) (nomark _)) (pe_one (pe_cmpR (op_eqD hu64) (pv 0) (pv 1) (nomark _))))))))), ?_⟩
  cases hk with
  | int i j =>
    cases id hd
    cases id he
    refine ⟨_, rfl, _, .ty "tuple", .type "int", .type "tuple", false, rfl, .ty "tuple", .base (.int _), kit_ty (by decide +kernel), _, rfl, iteF ?_⟩
    refine ⟨_, rfl, _, .ty "list", .type "int", .type "list", false, rfl, .ty "list", .base (.int _), kit_ty (by decide +kernel), _, rfl, iteF ?_⟩
    refine ⟨_, rfl, rfl, _, rfl, iteF ?_⟩
    refine ⟨_, rfl, _, .ty "bool", .type "int", .type "bool", false, rfl, .ty "bool", .base (.int _), kit_ty (by decide +kernel), _, rfl, _, .ty "bool", .type "int", .type "bool", false, rfl, .ty "bool", .base (.int _), kit_ty (by decide +kernel), rfl, _, rfl, iteF ?_⟩
    refine ⟨_, rfl, _, .ty "int", .type "int", .type "int", true, rfl, .ty "int", .base (.int _), kit_ty (by decide +kernel), _, rfl, _, .ty "int", .type "int", .type "int", true, rfl, .ty "int", .base (.int _), kit_ty (by decide +kernel), rfl, _, rfl, iteF ?_⟩
    refine ⟨_, rfl, _, .ty "str", .type "int", .type "str", false, rfl, .ty "str", .base (.int _), kit_ty (by decide +kernel), _, rfl, _, .ty "str", .type "int", .type "str", false, rfl, .ty "str", .base (.int _), kit_ty (by decide +kernel), rfl, _, rfl, iteT ?_⟩
    exact ⟨_, rfl, _, rfl, _, _, hd, he, (ly_int 0 _).shaped (by decide), (ly_int 0 _).shaped (by decide), k⟩
  | bl i j =>
    cases id hd
    cases id he
    refine ⟨_, rfl, _, .ty "tuple", .type "bool", .type "tuple", false, rfl, .ty "tuple", .base (.bl _), kit_ty (by decide +kernel), _, rfl, iteF ?_⟩
    refine ⟨_, rfl, _, .ty "list", .type "bool", .type "list", false, rfl, .ty "list", .base (.bl _), kit_ty (by decide +kernel), _, rfl, iteF ?_⟩
    refine ⟨_, rfl, rfl, _, rfl, iteF ?_⟩
    refine ⟨_, rfl, _, .ty "bool", .type "bool", .type "bool", true, rfl, .ty "bool", .base (.bl _), kit_ty (by decide +kernel), _, rfl, _, .ty "bool", .type "bool", .type "bool", true, rfl, .ty "bool", .base (.bl _), kit_ty (by decide +kernel), rfl, _, rfl, iteF ?_⟩
    refine ⟨_, rfl, _, .ty "int", .type "bool", .type "int", true, rfl, .ty "int", .base (.bl _), kit_ty (by decide +kernel), _, rfl, _, .ty "int", .type "bool", .type "int", true, rfl, .ty "int", .base (.bl _), kit_ty (by decide +kernel), rfl, _, rfl, iteF ?_⟩
    refine ⟨_, rfl, _, .ty "str", .type "bool", .type "str", false, rfl, .ty "str", .base (.bl _), kit_ty (by decide +kernel), _, rfl, _, .ty "str", .type "bool", .type "str", false, rfl, .ty "str", .base (.bl _), kit_ty (by decide +kernel), rfl, _, rfl, iteT ?_⟩
    exact ⟨_, rfl, _, rfl, _, _, hd, he, (ly_bl 0 _).shaped (by decide), (ly_bl 0 _).shaped (by decide), k⟩
  | str h1 h2 =>
    cases id hd
    cases id he
    refine ⟨_, rfl, _, .ty "tuple", .type "str", .type "tuple", false, rfl, .ty "tuple", .base (.str _), kit_ty (by decide +kernel), _, rfl, iteF ?_⟩
    refine ⟨_, rfl, _, .ty "list", .type "str", .type "list", false, rfl, .ty "list", .base (.str _), kit_ty (by decide +kernel), _, rfl, iteF ?_⟩
    refine ⟨_, rfl, rfl, _, rfl, iteF ?_⟩
    refine ⟨_, rfl, _, .ty "bool", .type "str", .type "bool", false, rfl, .ty "bool", .base (.str _), kit_ty (by decide +kernel), _, rfl, _, .ty "bool", .type "str", .type "bool", false, rfl, .ty "bool", .base (.str _), kit_ty (by decide +kernel), rfl, _, rfl, iteF ?_⟩
    refine ⟨_, rfl, _, .ty "int", .type "str", .type "int", false, rfl, .ty "int", .base (.str _), kit_ty (by decide +kernel), _, rfl, _, .ty "int", .type "str", .type "int", false, rfl, .ty "int", .base (.str _), kit_ty (by decide +kernel), rfl, _, rfl, iteF ?_⟩
    refine ⟨_, rfl, _, .ty "str", .type "str", .type "str", true, rfl, .ty "str", .base (.str _), kit_ty (by decide +kernel), _, rfl, _, .ty "str", .type "str", .type "str", true, rfl, .ty "str", .base (.str _), kit_ty (by decide +kernel), rfl, _, rfl, iteT ?_⟩
    exact ⟨_, rfl, _, rfl, _, _, hd, he, (ly_str (n := 0) h1).shaped (by decide), (ly_str (n := 0) h2).shaped (by decide), k⟩
  | is i y =>
    cases id hd
    cases id he
    refine ⟨_, rfl, _, .ty "tuple", .type "str", .type "tuple", false, rfl, .ty "tuple", .base (.str _), kit_ty (by decide +kernel), _, rfl, iteF ?_⟩
    refine ⟨_, rfl, _, .ty "list", .type "str", .type "list", false, rfl, .ty "list", .base (.str _), kit_ty (by decide +kernel), _, rfl, iteF ?_⟩
    refine ⟨_, rfl, rfl, _, rfl, iteF ?_⟩
    refine ⟨_, rfl, _, .ty "bool", .type "str", .type "bool", false, rfl, .ty "bool", .base (.str _), kit_ty (by decide +kernel), _, rfl, _, .ty "bool", .type "int", .type "bool", false, rfl, .ty "bool", .base (.int _), kit_ty (by decide +kernel), rfl, _, rfl, iteF ?_⟩
    refine ⟨_, rfl, _, .ty "int", .type "str", .type "int", false, rfl, .ty "int", .base (.str _), kit_ty (by decide +kernel), _, rfl, _, .ty "int", .type "int", .type "int", true, rfl, .ty "int", .base (.int _), kit_ty (by decide +kernel), rfl, _, rfl, iteT ?_⟩
    exact k
  | si x j =>
    cases id hd
    cases id he
    refine ⟨_, rfl, _, .ty "tuple", .type "int", .type "tuple", false, rfl, .ty "tuple", .base (.int _), kit_ty (by decide +kernel), _, rfl, iteF ?_⟩
    refine ⟨_, rfl, _, .ty "list", .type "int", .type "list", false, rfl, .ty "list", .base (.int _), kit_ty (by decide +kernel), _, rfl, iteF ?_⟩
    refine ⟨_, rfl, rfl, _, rfl, iteF ?_⟩
    refine ⟨_, rfl, _, .ty "bool", .type "int", .type "bool", false, rfl, .ty "bool", .base (.int _), kit_ty (by decide +kernel), _, rfl, _, .ty "bool", .type "str", .type "bool", false, rfl, .ty "bool", .base (.str _), kit_ty (by decide +kernel), rfl, _, rfl, iteF ?_⟩
    refine ⟨_, rfl, _, .ty "int", .type "int", .type "int", true, rfl, .ty "int", .base (.int _), kit_ty (by decide +kernel), _, rfl, _, .ty "int", .type "str", .type "int", false, rfl, .ty "int", .base (.str _), kit_ty (by decide +kernel), rfl, _, rfl, iteT ?_⟩
    exact k
  | @tup _ xs ys hk hy =>
    cases hd with | @tup a vs _ sd pd =>
    cases he with | @tup b ws _ se pe =>
    refine ⟨_, rfl, _, .ty "tuple", .type "tuple", .type "tuple", true, rfl, .ty "tuple", (tyx_tup se), kit_ty (by decide +kernel), _, rfl, iteT (iteT ?_)⟩
    refine ⟨_, rfl, _, .ty "tuple", .type "tuple", .type "tuple", true, rfl, .ty "tuple", (tyx_tup se), kit_ty (by decide +kernel), _, rfl, _, .ty "tuple", .type "tuple", .type "tuple", true, rfl, .ty "tuple", (tyx_tup sd), kit_ty (by decide +kernel), rfl, _, rfl, iteF ?_⟩
    refine ⟨_, rfl, _, .ty "list", .type "tuple", .type "list", false, rfl, .ty "list", (tyx_tup se), kit_ty (by decide +kernel), _, rfl, _, .ty "list", .type "tuple", .type "list", false, rfl, .ty "list", (tyx_tup sd), kit_ty (by decide +kernel), rfl, _, rfl, iteF ?_⟩
    refine ⟨_, rfl, _, _, rfl, .inr sd, _, rfl, _, _, rfl, .inr se, rfl, _, rfl, ?_⟩
    have l1 := DpAll.len pd
    have l2 := DpAll.len pe
    by_cases hl : xs.length = ys.length
    · refine ite2 (fun c => absurd c (by rw [l1, l2, hl, decide_eq_true rfl]; decide)) (fun _ => ?_)
      refine ⟨_, rfl, _, _, rfl, .inr se, _, rfl, by omega, by omega, ?_⟩
      rw [show ((ws.length : Int)).toNat = ys.length by rw [l2]; omega]
      refine for_range (Pv := fun i σ H1 => H1 = H ∧ ∃ o, σ = [some (.ref a), some (.ref b), o] ∧ ∀ (k : Nat) (x y : PyData), k < i → xs[k]? = some x → ys[k]? = some y → PyData.eqv x y = true) ⟨rfl, none, rfl, fun k x y h => absurd h (Nat.not_lt_zero _)⟩ ?_ ?_
      · rintro i σ H1 hi ⟨rfl, o, rfl, ok⟩
        have ex : xs[i]? = some (xs[i]'(by omega)) := List.getElem?_eq_getElem _
        have ey : ys[i]? = some ys[i] := List.getElem?_eq_getElem hi
        obtain ⟨v1, hv1, d1⟩ := DpAll.get pd ex
        obtain ⟨v2, hv2, d2⟩ := DpAll.get pe ey
        generalize (xs[i]'_ : PyData) = x at ex d1
        generalize ys[i] = y at ey d2
        have a1 : atI vs (0 + (i : Int)) = some v1 := atI_of (by omega) (by rw [show (0 + (i : Int)).toNat = i by omega]; exact hv1)
        have a2 : atI ws (0 + (i : Int)) = some v2 := atI_of (by omega) (by rw [show (0 + (i : Int)).toNat = i by omega]; exact hv2)
        refine ⟨_, rfl, _, rfl, .inr (.inl ⟨_, _, _, _, rfl, rfl, sd, a1, ?_⟩)⟩
        refine ⟨_, rfl, _, rfl, .inr (.inl ⟨_, _, _, _, rfl, rfl, se, a2, ?_⟩)⟩
        refine ⟨v1, v2, x, y, rfl, d1, d2, hk i x y ex ey, _, rfl, ?_⟩
        cases hq : PyData.eqv x y with
        | true =>
          refine iteF ⟨rfl, _, rfl, fun k x' y' h1 e1 e2 => ?_⟩
          by_cases hki : k = i
          · subst hki
            rw [ex] at e1
            rw [ey] at e2
            obtain rfl := Option.some.inj e1
            obtain rfl := Option.some.inj e2
            exact hq
          · exact ok k x' y' (by omega) e1 e2
        | false =>
          refine iteT ?_
          have hf : PyData.eqvAll xs ys = false := by
            rw [← Bool.not_eq_true, eqvAll_iff hl]
            intro h
            rw [h i x y ex ey] at hq
            cases hq
          have k' := k
          simp only [PyData.eqv, hf] at k'
          exact k'
      · rintro σ H1 ⟨rfl, o, rfl, ok⟩
        have hf : PyData.eqvAll xs ys = true := (eqvAll_iff hl).mpr fun k x y e1 e2 => ok k x y (List.getElem?_eq_some_iff.mp e2).1 e1 e2
        have k' := k
        simp only [PyData.eqv, hf] at k'
        exact k'
    · refine ite2 (fun _ => ?_) (fun c => ?_)
      · have k' := k
        simp only [PyData.eqv, eqvAll_len hl] at k'
        exact k'
      · have c : ¬ (!decide (V.int (vs.length : Nat) = V.int (ws.length : Nat))) = true := c
        rw [Bool.not_eq_true', decide_eq_false_iff_not, Classical.not_not, V.int.injEq] at c
        exact absurd (by omega) hl
  | @lst _ xs ys hk hy =>
    cases hd with | @lst a vs _ sd pd =>
    cases he with | @lst b ws _ se pe =>
    refine ⟨_, rfl, _, .ty "tuple", .type "list", .type "tuple", false, rfl, .ty "tuple", (tyx_lst se), kit_ty (by decide +kernel), _, rfl, iteF ?_⟩
    refine ⟨_, rfl, _, .ty "list", .type "list", .type "list", true, rfl, .ty "list", (tyx_lst se), kit_ty (by decide +kernel), _, rfl, iteT ?_⟩
    refine ⟨_, rfl, _, .ty "tuple", .type "list", .type "tuple", false, rfl, .ty "tuple", (tyx_lst se), kit_ty (by decide +kernel), _, rfl, _, .ty "tuple", .type "list", .type "tuple", false, rfl, .ty "tuple", (tyx_lst sd), kit_ty (by decide +kernel), rfl, _, rfl, iteF ?_⟩
    refine ⟨_, rfl, _, .ty "list", .type "list", .type "list", true, rfl, .ty "list", (tyx_lst se), kit_ty (by decide +kernel), _, rfl, _, .ty "list", .type "list", .type "list", true, rfl, .ty "list", (tyx_lst sd), kit_ty (by decide +kernel), rfl, _, rfl, iteF ?_⟩
    refine ⟨_, rfl, _, _, rfl, .inl sd, _, rfl, _, _, rfl, .inl se, rfl, _, rfl, ?_⟩
    have l1 := DpAll.len pd
    have l2 := DpAll.len pe
    by_cases hl : xs.length = ys.length
    · refine ite2 (fun c => absurd c (by rw [l1, l2, hl, decide_eq_true rfl]; decide)) (fun _ => ?_)
      refine ⟨_, rfl, _, _, rfl, .inl se, _, rfl, by omega, by omega, ?_⟩
      rw [show ((ws.length : Int)).toNat = ys.length by rw [l2]; omega]
      refine for_range (Pv := fun i σ H1 => H1 = H ∧ ∃ o, σ = [some (.ref a), some (.ref b), o] ∧ ∀ (k : Nat) (x y : PyData), k < i → xs[k]? = some x → ys[k]? = some y → PyData.eqv x y = true) ⟨rfl, none, rfl, fun k x y h => absurd h (Nat.not_lt_zero _)⟩ ?_ ?_
      · rintro i σ H1 hi ⟨rfl, o, rfl, ok⟩
        have ex : xs[i]? = some (xs[i]'(by omega)) := List.getElem?_eq_getElem _
        have ey : ys[i]? = some ys[i] := List.getElem?_eq_getElem hi
        obtain ⟨v1, hv1, d1⟩ := DpAll.get pd ex
        obtain ⟨v2, hv2, d2⟩ := DpAll.get pe ey
        generalize (xs[i]'_ : PyData) = x at ex d1
        generalize ys[i] = y at ey d2
        have a1 : atI vs (0 + (i : Int)) = some v1 := atI_of (by omega) (by rw [show (0 + (i : Int)).toNat = i by omega]; exact hv1)
        have a2 : atI ws (0 + (i : Int)) = some v2 := atI_of (by omega) (by rw [show (0 + (i : Int)).toNat = i by omega]; exact hv2)
        refine ⟨_, rfl, _, rfl, .inl ⟨_, _, _, _, rfl, rfl, sd, a1, ?_⟩⟩
        refine ⟨_, rfl, _, rfl, .inl ⟨_, _, _, _, rfl, rfl, se, a2, ?_⟩⟩
        refine ⟨v1, v2, x, y, rfl, d1, d2, hk i x y ex ey, _, rfl, ?_⟩
        cases hq : PyData.eqv x y with
        | true =>
          refine iteF ⟨rfl, _, rfl, fun k x' y' h1 e1 e2 => ?_⟩
          by_cases hki : k = i
          · subst hki
            rw [ex] at e1
            rw [ey] at e2
            obtain rfl := Option.some.inj e1
            obtain rfl := Option.some.inj e2
            exact hq
          · exact ok k x' y' (by omega) e1 e2
        | false =>
          refine iteT ?_
          have hf : PyData.eqvAll xs ys = false := by
            rw [← Bool.not_eq_true, eqvAll_iff hl]
            intro h
            rw [h i x y ex ey] at hq
            cases hq
          have k' := k
          simp only [PyData.eqv, hf] at k'
          exact k'
      · rintro σ H1 ⟨rfl, o, rfl, ok⟩
        have hf : PyData.eqvAll xs ys = true := (eqvAll_iff hl).mpr fun k x y e1 e2 => ok k x y (List.getElem?_eq_some_iff.mp e2).1 e1 e2
        have k' := k
        simp only [PyData.eqv, hf] at k'
        exact k'
    · refine ite2 (fun _ => ?_) (fun c => ?_)
      · have k' := k
        simp only [PyData.eqv, eqvAll_len hl] at k'
        exact k'
      · have c : ¬ (!decide (V.int (vs.length : Nat) = V.int (ws.length : Nat))) = true := c
        rw [Bool.not_eq_true', decide_eq_false_iff_not, Classical.not_not, V.int.injEq] at c
        exact absurd (by omega) hl
/-- rows that a new list D gathers -/
def RowsIn (H : Hp) (D : Addr) (ms : List V) (R : Rows) : Prop := Paired (fun v l => MovesAt H v l ∧ v ≠ .ref D) ms R
theorem RowsIn.grow {H H' : Hp} {D : Addr} {ms : List V} {R : Rows} (h : RowsIn H D ms R) (s : Same H H') : RowsIn H' D ms R := Paired.mapP h fun _ _ q => ⟨q.1.mono s, q.2⟩
theorem RowsIn.upd {H : Hp} {D : Addr} {ms : List V} {R : Rows} {o : HO} (h : RowsIn H D ms R) (ht : ∀ xs, H D ≠ some (.tup xs)) : RowsIn (upd H D o) D ms R := Paired.mapP h fun _ _ q => ⟨q.1.upd q.2 ht, q.2⟩
theorem not_tup {H : Hp} {D : Addr} {ms : List V} (h : H D = some (.lst ms)) : ∀ xs, H D ≠ some (.tup xs) := fun xs e => by rw [h] at e; cases e
theorem RowsIn.put {H : Hp} {D : Addr} {ms : List V} {R : Rows} {v : V} {l : List Move} {o : HO} (h : RowsIn H D ms R) (hD : ∀ xs, H D ≠ some (.tup xs)) (m : MovesAt H v l) (hv : v ≠ .ref D) : RowsIn (L2.upd H D o) D (ms ++ [v]) (R ++ [l]) :=
  paired_snoc (h.upd hD) ⟨m.upd hv hD, hv⟩
theorem RowsIn.fin {H : Hp} {D : Addr} {ms : List V} {R : Rows} (h : RowsIn H D ms R) : Paired (MovesAt H) ms R := Paired.mapP h fun _ _ q => q.1
def spCopy : Sp := fun vs H Q _ => ∃ r R, vs = [r] ∧ RowsAt H r R ∧ R.length ≤ 4000 ∧ ∀ q ms H', H q = none → Same H H' → H' q = some (.lst ms) → Paired (MovesAt H') ms R → Q (.ref q) H'
theorem sc__law_copy : FnScope (["_law_rows", "_law_moves"] : List Str) ["_law_rows"] (defScope s_copy_L) := ⟨rfl, rfl, rfl, by decide +kernel, rfl, by decide +kernel, by decide +kernel⟩
theorem ok_copy (F : TF K "_law_copy" s_copy_L) (T : Tx K mg) : DOk P w K mg base 1 "_law_copy" ["_law_rows"] spCopy := by
  refine dok F T.g__law_copy sc__law_copy (fun vs H Q E h => ?_) (fun _ _ _ _ _ _ us hl => match us, hl with | [_], _ => rfl) (fun cdv A outer s H vs Q E hr h => ?_)
  · obtain ⟨r, R, rfl, _⟩ := h
    rfl
  obtain ⟨r, R, rfl, ⟨a, rs, rfl, ha, hP⟩, h4, k⟩ := h
  have hl := paired_len hP
  refine ⟨_, (pss_one (ps_ret (pe_lc (own := [("_law_moves", 1)]) rfl sc__law_copy.nd (pi_list (pv 0)) (blkOk_by (N := (["_law_rows", "_law_moves"] : List Str)) (sc := defScope s_copy_L) (by decide +kernel)) (fun _ _ _ _ _ => (pg_name (i := 1) sc__law_copy.nd rfl (Or.inl rfl))) (fun _ _ _ _ _ => pts_nil) (fun _ _ _ _ _ => (pe_callTy (call_listK (K := K)) (by rfl) T.f_list (by decide +kernel) (pa_cons (pv 1) pa_nil)))))), ?_⟩
  refine ⟨_, rfl, a, rfl, ⟨_, SqL.of ha⟩, fun D hD => ?_⟩
  refine lc_list (xs := rs) (Pv := fun i H1 => ∃ ms, Same H H1 ∧ H1 D = some (.lst ms) ∧ RowsIn H1 D ms (R.take i)) ⟨[], Same.new1 hD, upd_same, by rw [List.take_zero]; exact .nil⟩ ?_ ?_ ?_
  · rintro i H1 _ ⟨ms, s1, _⟩
    exact SqL.of (s1 _ _ ha)
  · rintro i x H1 hx ⟨ms, s1, h1, hR⟩
    have hi := (List.getElem?_eq_some_iff.mp hx).1
    have hm : R[i]? = some (R[i]'(by omega)) := List.getElem?_eq_getElem _
    generalize (R[i]'_) = l at hm
    obtain ⟨x', hx', c, mv, rfl, hc, hM⟩ := paired_getR hP hm
    rw [hx] at hx'
    obtain rfl := Option.some.inj hx'
    refine ⟨rfl, _, rfl, c, _, rfl, .inl (SqL.of (s1 _ _ hc)), fun p hp => ?_⟩
    have hpD : p ≠ D := by rintro rfl; rw [h1] at hp; cases hp
    have s2 : Same H1 (upd H1 p (.lst mv)) := Same.new1 hp
    have h2 : upd H1 p (.lst mv) D = some (.lst ms) := s2 _ _ h1
    have hlen : ms.length = i := by
      have := paired_len hR
      rw [List.length_take] at this
      omega
    refine ⟨ms, h2, szLt (by omega), ms ++ [.ref p], Same.mut (Same.new s1 hp) hD, upd_same, ?_⟩
    rw [show R.take (i + 1) = R.take i ++ [l] by rw [List.take_add_one, hm]; rfl]
    exact (hR.grow s2).put (not_tup h2) ⟨p, mv, rfl, upd_same, Paired.mapP hM fun v m q => q.mono (Tups.same (s1.trans s2))⟩ (fun e => hpD (V.ref.inj e))
  · rintro H1 ⟨ms, s1, h1, hR⟩
    rw [hl, List.take_length] at hR
    exact k D ms H1 hD s1 h1 hR.fin
theorem sc__law_turned : FnScope (["_law_rows", "_law_moves"] : List Str) ["_law_rows"] (defScope s_turned_L) := ⟨rfl, rfl, rfl, by decide +kernel, rfl, by decide +kernel, by decide +kernel⟩
theorem ok_turned (F : TF K "_law_turned" s_turned_L) (T : Tx K mg) : DOk P w K mg base 1 "_law_turned" ["_law_rows"] (fun vs H Q _ => ∃ r R, vs = [r] ∧ RowsAt H r R ∧ R.length ≤ 4000 ∧ ∀ q ms H', H q = none → Same H H' → H' q = some (.lst ms) → Paired (MovesAt H') ms (R.map List.reverse) → Q (.ref q) H') := by
  refine dok F T.g__law_turned sc__law_turned (fun vs H Q E h => ?_) (fun _ _ _ _ _ _ us hl => match us, hl with | [_], _ => rfl) (fun cdv A outer s H vs Q E hr h => ?_)
  · obtain ⟨r, R, rfl, _⟩ := h
    rfl
  obtain ⟨r, R, rfl, ⟨a, rs, rfl, ha, hP⟩, h4, k⟩ := h
  have hl := paired_len hP
  refine ⟨_, (pss_one (ps_ret (pe_lc (own := [("_law_moves", 1)]) rfl sc__law_turned.nd (pi_list (pv 0)) (blkOk_by (N := (["_law_rows", "_law_moves"] : List Str)) (sc := defScope s_turned_L) (by decide +kernel)) (fun _ _ _ _ _ => (pg_name (i := 1) sc__law_turned.nd rfl (Or.inl rfl))) (fun _ _ _ _ _ => pts_nil) (fun _ _ _ _ _ => (pe_revK (K := K) (pv 1)))))), ?_⟩
  refine ⟨_, rfl, a, rfl, ⟨_, SqL.of ha⟩, fun D hD => ?_⟩
  refine lc_list (xs := rs) (Pv := fun i H1 => ∃ ms, Same H H1 ∧ H1 D = some (.lst ms) ∧ RowsIn H1 D ms ((R.map List.reverse).take i)) ⟨[], Same.new1 hD, upd_same, by rw [List.take_zero]; exact .nil⟩ ?_ ?_ ?_
  · rintro i H1 _ ⟨ms, s1, _⟩
    exact SqL.of (s1 _ _ ha)
  · rintro i x H1 hx ⟨ms, s1, h1, hR⟩
    have hi := (List.getElem?_eq_some_iff.mp hx).1
    have hm : R[i]? = some (R[i]'(by omega)) := List.getElem?_eq_getElem _
    generalize (R[i]'_) = l at hm
    obtain ⟨x', hx', c, mv, rfl, hc, hM⟩ := paired_getR hP hm
    rw [hx] at hx'
    obtain rfl := Option.some.inj hx'
    refine ⟨rfl, _, rfl, c, _, rfl, SqL.of (s1 _ _ hc), fun p hp => ?_⟩
    have hpD : p ≠ D := by rintro rfl; rw [h1] at hp; cases hp
    have s2 : Same H1 (upd H1 p (.lst mv.reverse)) := Same.new1 hp
    have h2 : upd H1 p (.lst mv.reverse) D = some (.lst ms) := s2 _ _ h1
    have hlen : ms.length = i := by
      have := paired_len hR
      rw [List.length_take, List.length_map] at this
      omega
    refine ⟨ms, h2, szLt (by omega), ms ++ [.ref p], Same.mut (Same.new s1 hp) hD, upd_same, ?_⟩
    rw [show (R.map List.reverse).take (i + 1) = (R.map List.reverse).take i ++ [l.reverse] by rw [List.take_add_one, List.getElem?_map, hm]; rfl]
    exact (hR.grow s2).put (not_tup h2) ⟨p, _, rfl, upd_same, paired_rev (Paired.mapP hM fun v m q => q.mono (Tups.same (s1.trans s2)))⟩ (fun e => hpD (V.ref.inj e))
  · rintro H1 ⟨ms, s1, h1, hR⟩
    rw [hl, ← List.length_map (as := R) List.reverse, List.take_length] at hR
    exact k D ms H1 hD s1 h1 hR.fin
def spTable (w : World) : Sp := fun vs H Q _ => ∃ r R dv ds, vs = [r, dv] ∧ RowsAt H r R ∧ Wf R ∧ R.length ≤ 4000 ∧ (∀ ms ∈ R, ∀ m ∈ ms, DeedOk m.1) ∧ DeedsAt H dv ds ∧ (∀ d ∈ ds, DeedOk d) ∧ ds.length ≤ 8 ∧
  ∀ a H', H a = none → Same H H' → Tab w H' a R ds → Q (.ref a) H'
theorem sc__law_table : FnScope (["_law_rows", "_law_deeds", "_law_table_here", "_law_at", "_law_deed"] : List Str) ["_law_rows", "_law_deeds"] (defScope s_table_L) := ⟨rfl, rfl, rfl, by decide +kernel, rfl, by decide +kernel, by decide +kernel⟩
theorem ok_table (F : TF K "_law_table" s_table_L) (T : Tx K mg) (D__law_replies : DOk P w K mg base 2 "_law_replies" ["_law_rows", "_law_at", "_law_deed"] spRepliesL) :
    DOk P w K mg base 3 "_law_table" ["_law_rows", "_law_deeds"] (spTable w) := by
  refine dok F T.g__law_table sc__law_table (fun vs H Q E h => ?_) (fun _ _ _ _ _ _ us hl => match us, hl with | [_, _], _ => rfl) (fun cdv A outer s H vs Q E hr h => ?_)
  · obtain ⟨r, R, dv, ds, rfl, _⟩ := h
    rfl
  obtain ⟨r, R, dv, ds, rfl, hR, wf, h4, hok, hds, dok, h8, k⟩ := h
  obtain ⟨b, rs, rfl, hb, hbP⟩ := id hR
  obtain ⟨c, dvs, rfl, hc, hcP⟩ := id hds
  have hu9 := hu9_of hr
  refine ⟨_, (pss_cons (ps_set (i := 2) sc__law_table.nd rfl (Or.inl rfl) pe_nnew)
    (pss_cons (ps_for PassesOwn.never rfl (pi_range1 rfl T.f_range (pa_cons (pe_callB call_len_seq (by rfl) T.f_len (by decide +kernel) (pa_cons (pv 0) pa_nil)) pa_nil)) (pg_name (i := 3) sc__law_table.nd rfl (Or.inl rfl)) (pss_one (ps_for PassesOwn.never rfl (pi_list (pv 1)) (pg_name (i := 4) sc__law_table.nd rfl (Or.inl rfl)) (pss_one (ps_if (pt_cmpR op_ne (pe_ix ix_tup (pv 4) pe_int (fun _ _ => rfl)) pe_str (nomark _)) (pss_one (ps_asg (pe_d D__law_replies (hr.mono (by decide)) (by rfl) (pa_cons (pv 0) (pa_cons (pv 3) (pa_cons (pv 4) pa_nil)))) (pg_sub (pv 2) (pe_tup (pa_cons (pv 3) (pa_cons (pv 4) pa_nil))) (set_n hu9)))) pss_nil)))))
    (pss_one (ps_ret (pv 2))))), ?_⟩
  intro t o ht nd
  have s0 : Same H (upd H t (dob t o)) := Same.new1 ht
  refine ⟨_, rfl, b, _, rfl, .inl (SqL.of (s0 _ _ hb)), _, rfl, by have := paired_len hbP; omega, by have := paired_len hbP; omega, ?_⟩
  rw [show ((rs.length : Int)).toNat = R.length by rw [paired_len hbP]; omega]
  have hlen := paired_len hcP
  let Inv := fun (i j : Nat) (H1 : Hp) => Same H H1 ∧ ∃ (qs : List (Int × Deed)) (f : Int × Deed → V), DM TD w H1 t qs f ∧ qs.length ≤ i * 8 + j ∧
    (∀ i' d, CM.InR R.length i' → d ∈ ds → hid d = false → (i' < i ∨ (i' = i ∧ d ∈ ds.take j)) → (i', d) ∈ qs) ∧ ∀ q ∈ qs, IntsAt H1 (f q) (CM.reps hid R q.1 q.2)
  refine for_range (Pv := fun i σ H1 => ∃ (o3 o4 : Option V), σ = [some (.ref b), some (.ref c), some (.ref t), o3, o4] ∧ Inv i 0 H1) ⟨none, none, rfl, s0, [], fun _ => .non, ⟨o, nd⟩, Nat.zero_le _, ?_, fun q hq => absurd hq (List.not_mem_nil)⟩ ?_ ?_
  · rintro i' d hi' hd _ (h | ⟨_, h⟩)
    · have := hi'.1; omega
    · simp at h
  · rintro i σ H1 hi ⟨o3, o4, rfl, s1, I⟩
    refine ⟨_, rfl, c, rfl, ⟨_, SqL.of (s1 _ _ hc)⟩, ?_⟩
    refine for_list (xs := dvs) (Pv := fun j σ H2 => ∃ (o4 : Option V), σ = [some (.ref b), some (.ref c), some (.ref t), some (.int (0 + (i : Int))), o4] ∧ Inv i j H2) ⟨o4, rfl, s1, I⟩ ?_ ?_ ?_
    · rintro j σ H2 _ ⟨o4, rfl, s2, _⟩
      exact SqL.of (s2 _ _ hc)
    · rintro j x σ H2 hx ⟨o4, rfl, s2, qs, f, dm, hql, hin, hval⟩
      have hj := (List.getElem?_eq_some_iff.mp hx).1
      have hd : ds[j]? = some (ds[j]'(by omega)) := List.getElem?_eq_getElem _
      generalize (ds[j]'_) = d at hd
      obtain ⟨x', hx', hda⟩ := paired_getR hcP hd
      rw [hx] at hx'
      obtain rfl := Option.some.inj hx'
      obtain ⟨z, rfl, hz⟩ := id hda
      have hdm : d ∈ ds := List.mem_of_getElem? hd
      have htk : ds.take (j + 1) = ds.take j ++ [d] := by rw [List.take_add_one, hd]; rfl
      refine ⟨_, rfl, z, _, 1, _, rfl, rfl, SqT.of (s2 _ _ hz), rfl, rfl, _, rfl, ?_⟩
      rw [← hid_eq]
      cases hh : hid d with
      | true =>
        refine iteF ⟨_, rfl, s2, qs, f, dm, by omega, ?_, hval⟩
        intro i' d' h1 h2 h3 h4
        refine hin i' d' h1 h2 h3 ?_
        rcases h4 with h4 | ⟨h4, h5⟩
        · exact .inl h4
        · rw [htk, List.mem_append, List.mem_singleton] at h5
          rcases h5 with h5 | rfl
          · exact .inr ⟨h4, h5⟩
          · rw [hh] at h3; cases h3
      | false =>
        refine iteT ⟨_, rfl, _, rfl, _, rfl, .ref b, R, 0 + (i : Int), .ref z, d, rfl, hR.mono s2, wf, h4, hok, ⟨by omega, by omega⟩, hda.mono (Tups.same s2), dok d hdm, fun q H3 hq s3 h3 => ?_⟩
        refine ⟨_, rfl, _, rfl, _, rfl, szk 2 rfl, fun p hp => ?_⟩
        have s23 := s2.trans s3
        have s4 : Same H3 (upd H3 p (.tup [.int (0 + (i : Int)), .ref z])) := Same.new1 hp
        have s24 := s23.trans s4
        obtain ⟨ob, hob⟩ := DM.at dm
        have dm3 : DM TD w (upd H3 p (.tup [.int (0 + (i : Int)), .ref z])) t qs f := dm.mono (by rw [s4 _ _ (s3 _ _ hob), hob]) (Tups.same (s3.trans s4))
        refine ⟨t, _, _, rfl, dm3, isTD (hda.mono (Tups.same s24)) upd_same, szLt (by rw [mapD_len]; omega), fun o' nd' => ?_⟩
        have hqt : q ≠ t := by rintro rfl; rw [hob] at hq; cases hq
        have hv : IntsAt (upd (upd H3 p (.tup [.int (0 + (i : Int)), .ref z])) t (dob t o')) (.ref q) (CM.reps hid R (0 + (i : Int)) d) := IntsAt.upd (IntsAt.mono ⟨q, rfl, h3⟩ s4) (fun e => hqt (V.ref.inj e))
        have hold : ∀ q' ∈ qs, IntsAt (upd (upd H3 p (.tup [.int (0 + (i : Int)), .ref z])) t (dob t o')) (f q') (CM.reps hid R q'.1 q'.2) := fun q' hq' => by
          obtain ⟨y, ey, hy⟩ := (hval q' hq').mono (s3.trans s4)
          rw [ey]
          exact IntsAt.upd ⟨y, rfl, hy⟩ (fun e => DM.notLst dm3 hy (V.ref.inj e))
        refine ⟨_, rfl, Same.mut s24 ht, ?_⟩
        by_cases hk : (0 + (i : Int), d) ∈ qs
        · refine ⟨qs, fset f (0 + (i : Int), d) (.ref q), by rw [mapD_put_old hk] at nd'; exact nd', by omega, ?_, ?_⟩
          · intro i' d' h1 h2 h3 h4
            rcases h4 with h4 | ⟨h4, h5⟩
            · exact hin i' d' h1 h2 h3 (.inl h4)
            · rw [htk, List.mem_append, List.mem_singleton] at h5
              rcases h5 with h5 | rfl
              · exact hin i' d' h1 h2 h3 (.inr ⟨h4, h5⟩)
              · rw [h4]
                rw [Int.zero_add] at hk
                exact hk
          · intro q' hq'
            by_cases e : q' = (0 + (i : Int), d)
            · subst e
              rw [fset_same]
              exact hv
            · rw [fset_ne e]
              exact hold q' hq'
        · refine ⟨qs ++ [(0 + (i : Int), d)], fset f (0 + (i : Int), d) (.ref q), by rw [mapD_put_new hk] at nd'; exact nd', by rw [List.length_append, List.length_singleton]; omega, ?_, ?_⟩
          · intro i' d' h1 h2 h3 h4
            rw [List.mem_append, List.mem_singleton]
            rcases h4 with h4 | ⟨h4, h5⟩
            · exact .inl (hin i' d' h1 h2 h3 (.inl h4))
            · rw [htk, List.mem_append, List.mem_singleton] at h5
              rcases h5 with h5 | rfl
              · exact .inl (hin i' d' h1 h2 h3 (.inr ⟨h4, h5⟩))
              · rw [h4, Int.zero_add]
                exact .inr rfl
          · intro q' hq'
            by_cases e : q' = (0 + (i : Int), d)
            · subst e
              rw [fset_same]
              exact hv
            · rw [fset_ne e]
              rw [List.mem_append, List.mem_singleton] at hq'
              exact hold q' (hq'.resolve_right e)
    · rintro σ H2 ⟨o4, rfl, s2, qs, f, dm, hql, hin, hval⟩
      refine ⟨_, _, rfl, s2, qs, f, dm, by omega, ?_, hval⟩
      rintro i' d h1 h2 h3 (h5 | ⟨h5, h6⟩)
      · by_cases e : i' = (i : Int)
        · exact hin i' d h1 h2 h3 (.inr ⟨e, by rw [hlen, List.take_length]; exact h2⟩)
        · exact hin i' d h1 h2 h3 (.inl (by omega))
      · simp at h6
  · rintro σ H1 ⟨o3, o4, rfl, s1, qs, f, dm, hql, hin, hval⟩
    exact ⟨_, rfl, k t H1 ht s1 ⟨qs, f, dm, fun i d h1 h2 h3 => hin i d h1 h2 h3 (.inl (by have := h1.2; omega)), hval⟩⟩
def spUnion (w : World) : Sp := fun vs H Q _ => ∃ t hv dv R ds here d, vs = [.ref t, hv, dv] ∧ Tab w H t R ds ∧ Wf R ∧ R.length ≤ 4000 ∧ IntsAt H hv here ∧ (∀ i ∈ here, InR R.length i) ∧ DeedAt H dv d ∧ d ∈ ds ∧ hid d = false ∧
  ∀ (l : List Int) q H', H q = none → Same H H' → H' q = some (.lst (l.map V.int)) → (∀ i ∈ l, InR R.length i) → Q (.ref q) H'
theorem sc__law_union : FnScope (["_law_table_here", "_law_here", "_law_deed", "_law_out", "_law_at", "_law_reply"] : List Str) ["_law_table_here", "_law_here", "_law_deed"] (defScope s_union_L) := ⟨rfl, rfl, rfl, by decide +kernel, rfl, by decide +kernel, by decide +kernel⟩
theorem ok_union (F : TF K "_law_union" s_union_L) (T : Tx K mg) : DOk P w K mg base 1 "_law_union" ["_law_table_here", "_law_here", "_law_deed"] (spUnion w) := by
  refine dok F T.g__law_union sc__law_union (fun vs H Q E h => ?_) (fun _ _ _ _ _ _ us hl => match us, hl with | [_, _, _], _ => rfl) (fun cdv A outer s H vs Q E hr h => ?_)
  · obtain ⟨t, hv, dv, R, ds, here, d, rfl, _⟩ := h
    rfl
  obtain ⟨t, hv, dv, R, ds, here, d, rfl, tab, wf, h4, ⟨b, rfl, hb⟩, hin, hda, hdm, hdh, k⟩ := h
  obtain ⟨z, rfl, hz⟩ := id hda
  have hu9 := hu9_of hr
  refine ⟨_, (pss_cons (ps_set (i := 3) sc__law_union.nd rfl (Or.inl rfl) (pe_lst pa_nil))
    (pss_cons (ps_for PassesOwn.never rfl (pi_list (pv 1)) (pg_name (i := 4) sc__law_union.nd rfl (Or.inl rfl)) (pss_one (ps_for PassesOwn.never rfl (pi_list (pe_nget hu9 (pv 0) (pe_tup (pa_cons (pv 4) (pa_cons (pv 2) pa_nil))) (fun _ _ => rfl))) (pg_name (i := 5) sc__law_union.nd rfl (Or.inl rfl)) (pss_one (ps_if (pt_cmpR op_notIn_seq (pv 5) (pv 3) (by rfl)) (pss_one (ps_expr (pe_bm PySem.F.plainAttrs_list PySem.F.slot_list_append PySem.F.type_list_append mt_append (pv 3) (pa_cons (pv 5) pa_nil)))) pss_nil)))))
    (pss_one (ps_ret (pe_callB cr_sortedI (by rfl) T.f_sorted (by decide +kernel) (pa_cons (pv 3) pa_nil)))))), ?_⟩
  refine ⟨Nat.zero_le _, fun p hp => ?_⟩
  have s1 : Same H (upd H p (.lst [])) := Same.new1 hp
  refine ⟨_, rfl, b, rfl, ⟨_, SqL.of (s1 _ _ hb)⟩, ?_⟩
  obtain ⟨qs, f, dm, h1, h2⟩ := tab.ex
  obtain ⟨ot, hot⟩ := DM.at dm
  let Inv := fun (H1 : Hp) => Same H H1 ∧ ∃ out : List Int, H1 p = some (.lst (out.map V.int)) ∧ out.Nodup ∧ ∀ i ∈ out, InR R.length i
  refine for_list (xs := here.map V.int) (Pv := fun j σ H1 => ∃ (o4 o5 : Option V), σ = [some (.ref t), some (.ref b), some (.ref z), some (.ref p), o4, o5] ∧ Inv H1) ⟨none, none, rfl, s1, [], upd_same, List.nodup_nil, fun i h => absurd h (List.not_mem_nil)⟩ ?_ ?_ ?_
  · rintro j σ H1 _ ⟨o4, o5, rfl, s2, _⟩
    exact SqL.of (s2 _ _ hb)
  · rintro j x σ H1 hx ⟨o4, o5, rfl, s2, out, ho, nd, hor⟩
    obtain ⟨i, hi, rfl⟩ := map_get hx
    have hir := hin i (List.mem_of_getElem? hi)
    refine ⟨_, rfl, _, rfl, _, rfl, szk 2 rfl, fun u hu => ?_⟩
    have s3 : Same H1 (upd H1 u (.tup [.int i, .ref z])) := Same.new1 hu
    have s23 := s2.trans s3
    have hq := h1 i d hir hdm hdh
    obtain ⟨y, ey, hy⟩ := h2 _ hq
    have dm2 : DM TD w (upd H1 u (.tup [.int i, .ref z])) t qs f := dm.mono (by rw [s23 _ _ hot, hot]) (Tups.same s23)
    refine ⟨t, _, _, f (i, d), rfl, dm2, isTD (hda.mono (Tups.same s23)) upd_same, by rw [mapD_get, if_pos hq], ?_⟩
    refine ⟨y, ey, ⟨_, SqL.of (s23 _ _ hy)⟩, ?_⟩
    refine for_list (xs := (reps hid R i d).map V.int) (Pv := fun l σ H2 => ∃ (o5 : Option V), σ = [some (.ref t), some (.ref b), some (.ref z), some (.ref p), some (.int i), o5] ∧ Inv H2) ⟨o5, rfl, s23, out, s3 _ _ ho, nd, hor⟩ ?_ ?_ ?_
    · rintro l σ H2 _ ⟨o5, rfl, s4, _⟩
      exact SqL.of (s4 _ _ hy)
    · rintro l x σ H2 hx ⟨o5, rfl, s4, out, ho, nd, hor⟩
      obtain ⟨r, hr1, rfl⟩ := map_get hx
      have hrr : InR R.length r := wf.rep ((CM.mem_reps wf).mp (List.mem_of_getElem? hr1))
      have hout := CM.nodup_le (n := R.length) nd hor
      refine ⟨_, rfl, _, rfl, p, _, rfl, .inl (SqL.of ho), rfl, flat_ints _, _, rfl, ?_⟩
      rw [if_pos rfl, in_ints]
      by_cases hin' : r ∈ out
      · rw [decide_eq_true hin']
        exact iteF ⟨_, rfl, s4, out, ho, nd, hor⟩
      · rw [decide_eq_false hin']
        refine iteT ⟨_, rfl, tyL ho, _, rfl, p, _, _, rfl, rfl, ho, szLt (by rw [List.length_map]; omega), ?_⟩
        refine ⟨_, rfl, Same.mut s4 hp, out ++ [r], ints_snoc, ?_, ?_⟩
        · exact List.nodup_append.mpr ⟨nd, by simp, fun a ha b hb => by rw [List.mem_singleton] at hb; subst hb; exact fun e => hin' (e ▸ ha)⟩
        · intro i' hi'
          rw [List.mem_append, List.mem_singleton] at hi'
          rcases hi' with hi' | rfl
          · exact hor i' hi'
          · exact hrr
    · rintro σ H2 ⟨o5, rfl, I⟩
      exact ⟨_, _, rfl, I⟩
  · rintro σ H1 ⟨o4, o5, rfl, s2, out, h2, nd, hr'⟩
    refine ⟨_, rfl, p, out, rfl, SqL.of h2, fun ns' u hperm hs hu' => ?_⟩
    exact k ns' u _ (by cases e : H u with | none => rfl | some o => rw [s2 _ _ e] at hu'; cases hu') (Same.new s2 hu') upd_same fun i hi => hr' i (hperm.mem_iff.mp hi)
end
end Ct
/-! The menu. -/
namespace Ct
open PySem PySem.Spec PyProof.Rows L2 Nd
open CM (InR Wf Qt Rep row reps)
/-- b, n times over -/
def spanB (n : Nat) (b : List Int) : List Int := (List.replicate n b).flatten
theorem spanB_succ (n : Nat) (b : List Int) : spanB (n + 1) b = spanB n b ++ b := by
  unfold spanB
  rw [List.replicate_succ', List.flatten_append]
  simp
theorem spanB_len (n : Nat) (b : List Int) : (spanB n b).length = n * b.length := by
  induction n with
  | zero => simp [spanB]
  | succ n ih => rw [spanB_succ, List.length_append, ih, Nat.succ_mul]
theorem spanB_mem {n : Nat} {b : List Int} {s : Int} (h : s ∈ spanB n b) : s ∈ b := by
  unfold spanB at h
  obtain ⟨l, hl, hs⟩ := List.mem_flatten.mp h
  rw [List.eq_of_mem_replicate hl] at hs
  exact hs
theorem spanB_get {b : List Int} {k j : Nat} : ∀ {n : Nat}, k < n → j < b.length → (spanB n b)[b.length * k + j]? = b[j]?
  | 0, h, _ => absurd h (Nat.not_lt_zero _)
  | n + 1, h, hj => by
    rw [spanB_succ]
    by_cases e : k < n
    · have : b.length * k + j < (spanB n b).length := by
        rw [spanB_len, Nat.mul_comm]
        calc k * b.length + j < k * b.length + b.length := by omega
          _ = (k + 1) * b.length := by rw [Nat.succ_mul]
          _ ≤ n * b.length := Nat.mul_le_mul_right _ e
      rw [List.getElem?_append_left this]
      exact spanB_get e hj
    · have e : k = n := by omega
      subst e
      rw [List.getElem?_append_right (by rw [spanB_len, Nat.mul_comm]; omega), spanB_len, Nat.mul_comm, Nat.add_sub_cancel_left]
theorem span_get {pre b ds : List Int} {n k j : Nat} {s : Int} (h : Drawn (pre ++ spanB n b) ds) (hk : k < n) (hj : b[j]? = some s) : ∃ d, ds[pre.length + b.length * k + j]? = some d ∧ 0 ≤ d ∧ d < s := by
  refine h.get ?_
  rw [List.getElem?_append_right (by omega), show pre.length + b.length * k + j - pre.length = b.length * k + j by omega, spanB_get hk (List.getElem?_eq_some_iff.mp hj).1]
  exact hj
/-- an entry of the drawn list, at an index that the text has worked out -/
theorem ints_at {ds : List Int} {i : Int} {n : Nat} {d : Int} (h : ds[n]? = some d) (e : i = (n : Nat)) : atI (ds.map V.int) i = some (.int d) := by
  subst e
  exact atI_ints (by omega) (by simpa using h)
def words : List Str := ["call", "step", "return", "step", "call", "return"]
structure MenuOk (ds : List Deed) : Prop where
  nd : ds.Nodup
  ok : ∀ d ∈ ds, DeedOk d
  le : ds.length ≤ 8
  has : ∀ k, k < 3 → ∃ d ∈ ds, words[k % 6]? = some d.2.1
  few : (ds.filter fun d => !hid d).length ≤ 5
/-- how many of the first words are visible -/
def cnt (i : Nat) : Nat := ((List.range i).filter fun k => decide (k % 6 ≠ 1 ∧ k % 6 ≠ 3)).length
theorem cnt_le {n : Nat} (h : n ≤ 8) : cnt n ≤ 5 := by
  have : n = 0 ∨ n = 1 ∨ n = 2 ∨ n = 3 ∨ n = 4 ∨ n = 5 ∨ n = 6 ∨ n = 7 ∨ n = 8 := by omega
  rcases this with rfl | rfl | rfl | rfl | rfl | rfl | rfl | rfl | rfl <;> decide
theorem cnt_step (i : Nat) : cnt i ≤ cnt (i + 1) := by
  unfold cnt
  rw [List.range_succ, List.filter_append, List.length_append]
  omega
theorem cnt_add {i : Nat} {W : Str} (h : words[i % 6]? = some W) (hW : W ≠ "step") : cnt (i + 1) = cnt i + 1 := by
  unfold cnt
  rw [List.range_succ, List.filter_append, List.length_append]
  have : (i % 6 ≠ 1 ∧ i % 6 ≠ 3) := ⟨fun e => by rw [e] at h; exact hW (Option.some.inj h).symm, fun e => by rw [e] at h; exact hW (Option.some.inj h).symm⟩
  rw [List.filter_cons_of_pos (by rw [decide_eq_true this])]
  rfl
theorem join_len : ∀ {ys : List Str}, (∀ y ∈ ys, ∃ c, c ∈ abc.cps.toList ∧ y = ⟨#[c]⟩) → (TL.joinL [] (ys.map TL.tl)).length = ys.length ∧ ∀ c ∈ TL.joinL [] (ys.map TL.tl), c ∈ abc.cps.toList
  | [], _ => ⟨rfl, fun c h => by simp [TL.joinL] at h⟩
  | [y], h => by
    obtain ⟨c, hc, rfl⟩ := h y (List.mem_cons_self ..)
    exact ⟨rfl, fun c' h' => by simp [TL.joinL, TL.tl] at h'; rw [h']; exact hc⟩
  | y :: z :: r, h => by
    obtain ⟨c, hc, rfl⟩ := h y (List.mem_cons_self ..)
    obtain ⟨h1, h2⟩ := join_len fun x hx => h x (List.mem_cons_of_mem _ hx)
    have e : TL.joinL [] ((⟨#[c]⟩ :: z :: r : List Str).map TL.tl) = [c] ++ TL.joinL [] ((z :: r).map TL.tl) := rfl
    rw [e]
    refine ⟨by rw [List.length_append, h1]; simp; omega, fun c' h' => ?_⟩
    rw [List.mem_append, List.mem_singleton] at h'
    rcases h' with rfl | h'
    · exact hc
    · exact h2 c' h'
theorem join_name {ys : List Str} (h : ∀ y ∈ ys, ∃ c, c ∈ abc.cps.toList ∧ y = ⟨#[c]⟩) (h1 : 1 ≤ ys.length) (h8 : ys.length ≤ 8) : NameOk (Txt.join "" ys) := by
  obtain ⟨e1, e2⟩ := join_len h
  rw [show ([] : List Nat) = TL.tl "" by decide, ← TL.tl_join, ← TL.join_eq] at e1 e2
  have el : (Txt.join "" ys).length = ys.length := by
    rw [← e1]
    exact Array.length_toList.symm
  refine ⟨by omega, by omega, fun i c hc => e2 c ?_⟩
  rw [← Array.getElem?_toList] at hc
  exact List.mem_of_getElem? hc
section
variable {P : Program} {w : World} {K : PySem.W.Frag} {mg : Str → Option Value} {base : Heap}
def spMenu : Sp := fun vs H Q _ => ∃ (c : Int) (n : Nat), vs = [.int c, .int (n : Nat)] ∧ 0 ≤ c ∧ 3 ≤ n ∧ n ≤ 8 ∧
  ∀ p dvs ds H', H p = none → Same H H' → H' p = some (.lst dvs) → Paired (DeedAt H') dvs ds → MenuOk ds → Q (.ref p) H'
theorem fresh_back {H H1 : Hp} {p : Addr} (s : Same H H1) (h : H1 p = none) : H p = none := by
  cases e : H p with
  | none => rfl
  | some u => rw [s _ _ e] at h; cases h
theorem deeds_all {H H' : Hp} {dvs : List V} {ds : List Deed} (h : Paired (DeedAt H) dvs ds) (t : Tups H H') : Paired (DeedAt H') dvs ds := Paired.mapP h fun _ _ q => q.mono t
theorem sc__law_menu : FnScope (["_law_cell_here", "_law_many", "_law_letters", "_law_words", "_law_spans", "_law_k", "_law_draws_here", "_law_menu_here", "_law_what", "_law_name", "_law_deed", "_law_j"] : List Str) ["_law_cell_here", "_law_many"] (defScope s_menu_L) := ⟨rfl, rfl, rfl, by decide +kernel, rfl, by decide +kernel, by decide +kernel⟩
theorem ok_menu (F : TF K "_law_menu" s_menu_L) (T : Tx K mg) (D__law_draws : DOk P w K mg base 1 "_law_draws" ["_law_cell_here", "_law_spans"] spDraws) :
    DOk P w K mg base 2 "_law_menu" ["_law_cell_here", "_law_many"] spMenu := by
  refine dok F T.g__law_menu sc__law_menu (fun vs H Q E h => ?_) (fun _ _ _ _ _ _ us hl => match us, hl with | [_, _], _ => rfl) (fun cdv A outer s H vs Q E hr h => ?_)
  · obtain ⟨c, n, rfl, _⟩ := h
    rfl
  obtain ⟨c, n, rfl, hc, h3, h8, k⟩ := h
  have hu65 := hu65_of hr
  refine ⟨_, (pss_cons (ps_set (i := 2) sc__law_menu.nd rfl (Or.inr rfl) pe_str)
    (pss_cons (ps_set (i := 3) sc__law_menu.nd rfl (Or.inl rfl) (pe_lst (pa_cons pe_str (pa_cons pe_str (pa_cons pe_str (pa_cons pe_str (pa_cons pe_str (pa_cons pe_str pa_nil))))))))
    (pss_cons (ps_set (i := 4) sc__law_menu.nd rfl (Or.inl rfl) (pe_lst pa_nil))
    (pss_cons (ps_for PassesOwn.never rfl (pi_range1 rfl T.f_range (pa_cons (pv 1) pa_nil)) (pg_name (i := 5) sc__law_menu.nd rfl (Or.inl rfl)) (pss_one (ps_set (i := 4) sc__law_menu.nd rfl (Or.inl rfl) (pe_op op_cat (pv 4) (pe_lst (pa_cons pe_int (pa_cons pe_int (pa_cons pe_int pa_nil))))))))
    (pss_cons (ps_set (i := 6) sc__law_menu.nd rfl (Or.inl rfl) (pe_d D__law_draws (hr.mono (by decide)) (by rfl) (pa_cons (pv 0) (pa_cons (pv 4) pa_nil))))
    (pss_cons (ps_set (i := 7) sc__law_menu.nd rfl (Or.inl rfl) (pe_lst pa_nil))
    (pss_cons (ps_for PassesOwn.never rfl (pi_range1 rfl T.f_range (pa_cons (pv 1) pa_nil)) (pg_name (i := 5) sc__law_menu.nd rfl (Or.inl rfl)) (pss_cons (ps_set (i := 8) sc__law_menu.nd rfl (Or.inl rfl) (pe_ix ix_list (pv 6) (pe_op op_add (pe_op op_mul pe_int (pv 5)) pe_int) (fun _ _ => rfl)))
    (pss_cons (ps_if (pt_cmpR op_eq (pe_ix ix_list (pv 3) (pe_op op_mod (pv 5) pe_int) (fun _ _ => rfl)) pe_str (nomark _)) (pss_cons (ps_set (i := 9) sc__law_menu.nd rfl (Or.inr rfl) (pe_ix ix_list (pv 6) (pe_op op_add (pe_op op_mul pe_int (pv 5)) pe_int) (fun _ _ => rfl)))
    (pss_one (ps_set (i := 8) sc__law_menu.nd rfl (Or.inl rfl) (pe_join pe_str (pe_lc (own := [("_law_j", 11)]) rfl sc__law_menu.nd (pi_range1 rfl T.f_range (pa_cons (pe_op op_add pe_int (pe_op op_mod (pe_callTy call_int1 (by rfl) T.f_int (by decide +kernel) (pa_cons (pv 9) pa_nil)) pe_int)) pa_nil)) (blkOk_by (N := (["_law_cell_here", "_law_many", "_law_letters", "_law_words", "_law_spans", "_law_k", "_law_draws_here", "_law_menu_here", "_law_what", "_law_name", "_law_deed", "_law_j"] : List Str)) (sc := defScope s_menu_L) (by decide +kernel)) (fun _ _ _ _ _ => (pg_name (i := 11) sc__law_menu.nd rfl (Or.inl rfl))) (fun _ _ _ _ _ => pts_nil) (fun _ _ _ _ _ => (pe_ix ix_str (pv 2) (pe_op op_mod (pe_callTy call_int1 (by rfl) T.f_int (by decide +kernel) (pa_cons (pe_op op_add (pe_op op_fdiv (pv 9) pe_int) (pe_op op_mul (pv 11) (pe_op op_fdiv (pv 9) pe_int))) pa_nil)) pe_int) (fun _ _ => rfl)))))))) pss_nil)
    (pss_cons (ps_set (i := 10) sc__law_menu.nd rfl (Or.inl rfl) (pe_tup (pa_cons (pe_ix ix_list (pv 6) (pe_op op_mul pe_int (pv 5)) (fun _ _ => rfl)) (pa_cons (pe_ix ix_list (pv 3) (pe_op op_mod (pv 5) pe_int) (fun _ _ => rfl)) (pa_cons (pv 8) pa_nil)))))
    (pss_one (ps_if (pt_cmpR (op_notInD hu65) (pv 10) (pv 7) (by rfl)) (pss_one (ps_expr (pe_bm PySem.F.plainAttrs_list PySem.F.slot_list_append PySem.F.type_list_append mt_append (pv 7) (pa_cons (pv 10) pa_nil)))) pss_nil))))))
    (pss_one (ps_ret (pv 7)))))))))), ?_⟩
  refine ⟨szk 6 rfl, fun wl hwl => ⟨Nat.zero_le _, fun sp0 hsp0 => ?_⟩⟩
  have s1 : Same H (upd H wl (.lst (words.map V.str))) := Same.new1 hwl
  have s2 : Same H (upd (upd H wl (.lst (words.map V.str))) sp0 (.lst [])) := Same.new s1 hsp0
  have hw2 : (upd (upd H wl (.lst (words.map V.str))) sp0 (.lst [])) wl = some (.lst (words.map V.str)) := (Same.new1 hsp0 : Same (upd H wl (.lst (words.map V.str))) _) _ _ upd_same
  refine ⟨_, rfl, _, rfl, by omega, by omega, ?_⟩
  rw [show ((n : Int)).toNat = n by omega]
  refine for_range (Pv := fun i σ H1 => ∃ (sp : Addr) (o5 : Option V), σ = [some (.int c), some (.int n), some (.str abc), some (.ref wl), some (.ref sp), o5, none, none, none, none, none, none] ∧ Same H H1 ∧ H1 wl = some (.lst (words.map V.str)) ∧
    H1 sp = some (.lst ((spanB i [3, 10, 5408]).map V.int))) ⟨sp0, none, rfl, s2, hw2, upd_same⟩ ?_ ?_
  · rintro i σ H1 hi ⟨sp, o5, rfl, s3, hw3, hsp⟩
    refine ⟨_, rfl, szk 3 rfl, fun q hq => ?_⟩
    have s4 : Same H1 (upd H1 q (.lst [.int 3, .int 10, .int 5408])) := Same.new1 hq
    refine ⟨sp, q, _, _, rfl, rfl, s4 _ _ hsp, upd_same, szL (by simp [spanB_len]; omega), fun q2 hq2 => ?_⟩
    refine ⟨q2, _, rfl, Same.new (s3.trans s4) hq2, (Same.new1 hq2 : Same _ _) _ _ (s4 _ _ hw3), ?_⟩
    rw [upd_same, spanB_succ, List.map_append]
    rfl
  rintro σ H1 ⟨sp, o5, rfl, s3, hw3, hsp⟩
  refine ⟨_, rfl, _, rfl, c, sp, _, rfl, hsp, by simp [spanB_len]; omega, fun s hs => ?_, hc, ?_⟩
  · have := spanB_mem hs
    simp only [List.mem_cons, List.not_mem_nil, or_false] at this
    rcases this with rfl | rfl | rfl <;> exact ⟨by decide, by decide⟩
  intro dr dp H2 hdp s4 hdr hdw
  have s5 := s3.trans s4
  refine ⟨Nat.zero_le _, fun me hme => ?_⟩
  have hme0 : H me = none := fresh_back s5 hme
  have s6 : Same H2 (upd H2 me (.lst [])) := Same.new1 hme
  refine ⟨_, rfl, _, rfl, by omega, by omega, ?_⟩
  rw [show ((n : Int)).toNat = n by omega]
  have hwn : wl ≠ me := by rintro rfl; rw [s4 _ _ hw3] at hme; cases hme
  have hdn : dp ≠ me := by rintro rfl; rw [hdr] at hme; cases hme
  refine for_range (Pv := fun i σ H3 => ∃ (o5 o8 o9 o10 o11 : Option V) (dvs : List V) (ds : List Deed), σ = [some (.int c), some (.int n), some (.str abc), some (.ref wl), some (.ref sp), o5, some (.ref dp), some (.ref me), o8, o9, o10, o11] ∧ Same H H3 ∧
    H3 wl = some (.lst (words.map V.str)) ∧ H3 dp = some (.lst (dr.map V.int)) ∧ H3 me = some (.lst dvs) ∧ Paired (DeedAt H3) dvs ds ∧ ds.Nodup ∧ (∀ d ∈ ds, DeedOk d) ∧ ds.length ≤ i ∧ (ds.filter fun d => !hid d).length ≤ cnt i ∧ ∀ k, k < i → ∃ d ∈ ds, words[k % 6]? = some d.2.1)
    ⟨_, none, none, none, none, [], [], rfl, s5.trans s6, s6 _ _ (s4 _ _ hw3), s6 _ _ hdr, upd_same, .nil, List.nodup_nil, fun d h => absurd h (List.not_mem_nil), Nat.zero_le _, Nat.zero_le _, fun k h => absurd h (Nat.not_lt_zero _)⟩ ?_ ?_
  · rintro i σ H3 hi ⟨o5, o8, o9, o10, o11, dvs, ds, rfl, s7, hw7, hd7, hm7, hP, nd, dok, hlen, hfew, has⟩
    have hdw' : Drawn ([] ++ spanB n [3, 10, 5408]) dr := hdw
    obtain ⟨x0, hx0, b0⟩ := span_get (j := 0) hdw' hi rfl
    obtain ⟨x1, hx1, b1⟩ := span_get (j := 1) hdw' hi rfl
    obtain ⟨x2, hx2, b2⟩ := span_get (j := 2) hdw' hi rfl
    obtain ⟨W, hwd⟩ : ∃ W, words[i % 6]? = some W := ⟨_, List.getElem?_eq_getElem (show i % 6 < 6 from Nat.mod_lt _ (by decide))⟩
    have hWm : W = "call" ∨ W = "step" ∨ W = "return" := by
      have := List.mem_of_getElem? hwd
      simp only [words, List.mem_cons, List.not_mem_nil, or_false] at this
      rcases this with h | h | h | h | h | h <;> rw [h] <;> simp
    have hat : atI (words.map V.str) ((0 + (i : Int)) % 6) = some (.str W) := by
      have e : (0 + (i : Int)) % 6 = ((i % 6 : Nat) : Int) := by omega
      rw [e]
      refine atI_of (by omega) ?_
      rw [List.getElem?_map, show (((i % 6 : Nat) : Int)).toNat = i % 6 by omega, hwd]
      rfl
    -- the end of a turn
    have tail : ∀ (y : Key) (o9 o11 : Option V) (H4 : Hp), DeedOk (x0, W, y) → Same H3 H4 →
        tSeq (tAsg (tTup (tCons (tOp (rIxL K) (tVar 6) (tOp (rI CMul fun i j => .int (i * j)) (tC (.int 3)) (tVar 5))) (tCons (tOp (rIxL K) (tVar 3) (tOp (rI (fun _ j => 0 < j) fun i j => .int (i % j)) (tVar 5) (tC (.int 6)))) (tCons (tVar 8) tNil)))) (gName 10))
          (tIfS (tTest (tOp (rNotInD K) (tVar 10) (tVar 7))) (tDrop (tBM K "list" rAppend (tVar 7) (tCons (tVar 10) tNil))) tNext)
          { nx := fun σ H3 => ∃ (o5 o8 o9 o10 o11 : Option V) (dvs : List V) (ds : List Deed), σ = [some (.int c), some (.int n), some (.str abc), some (.ref wl), some (.ref sp), o5, some (.ref dp), some (.ref me), o8, o9, o10, o11] ∧ Same H H3 ∧
              H3 wl = some (.lst (words.map V.str)) ∧ H3 dp = some (.lst (dr.map V.int)) ∧ H3 me = some (.lst dvs) ∧ Paired (DeedAt H3) dvs ds ∧ ds.Nodup ∧ (∀ d ∈ ds, DeedOk d) ∧ ds.length ≤ i + 1 ∧ (ds.filter fun d => !hid d).length ≤ cnt (i + 1) ∧ ∀ k, k < i + 1 → ∃ d ∈ ds, words[k % 6]? = some d.2.1, rt := Q }
          [some (.int c), some (.int n), some (.str abc), some (.ref wl), some (.ref sp), some (.int (0 + (i : Int))), some (.ref dp), some (.ref me), some (kV y), o9, o10, o11] H4 := by
      intro y o9 o11 H4 yok s8
      refine ⟨_, rfl, _, rfl, _, _, rfl, rfl, .inl ⟨by decide, by decide⟩, dp, _, _, _, rfl, rfl, SqL.of (s8 _ _ hd7), ints_at hx0 (by simp), ?_⟩
      refine ⟨_, rfl, _, rfl, _, _, rfl, rfl, (by decide : (0:Int) < 6), wl, _, _, _, rfl, rfl, SqL.of (s8 _ _ hw7), hat, _, rfl, szk 3 rfl, fun p hp => ?_⟩
      have s9 : Same H4 (upd H4 p (.tup (deedV (x0, W, y)))) := Same.new1 hp
      have s89 := s8.trans s9
      have hda : DeedAt (upd H4 p (.tup (deedV (x0, W, y)))) (.ref p) (x0, W, y) := ⟨p, rfl, upd_same⟩
      have hP2 := deeds_all hP (Tups.same s89)
      have hL : Ly 2 (.list (ds.map deedD)) := ly_list fun d hd => by
        obtain ⟨e, he, rfl⟩ := List.mem_map.mp hd
        exact (dok e he).ly
      refine ⟨_, rfl, _, rfl, deedD (x0, W, y), ds.map deedD, hda.dp, .lst (SqL.of (s89 _ _ hm7)) (dpAll_map (fun _ _ h => h.dp) hP2), yok.shaped, hL.shaped (by decide), _, rfl, ite2 (fun hq => ?_) (fun hq => ?_)⟩
      · have hnin := (any_not eqv_deed' ds _).mp hq
        have hl := paired_len hP
        refine ⟨_, rfl, tyL (s89 _ _ hm7), _, rfl, me, _, _, rfl, rfl, s89 _ _ hm7, szLt (by omega), ?_⟩
        have hpm : ∀ xs, (upd H4 p (.tup (deedV (x0, W, y)))) me ≠ some (.tup xs) := not_tup (s89 _ _ hm7)
        refine ⟨_, _, _, _, _, dvs ++ [.ref p], ds ++ [(x0, W, y)], rfl, Same.mut (s7.trans s89) hme0, ?_, ?_, upd_same, ?_, ?_, ?_, ?_, ?_, ?_⟩
        · rw [upd_ne hwn]
          exact s89 _ _ hw7
        · rw [upd_ne hdn]
          exact s89 _ _ hd7
        · exact paired_snoc (deeds_all hP2 (Tups.upd hpm)) (hda.mono (Tups.upd hpm))
        · exact List.nodup_append.mpr ⟨nd, by simp, fun a ha b hb => by rw [List.mem_singleton] at hb; subst hb; exact fun e => hnin (e ▸ ha)⟩
        · intro d hd
          rw [List.mem_append, List.mem_singleton] at hd
          rcases hd with hd | rfl
          · exact dok d hd
          · exact yok
        · rw [List.length_append, List.length_singleton]
          omega
        · rw [List.filter_append, List.length_append]
          by_cases hW : W = "step"
          · have h1 := cnt_step i
            rw [List.filter_cons_of_neg (by simp [hid, hW])]
            simp only [List.filter_nil, List.length_nil]
            omega
          · rw [cnt_add hwd hW]
            have : ([(x0, W, y)].filter fun d => !hid d).length ≤ 1 := List.length_filter_le _ _
            omega
        · intro k' hk'
          by_cases e : k' = i
          · subst e
            exact ⟨_, List.mem_append_right _ (List.mem_singleton.mpr rfl), hwd⟩
          · obtain ⟨d, hd, hh⟩ := has k' (by omega)
            exact ⟨d, List.mem_append_left _ hd, hh⟩
      · have hin : (x0, W, y) ∈ ds := Classical.byContradiction fun h => hq ((any_not eqv_deed' ds _).mpr h)
        refine ⟨_, _, _, _, _, dvs, ds, rfl, s7.trans s89, s89 _ _ hw7, s89 _ _ hd7, s89 _ _ hm7, hP2, nd, dok, by omega, Nat.le_trans hfew (cnt_step i), fun k' hk' => ?_⟩
        by_cases e : k' = i
        · subst e
          exact ⟨_, hin, hwd⟩
        · exact has k' (by omega)
    refine ⟨_, rfl, _, rfl, _, _, rfl, rfl, .inl ⟨by decide, by decide⟩, _, _, rfl, rfl, dp, _, _, _, rfl, rfl, SqL.of hd7, ints_at hx1 (by simp), ?_⟩
    refine ⟨_, rfl, _, rfl, _, _, rfl, rfl, (by decide : (0:Int) < 6), wl, _, _, _, rfl, rfl, SqL.of hw7, hat, rfl, _, rfl, ?_⟩
    by_cases hcall : W = "call"
    · rw [decide_eq_true (by rw [hcall] : V.str W = V.str "call")]
      refine iteT ⟨_, rfl, _, rfl, _, _, rfl, rfl, .inl ⟨by decide, by decide⟩, _, _, rfl, rfl, dp, _, _, _, rfl, rfl, SqL.of hd7, ints_at hx2 (by simp), ?_⟩
      refine ⟨⟨_, rfl⟩, _, rfl, .inl ⟨_, rfl, _, _, rfl, rfl, (by decide : (0:Int) < 8), _, _, rfl, rfl, _, rfl, by omega, by omega, fun D hD => ?_⟩⟩
      have hcnt : ∃ m : Nat, (1 + x2 % 8).toNat = m ∧ 1 ≤ m ∧ m ≤ 8 := ⟨_, rfl, by omega, by omega⟩
      obtain ⟨m, hm, hm1, hm8⟩ := hcnt
      rw [hm]
      refine lc_range (Pv := fun j H4 => ∃ zs : List Str, Same H3 H4 ∧ H4 D = some (.lst (zs.map V.str)) ∧ zs.length = j ∧ ∀ z ∈ zs, ∃ c, c ∈ abc.cps.toList ∧ z = ⟨#[c]⟩) ⟨[], Same.new1 hD, upd_same, rfl, fun z h => absurd h (List.not_mem_nil)⟩ ?_ ?_
      · rintro j H4 hj ⟨zs, s8, h4, hz, hzs⟩
        refine ⟨rfl, _, rfl, _, rfl, _, _, rfl, rfl, ⟨by decide, by decide⟩, _, rfl, _, rfl, _, _, rfl, rfl, ⟨by decide, by decide⟩, _, _, rfl, rfl, .inl ⟨by omega, by omega⟩, _, _, rfl, rfl, .inl ⟨_, rfl, _, _, rfl, rfl, (by decide : (0:Int) < 26), ?_⟩⟩
        have hb1 := Int.emod_nonneg (x2 / 8 + (0 + (j : Int)) * (x2 / 208)) (b := 26) (by decide)
        have hb2 := Int.emod_lt_of_pos (x2 / 8 + (0 + (j : Int)) * (x2 / 208)) (b := 26) (by decide)
        have hcl : abc.cps.toList.length = 26 := by decide
        have hg : abc.cps.toList[((x2 / 8 + (0 + (j : Int)) * (x2 / 208)) % 26).toNat]? = some (abc.cps.toList[((x2 / 8 + (0 + (j : Int)) * (x2 / 208)) % 26).toNat]'(by omega)) := List.getElem?_eq_getElem _
        generalize (abc.cps.toList[((x2 / 8 + (0 + (j : Int)) * (x2 / 208)) % 26).toNat]'_) = ch at hg
        refine ⟨abc, _, ch, rfl, rfl, by decide, ?_, ?_⟩
        · unfold atI ixN
          rw [if_pos hb1, if_pos (by rw [hcl]; exact hb2)]
          exact hg
        · refine ⟨_, h4, szLt (by rw [List.length_map]; omega), zs ++ [⟨#[ch]⟩], Same.mut s8 hD, ?_, by rw [List.length_append, hz]; rfl, ?_⟩
          · rw [upd_same, List.map_append]
            rfl
          · intro z hz'
            rw [List.mem_append, List.mem_singleton] at hz'
            rcases hz' with hz' | rfl
            · exact hzs z hz'
            · exact ⟨ch, List.mem_of_getElem? hg, rfl⟩
      · rintro H4 ⟨zs, s8, h4, hz, hzs⟩
        refine ⟨"", D, zs, rfl, rfl, .inl (SqL.of h4), ?_, ?_⟩
        · have : ∀ {l : List Str}, (∀ z ∈ l, ∃ c, c ∈ abc.cps.toList ∧ z = ⟨#[c]⟩) → (l.map (·.length)).sum = l.length := by
            intro l
            induction l with
            | nil => intro _; rfl
            | cons a l ih =>
              intro h
              obtain ⟨c, _, rfl⟩ := h a (List.mem_cons_self ..)
              rw [List.map_cons, List.sum_cons, ih fun z hz => h z (List.mem_cons_of_mem _ hz), List.length_cons]
              show 1 + _ = _
              omega
          rw [this hzs, show (("" : Str)).length = 0 by decide]
          omega
        · refine tail (.inr _) _ _ H4 ⟨⟨b0.1, by omega⟩, .inl ⟨hcall, _, rfl, join_name hzs (by omega) (by omega)⟩⟩ s8
    · rw [decide_eq_false (fun e => hcall (V.str.inj e))]
      refine iteF (tail (.inl x1) _ _ H3 ⟨⟨b0.1, by omega⟩, .inr ⟨?_, x1, rfl, by omega, by omega⟩⟩ (Same.refl H3))
      rcases hWm with h | h | h
      · exact absurd h hcall
      · exact .inr h
      · exact .inl h
  · rintro σ H3 ⟨o5, o8, o9, o10, o11, dvs, ds, rfl, s7, hw7, hd7, hm7, hP, nd, dok, hlen, hfew, has⟩
    exact ⟨_, rfl, k me dvs ds H3 hme0 s7 hm7 hP ⟨nd, dok, by omega, fun k' hk' => has k' (by omega), Nat.le_trans hfew (cnt_le h8)⟩⟩
end
end Ct
/-! Free webs; options and picked. -/
namespace Ct
open PySem PySem.Spec PyProof.Rows L2 Nd
open CM (InR Wf Qt Rep row reps)
/-- good rows: deeds of ds, each once in a row, places below n -/
def Gd (ds : List Deed) (n : Nat) (R : Rows) : Prop := ∀ ms ∈ R, (ms.map Prod.fst).Nodup ∧ ∀ m ∈ ms, m.1 ∈ ds ∧ InR n m.2
structure Good (ds : List Deed) (R : Rows) : Prop where
  pos : 1 ≤ R.length
  gd : Gd ds R.length R
theorem Good.wf {ds : List Deed} {R : Rows} (g : Good ds R) : Wf R := ⟨g.pos, fun ms h => (g.gd ms h).1, fun ms h m hm => ((g.gd ms h).2 m hm).2⟩
theorem Good.ok {ds : List Deed} {R : Rows} (g : Good ds R) (m : MenuOk ds) : ∀ ms ∈ R, ∀ x ∈ ms, DeedOk x.1 := fun ms h x hx => m.ok _ ((g.gd ms h).2 x hx).1
/-- a menu at a list -/
def MenuAt (H : Hp) (v : V) (ds : List Deed) : Prop := ∃ a dvs, v = .ref a ∧ H a = some (.lst dvs) ∧ Paired (DeedAt H) dvs ds
theorem MenuAt.mono {H H' : Hp} {v : V} {ds : List Deed} (h : MenuAt H v ds) (s : Same H H') : MenuAt H' v ds := let ⟨a, dvs, e, q, p⟩ := h; ⟨a, dvs, e, s _ _ q, Paired.mapP p fun _ _ x => x.mono (Tups.same s)⟩
theorem moves_all {H H' : Hp} {vs : List V} {M : List Move} (h : Paired (MoveAt H) vs M) (t : Tups H H') : Paired (MoveAt H') vs M := Paired.mapP h fun _ _ q => q.mono t
theorem shaped_deeds {ds : List Deed} (h : ∀ d ∈ ds, DeedOk d) : SeqAt.shaped (.list (ds.map deedD)) = true := by
  refine Ly.shaped (n := 2) (ly_list fun d hd => ?_) (by decide)
  obtain ⟨e, he, rfl⟩ := List.mem_map.mp hd
  exact (h e he).ly
theorem nodup_snoc {α : Type} {l : List α} {x : α} (h : l.Nodup) (hx : x ∉ l) : (l ++ [x]).Nodup := List.nodup_append.mpr ⟨h, by simp, fun a ha b hb => by rw [List.mem_singleton] at hb; subst hb; exact fun e => hx (e ▸ ha)⟩
/-- [m[0] for m in moves] -/
theorem lc_keys {K : PySem.W.Frag} {σ : L2.St} {H : Hp} {D mo : Addr} {mvs : List V} {M : List Move} {b : Nat} {Qd : Hp → Prop} (hmo : H mo = some (.lst mvs)) (hP : Paired (MoveAt H) mvs M) (hl : M.length ≤ 1000) (hD : H D = none)
    (k : ∀ H' ks, Same H H' → H' D = some (.lst ks) → Paired (DeedAt H') ks (M.map Prod.fst) → Qd H')
    (w1 : ∀ x, wipe ((wipe σ [b]).set b (some x)) [b] = wipe σ [b] := by intro _; rfl) (w2 : ∀ x, ((wipe σ [b]).set b (some x))[b]? = some (some x) := by intro _; rfl) :
    ∃ W : Nat → Nat → Hp → Prop, (∃ m, W 0 m (upd H D (.lst []))) ∧ ∀ i m H, W i m H → ((Itl K mo).stop i H ∧ Qd H) ∨ ((Itl K mo).go i H ∧ ∃ Nx : Hp → Prop, (∀ H', Nx H' → ∃ m', m' < m ∧ W (i + 1) m' H') ∧
      ∀ x H', (Itl K mo).yld i H x H' → gName b x (wipe σ [b]) H' fun σ2 H2 => wipe σ2 [b] = wipe σ [b] ∧ tYes σ2 H2 fun c H3 =>
        if c = true then tOp (rIxT K) (tVar b) (tC (.int 0)) σ2 H3 fun y H4 => ∃ acc, H4 D = some (.lst acc) ∧ acc.length < sizeLine ∧ Nx (upd H4 D (.lst (acc ++ [y]))) else Nx H3) := by
  refine lc_list (xs := mvs) (Pv := fun i H1 => ∃ ks, Same H H1 ∧ H1 D = some (.lst ks) ∧ Paired (DeedAt H1) ks ((M.map Prod.fst).take i)) ⟨[], Same.new1 hD, upd_same, by rw [List.take_zero]; exact .nil⟩ ?_ ?_ ?_
  · rintro i H1 _ ⟨ks, s1, _⟩
    exact SqL.of (s1 _ _ hmo)
  · rintro i x H1 hx ⟨ks, s1, h1, hK⟩
    have hi := (List.getElem?_eq_some_iff.mp hx).1
    have hl2 := paired_len hP
    have hm : M[i]? = some (M[i]'(by omega)) := List.getElem?_eq_getElem _
    generalize (M[i]'_) = mv at hm
    obtain ⟨x', hx', hMv⟩ := paired_getR hP hm
    rw [hx] at hx'
    obtain rfl := Option.some.inj hx'
    obtain ⟨t, u, rfl, ht, hd⟩ := hMv.mono (Tups.same s1)
    refine ⟨w1 _, ⟨_, w2 _, t, _, 0, _, rfl, rfl, SqT.of ht, rfl, ?_⟩⟩
    have hlen : ks.length ≤ i := by
      have := paired_len hK
      rw [List.length_take] at this
      omega
    refine ⟨ks, h1, szLt (by omega), ks ++ [u], Same.mut s1 hD, upd_same, ?_⟩
    rw [List.take_add_one, List.getElem?_map, hm]
    have tt : Tups H1 (upd H1 D (.lst (ks ++ [u]))) := Tups.upd (not_tup h1)
    exact paired_snoc (deeds_all hK tt) (hd.mono tt)
  · rintro H1 ⟨ks, s1, h1, hK⟩
    rw [paired_len hP, ← List.length_map (as := M) Prod.fst, List.take_length] at hK
    exact k H1 ks s1 h1 hK
section
variable {P : Program} {w : World} {K : PySem.W.Frag} {mg : Str → Option Value} {base : Heap}
/-- how a def hands on new rows -/
def RowsTo (H : Hp) (Q : VK) (p : Rows → Prop) : Prop := ∀ q ms R H', H q = none → Same H H' → H' q = some (.lst ms) → Paired (MovesAt H') ms R → p R → Q (.ref q) H'
theorem RowsTo.at {H : Hp} {q : Addr} {ms : List V} {R : Rows} (h : H q = some (.lst ms)) (p : Paired (MovesAt H) ms R) : RowsAt H (.ref q) R := ⟨q, ms, rfl, h, p⟩
def spFree : Sp := fun vs H Q _ => ∃ (c : Int) (mv : V) (ds : List Deed), vs = [.int c, mv, .int 6] ∧ 0 ≤ c ∧ MenuAt H mv ds ∧ MenuOk ds ∧ RowsTo H Q fun R => Good ds R ∧ R.length ≤ 6 ∧ ∀ ms ∈ R, ms.length ≤ 3
theorem sc__law_free : FnScope (["_law_cell_here", "_law_menu_here", "_law_most", "_law_size", "_law_spans", "_law_k", "_law_draws_here", "_law_rows", "_law_moves", "_law_j", "_law_deed", "_law_move"] : List Str) ["_law_cell_here", "_law_menu_here", "_law_most"] (defScope s_free_L) := ⟨rfl, rfl, rfl, by decide +kernel, rfl, by decide +kernel, by decide +kernel⟩
def nums6 : List Int := [2, 1, 3, 2, 3, 0]
theorem nums_at {i : Int} (h : 0 ≤ i ∧ i < 6) : ∃ n : Nat, n ≤ 3 ∧ atI (nums6.map V.int) i = some (.int (n : Nat)) := by
  have : i = 0 ∨ i = 1 ∨ i = 2 ∨ i = 3 ∨ i = 4 ∨ i = 5 := by omega
  rcases this with rfl | rfl | rfl | rfl | rfl | rfl
  · exact ⟨2, by decide, rfl⟩
  · exact ⟨1, by decide, rfl⟩
  · exact ⟨3, by decide, rfl⟩
  · exact ⟨2, by decide, rfl⟩
  · exact ⟨3, by decide, rfl⟩
  · exact ⟨0, by decide, rfl⟩
theorem ok_free (F : TF K "_law_free" s_free_L) (T : Tx K mg) (D__law_draws : DOk P w K mg base 1 "_law_draws" ["_law_cell_here", "_law_spans"] spDraws) :
    DOk P w K mg base 2 "_law_free" ["_law_cell_here", "_law_menu_here", "_law_most"] spFree := by
  refine dok F T.g__law_free sc__law_free (fun vs H Q E h => ?_) (fun _ _ _ _ _ _ us hl => match us, hl with | [_, _, _], _ => rfl) (fun cdv A outer s H vs Q E hr h => ?_)
  · obtain ⟨c, mv, ds, rfl, _⟩ := h
    rfl
  obtain ⟨c, mv, ds, rfl, hc, ⟨me, dvs, rfl, hme, hdP⟩, mok', k⟩ := h
  have hu65 := hu65_of hr
  have hdl := paired_len hdP
  have hd1 : 1 ≤ ds.length := by
    obtain ⟨d, hd, _⟩ := mok'.has 0 (by decide)
    exact List.length_pos_of_mem hd
  have hd8 := mok'.le
  refine ⟨_, (pss_cons (ps_set (i := 3) sc__law_free.nd rfl (Or.inl rfl) (pe_op op_add pe_int (pe_ix ix_list (pe_d D__law_draws (hr.mono (by decide)) (by rfl) (pa_cons (pv 0) (pa_cons (pe_lst (pa_cons (pv 2) pa_nil)) pa_nil))) pe_int (fun _ _ => rfl))))
    (pss_cons (ps_set (i := 4) sc__law_free.nd rfl (Or.inl rfl) (pe_lst (pa_cons (pv 2) pa_nil)))
    (pss_cons (ps_for PassesOwn.never rfl (pi_range1 rfl T.f_range (pa_cons (pv 3) pa_nil)) (pg_name (i := 5) sc__law_free.nd rfl (Or.inl rfl)) (pss_one (ps_set (i := 4) sc__law_free.nd rfl (Or.inl rfl) (pe_op op_cat (pv 4) (pe_lst (pa_cons pe_int (pa_cons (pe_callB call_len_seq (by rfl) T.f_len (by decide +kernel) (pa_cons (pv 1) pa_nil)) (pa_cons (pv 3) (pa_cons (pe_callB call_len_seq (by rfl) T.f_len (by decide +kernel) (pa_cons (pv 1) pa_nil)) (pa_cons (pv 3) (pa_cons (pe_callB call_len_seq (by rfl) T.f_len (by decide +kernel) (pa_cons (pv 1) pa_nil)) (pa_cons (pv 3) pa_nil))))))))))))
    (pss_cons (ps_set (i := 6) sc__law_free.nd rfl (Or.inl rfl) (pe_d D__law_draws (hr.mono (by decide)) (by rfl) (pa_cons (pv 0) (pa_cons (pv 4) pa_nil))))
    (pss_cons (ps_set (i := 7) sc__law_free.nd rfl (Or.inl rfl) (pe_lst pa_nil))
    (pss_cons (ps_for PassesOwn.never rfl (pi_range1 rfl T.f_range (pa_cons (pv 3) pa_nil)) (pg_name (i := 5) sc__law_free.nd rfl (Or.inl rfl)) (pss_cons (ps_set (i := 8) sc__law_free.nd rfl (Or.inl rfl) (pe_lst pa_nil))
    (pss_cons (ps_for PassesOwn.never rfl (pi_range1 rfl T.f_range (pa_cons (pe_ix ix_list (pe_lst (pa_cons pe_int (pa_cons pe_int (pa_cons pe_int (pa_cons pe_int (pa_cons pe_int (pa_cons pe_int pa_nil))))))) (pe_ix ix_list (pv 6) (pe_op op_add pe_int (pe_op op_mul pe_int (pv 5))) (fun _ _ => rfl)) (fun _ _ => rfl)) pa_nil)) (pg_name (i := 9) sc__law_free.nd rfl (Or.inl rfl)) (pss_cons (ps_set (i := 10) sc__law_free.nd rfl (Or.inl rfl) (pe_ix ix_list (pv 1) (pe_ix ix_list (pv 6) (pe_op op_add (pe_op op_add pe_int (pe_op op_mul pe_int (pv 5))) (pe_op op_mul pe_int (pv 9))) (fun _ _ => rfl)) (fun _ _ => rfl)))
    (pss_one (ps_if (pt_cmpR (op_notInD hu65) (pv 10) (pe_lc (own := [("_law_move", 11)]) rfl sc__law_free.nd (pi_list (pv 8)) (blkOk_by (N := (["_law_cell_here", "_law_menu_here", "_law_most", "_law_size", "_law_spans", "_law_k", "_law_draws_here", "_law_rows", "_law_moves", "_law_j", "_law_deed", "_law_move"] : List Str)) (sc := defScope s_free_L) (by decide +kernel)) (fun _ _ _ _ _ => (pg_name (i := 11) sc__law_free.nd rfl (Or.inl rfl))) (fun _ _ _ _ _ => pts_nil) (fun _ _ _ _ _ => (pe_ix (ix_tupK (K := K)) (pv 11) pe_int (fun _ _ => rfl)))) (by rfl)) (pss_one (ps_expr (pe_bm PySem.F.plainAttrs_list PySem.F.slot_list_append PySem.F.type_list_append mt_append (pv 8) (pa_cons (pe_tup (pa_cons (pv 10) (pa_cons (pe_ix ix_list (pv 6) (pe_op op_add (pe_op op_add pe_int (pe_op op_mul pe_int (pv 5))) (pe_op op_mul pe_int (pv 9))) (fun _ _ => rfl)) pa_nil))) pa_nil)))) pss_nil))))
    (pss_one (ps_expr (pe_bm PySem.F.plainAttrs_list PySem.F.slot_list_append PySem.F.type_list_append mt_append (pv 7) (pa_cons (pv 8) pa_nil)))))))
    (pss_one (ps_ret (pv 7))))))))), ?_⟩
  refine ⟨_, rfl, _, rfl, szk 1 rfl, fun p1 hp1 => ?_⟩
  have s1 : Same H (upd H p1 (.lst [.int 6])) := Same.new1 hp1
  refine ⟨c, p1, [6], rfl, upd_same, by decide, fun s hs => by rw [List.mem_singleton] at hs; subst hs; decide, hc, fun d0 p2 H2 hp2 s2 hd0 hdw0 => ?_⟩
  obtain ⟨z, hz, hz0, hz6⟩ := hdw0.get (i := 0) rfl
  refine ⟨p2, _, 0, _, rfl, rfl, SqL.of hd0, atI_ints (by decide) hz, _, _, rfl, rfl, ?_⟩
  obtain ⟨n, hn⟩ : ∃ n : Nat, 1 + z = (n : Nat) := ⟨(1 + z).toNat, by omega⟩
  have hn1 : 1 ≤ n := by omega
  have hn6 : n ≤ 6 := by omega
  have s12 := s1.trans s2
  show (fun _ _ => _) _ _
  refine ⟨_, rfl, szk 1 rfl, fun p3 hp3 => ?_⟩
  have s3 : Same H2 (upd H2 p3 (.lst [.int 6])) := Same.new1 hp3
  refine ⟨_, rfl, _, rfl, by show _ ≤ 1 + z; omega, by show 1 + z < _; omega, ?_⟩
  rw [show ((fun i j => V.int (i + j)) 1 z) = .int (n : Nat) from congrArg V.int hn, show (1 + z).toNat = n by omega]
  let B : List Int := [6, (ds.length : Nat), (n : Nat), (ds.length : Nat), (n : Nat), (ds.length : Nat), (n : Nat)]
  refine for_range (Pv := fun i σ H3 => ∃ (sp : Addr) (o5 : Option V), σ = [some (.int c), some (.ref me), some (.int 6), some (.int (n : Nat)), some (.ref sp), o5, none, none, none, none, none, none] ∧ Same H H3 ∧
    H3 sp = some (.lst (([6] ++ spanB i B).map V.int))) ⟨p3, none, rfl, s12.trans s3, upd_same⟩ ?_ ?_
  · rintro i σ H3 hi ⟨sp, o5, rfl, s4, hsp⟩
    refine ⟨_, rfl, ⟨_, rfl, me, _, rfl, .inl (SqL.of (s4 _ _ hme)), _, rfl, _, rfl, me, _, rfl, .inl (SqL.of (s4 _ _ hme)), _, rfl, _, rfl, me, _, rfl, .inl (SqL.of (s4 _ _ hme)), _, rfl, szk 7 rfl, fun q hq => ?_⟩⟩
    have s5 : Same H3 (upd H3 q (.lst (B.map V.int))) := Same.new1 hq
    rw [hdl]
    refine ⟨sp, q, _, _, rfl, rfl, s5 _ _ hsp, upd_same, szL (by simp [spanB_len, B]; omega), fun q2 hq2 => ?_⟩
    refine ⟨q2, _, rfl, Same.new (s4.trans s5) hq2, ?_⟩
    rw [upd_same, spanB_succ, ← List.append_assoc, List.map_append (l₂ := B)]
    rfl
  rintro σ H3 ⟨sp, o5, rfl, s4, hsp⟩
  refine ⟨_, rfl, _, rfl, c, sp, _, rfl, hsp, by simp [spanB_len, B]; omega, fun s hs => ?_, hc, ?_⟩
  · rw [List.mem_append, List.mem_singleton] at hs
    rcases hs with rfl | hs
    · exact ⟨by decide, by decide⟩
    have := spanB_mem hs
    simp only [B, List.mem_cons, List.not_mem_nil, or_false] at this
    rcases this with rfl | rfl | rfl | rfl | rfl | rfl | rfl <;> constructor <;> omega
  intro dr dp H4 hdp s5 hdr hdw
  have s6 := s4.trans s5
  refine ⟨Nat.zero_le _, fun ro hro => ?_⟩
  have hro0 : H ro = none := fresh_back s6 hro
  have s7 : Same H4 (upd H4 ro (.lst [])) := Same.new1 hro
  have hrd : dp ≠ ro := by rintro rfl; rw [hdr] at hro; cases hro
  refine ⟨_, rfl, _, rfl, by omega, by omega, ?_⟩
  rw [show ((n : Int)).toNat = n by omega]
  refine for_range (Pv := fun i σ H5 => ∃ (o5 o8 o9 o10 o11 : Option V) (rv : List V) (R : Rows), σ = [some (.int c), some (.ref me), some (.int 6), some (.int (n : Nat)), some (.ref sp), o5, some (.ref dp), some (.ref ro), o8, o9, o10, o11] ∧ Same H H5 ∧
    H5 dp = some (.lst (dr.map V.int)) ∧ H5 ro = some (.lst rv) ∧ RowsIn H5 ro rv R ∧ Gd ds n R ∧ R.length = i ∧ ∀ ms ∈ R, ms.length ≤ 3) ⟨_, _, _, _, _, [], [], rfl, s6.trans s7, s7 _ _ hdr, upd_same, .nil, fun ms h => absurd h List.not_mem_nil, rfl, fun ms h => absurd h List.not_mem_nil⟩ ?_ ?_
  · rintro i σ H5 hi ⟨o5, o8, o9, o10, o11, rv, R, rfl, s8, hd8', hr8, hRI, hG, hRl, hR3⟩
    refine ⟨Nat.zero_le _, fun mo hmo => ?_⟩
    have hmr : mo ≠ ro := by rintro rfl; rw [hr8] at hmo; cases hmo
    have hmd : dp ≠ mo := by rintro rfl; rw [hd8'] at hmo; cases hmo
    have s9 : Same H5 (upd H5 mo (.lst [])) := Same.new1 hmo
    have hmo0 : H mo = none := fresh_back s8 hmo
    obtain ⟨x0, hx0, b0⟩ := span_get (j := 0) hdw hi rfl
    refine ⟨szk 6 rfl, fun nu hnu => ?_⟩
    have s10 : Same (upd H5 mo (.lst [])) (upd (upd H5 mo (.lst [])) nu (.lst (nums6.map V.int))) := Same.new1 hnu
    have s89 := s8.trans (s9.trans s10)
    obtain ⟨m, hm3, hat⟩ := nums_at b0
    refine ⟨_, rfl, _, rfl, _, _, rfl, rfl, .inl ⟨by decide, by decide⟩, _, _, rfl, rfl, dp, _, _, _, rfl, rfl, SqL.of (s10 _ _ (s9 _ _ hd8')), ints_at hx0 (by simp [B]), nu, _, _, _, rfl, rfl, SqL.of upd_same, hat, _, rfl, by omega, by omega, ?_⟩
    rw [show ((m : Int)).toNat = m by omega]
    have hrn : nu ≠ ro := by rintro rfl; rw [s9 _ _ hr8] at hnu; cases hnu
    refine for_range (Pv := fun j σ H6 => ∃ (o9 o10 o11 : Option V) (mvs : List V) (M : List Move), σ = [some (.int c), some (.ref me), some (.int 6), some (.int (n : Nat)), some (.ref sp), some (.int (0 + (i : Int))), some (.ref dp), some (.ref ro), some (.ref mo), o9, o10, o11] ∧ Same H H6 ∧
      H6 dp = some (.lst (dr.map V.int)) ∧ H6 ro = some (.lst rv) ∧ RowsIn H6 ro rv R ∧ H6 mo = some (.lst mvs) ∧ Paired (MoveAt H6) mvs M ∧ (M.map Prod.fst).Nodup ∧ (∀ x ∈ M, x.1 ∈ ds ∧ InR n x.2) ∧ M.length ≤ j ∧ (∀ v ∈ rv, v ≠ .ref mo))
      ⟨_, _, _, [], [], rfl, s89, s10 _ _ (s9 _ _ hd8'), s10 _ _ (s9 _ _ hr8), (hRI.grow s9).grow s10, s10 _ _ upd_same, .nil, List.nodup_nil, fun x h => absurd h List.not_mem_nil, Nat.zero_le _, ?_⟩ ?_ ?_
    · rintro v hv rfl
      obtain ⟨l, q1, ⟨b, vs, e1, e2, _⟩, _⟩ : ∃ l ∈ R, MovesAt H5 (.ref mo) l ∧ _ := by
        obtain ⟨i', hi'⟩ := List.getElem?_of_mem hv
        have hlt := (List.getElem?_eq_some_iff.mp hi').1
        rw [paired_len hRI] at hlt
        obtain ⟨v', hv', q⟩ := paired_getR hRI (List.getElem?_eq_getElem hlt)
        rw [hi'] at hv'
        obtain rfl := Option.some.inj hv'
        exact ⟨_, List.getElem_mem hlt, q⟩
      injection e1 with e1
      subst e1
      rw [hmo] at e2
      cases e2
    · rintro j σ H6 hj ⟨o9, o10, o11, mvs, M, rfl, s11, hd9, hr9, hRI9, hm9, hMP, hnd, hM, hMl, hrv⟩
      obtain ⟨x1, hx1, b1⟩ : ∃ x, dr[([6] : List Int).length + B.length * i + (1 + 2 * j)]? = some x ∧ 0 ≤ x ∧ x < (ds.length : Int) := by
        have : j = 0 ∨ j = 1 ∨ j = 2 := by omega
        rcases this with rfl | rfl | rfl <;> exact span_get hdw hi rfl
      obtain ⟨x2, hx2, b2⟩ : ∃ x, dr[([6] : List Int).length + B.length * i + (2 + 2 * j)]? = some x ∧ 0 ≤ x ∧ x < (n : Int) := by
        have : j = 0 ∨ j = 1 ∨ j = 2 := by omega
        rcases this with rfl | rfl | rfl <;> exact span_get hdw hi rfl
      have hd : ds[x1.toNat]? = some (ds[x1.toNat]'(by omega)) := List.getElem?_eq_getElem _
      generalize (ds[x1.toNat]'_) = d at hd
      obtain ⟨dv, hdv, hda⟩ := paired_getR hdP hd
      have hda6 := hda.mono (Tups.same s11)
      have hdm : d ∈ ds := List.mem_of_getElem? hd
      refine ⟨_, rfl, _, rfl, _, rfl, _, _, rfl, rfl, .inl ⟨by decide, by decide⟩, _, _, rfl, rfl, _, rfl, _, _, rfl, rfl, .inl ⟨by decide, by decide⟩, _, _, rfl, rfl, dp, _, _, _, rfl, rfl, SqL.of hd9, ints_at hx1 (by simp [B]; omega), me, _, _, _, rfl, rfl, SqL.of (s11 _ _ hme), atI_of b1.1 hdv, ?_⟩
      refine ⟨_, rfl, _, rfl, mo, rfl, ⟨_, SqL.of hm9⟩, fun D hD => lc_keys (b := 11) hm9 hMP (by omega) hD fun H7 ks s12 hk hkP => ?_⟩
      have s13 := s11.trans s12
      refine ⟨deedD d, (M.map Prod.fst).map deedD, (hda6.mono (Tups.same s12)).dp, .lst (SqL.of hk) (dpAll_map (fun _ _ h => h.dp) hkP), (mok'.ok d hdm).shaped, shaped_deeds (fun e he => ?_), _, rfl, ite2 (fun hq => ?_) (fun hq => ?_)⟩
      · obtain ⟨x, hx, rfl⟩ := List.mem_map.mp he
        exact mok'.ok _ (hM x hx).1
      · have hnin := (any_not eqv_deed' _ _).mp hq
        refine ⟨_, rfl, tyL (s12 _ _ hm9), _, rfl, _, rfl, _, rfl, _, _, rfl, rfl, .inl ⟨by decide, by decide⟩, _, _, rfl, rfl, _, rfl, _, _, rfl, rfl, .inl ⟨by decide, by decide⟩, _, _, rfl, rfl, dp, _, _, _, rfl, rfl, SqL.of (s12 _ _ hd9), ints_at hx2 (by simp [B]; omega), szk 2 rfl, fun t ht => ?_⟩
        have s14 : Same H7 (upd H7 t (.tup [dv, .int x2])) := Same.new1 ht
        have s124 := s12.trans s14
        have hm14 := s124 _ _ hm9
        refine ⟨mo, _, _, rfl, rfl, hm14, szLt (by rw [paired_len hMP]; omega), ?_⟩
        have tt : Tups (upd H7 t (.tup [dv, .int x2])) (upd (upd H7 t (.tup [dv, .int x2])) mo (.lst (mvs ++ [.ref t]))) := Tups.upd (not_tup hm14)
        refine ⟨_, _, _, mvs ++ [.ref t], M ++ [(d, x2)], rfl, Same.mut (s11.trans s124) hmo0, ?_, ?_, ?_, upd_same, ?_, ?_, ?_, ?_, hrv⟩
        · rw [upd_ne hmd]
          exact s124 _ _ hd9
        · rw [upd_ne (Ne.symm hmr)]
          exact s124 _ _ hr9
        · have := hRI9.grow s124
          unfold RowsIn at this ⊢
          refine paired_of_mem this fun v l hv q => ⟨q.1.upd (hrv v hv) (not_tup hm14), q.2⟩
        · exact paired_snoc (moves_all (moves_all hMP (Tups.same s124)) tt) (MoveAt.mono ⟨t, dv, rfl, upd_same, hda6.mono (Tups.same s124)⟩ tt)
        · rw [List.map_append]
          exact nodup_snoc hnd hnin
        · intro x hx
          rw [List.mem_append, List.mem_singleton] at hx
          rcases hx with hx | rfl
          · exact hM x hx
          · exact ⟨hdm, b2⟩
        · rw [List.length_append, List.length_singleton]
          omega
      · exact ⟨_, _, _, mvs, M, rfl, s13, s12 _ _ hd9, s12 _ _ hr9, hRI9.grow s12, s12 _ _ hm9, moves_all hMP (Tups.same s12), hnd, hM, by omega, hrv⟩
    · rintro σ H6 ⟨o9, o10, o11, mvs, M, rfl, s11, hd9, hr9, hRI9, hm9, hMP, hnd, hM, hMl, hrv⟩
      refine ⟨_, rfl, tyL hr9, _, rfl, ro, _, _, rfl, rfl, hr9, szLt (by rw [paired_len hRI]; omega), ?_⟩
      refine ⟨_, _, _, _, _, rv ++ [.ref mo], R ++ [M], rfl, Same.mut s11 hro0, ?_, upd_same, hRI9.put (not_tup hr9) ⟨mo, mvs, rfl, hm9, hMP⟩ (fun e => hmr (V.ref.inj e)), ?_, by rw [List.length_append, hRl]; rfl, ?_⟩
      · rw [upd_ne hrd]
        exact hd9
      · intro ms hms
        rw [List.mem_append, List.mem_singleton] at hms
        rcases hms with hms | rfl
        · exact hG ms hms
        · exact ⟨hnd, hM⟩
      · intro ms hms
        rw [List.mem_append, List.mem_singleton] at hms
        rcases hms with hms | rfl
        · exact hR3 ms hms
        · omega
  · rintro σ H5 ⟨o5, o8, o9, o10, o11, rv, R, rfl, s8, hd8', hr8, hRI, hG, hRl, hR3⟩
    exact ⟨_, rfl, k ro rv R H5 hro0 s8 hr8 hRI.fin ⟨⟨by omega, by rw [hRl]; exact hG⟩, by omega, hR3⟩⟩
end
end Ct
/-! Covers: options, picked, cover. -/
namespace Ct
open PySem PySem.Spec PyProof.Rows L2 Nd
open CM (InR Wf Qt Rep row reps)
section
variable {P : Program} {w : World} {K : PySem.W.Frag} {mg : Str → Option Value} {base : Heap}
def spOptions : Sp := fun vs H Q _ => ∃ (r mv bv : V) (i : Int) (R : Rows) (ds : List Deed) (bs : List Int), vs = [r, mv, bv, .int i] ∧ RowsAt H r R ∧ Good ds R ∧ R.length ≤ 4000 ∧ MenuAt H mv ds ∧ MenuOk ds ∧ IntsAt H bv bs ∧ (∀ b ∈ bs, InR R.length b) ∧ bs.length ≤ 6 ∧
  InR bs.length i ∧ ∀ q a b ma mb M1 M2 H', H q = none → Same H H' → H' q = some (.lst [.ref a, .ref b]) → H' a = some (.lst ma) → H' b = some (.lst mb) → Paired (MoveAt H') ma M1 → Paired (MoveAt H') mb M2 →
    (∀ m ∈ M1, m.1 ∈ ds ∧ InR bs.length m.2) → (∀ m ∈ M2, m.1 ∈ ds ∧ InR bs.length m.2) → M1.length ≤ 100 → M2.length ≤ 100 → Q (.ref q) H'
theorem sc__law_options : FnScope (["_law_high", "_law_menu_here", "_law_base", "_law_k", "_law_seen", "_law_hidden", "_law_deed", "_law_row", "_law_j"] : List Str) ["_law_high", "_law_menu_here", "_law_base", "_law_k"] (defScope s_options_L) := ⟨rfl, rfl, rfl, by decide +kernel, rfl, by decide +kernel, by decide +kernel⟩
theorem ok_options (F : TF K "_law_options" s_options_L) (T : Tx K mg) (D__law_quiet : DOk P w K mg base 1 "_law_quiet" ["_law_rows", "_law_at"] spQuietL) (D__law_replies : DOk P w K mg base 2 "_law_replies" ["_law_rows", "_law_at", "_law_deed"] spRepliesL) :
    DOk P w K mg base 3 "_law_options" ["_law_high", "_law_menu_here", "_law_base", "_law_k"] spOptions := by
  refine dok F T.g__law_options sc__law_options (fun vs H Q E h => ?_) (fun _ _ _ _ _ _ us hl => match us, hl with | [_, _, _, _], _ => rfl) (fun cdv A outer s H vs Q E hr h => ?_)
  · obtain ⟨r, mv, bv, i, R, ds, bs, rfl, _⟩ := h
    rfl
  obtain ⟨r, mv, bv, i, R, ds, bs, rfl, hR, g, h4, ⟨me, dvs, rfl, hme, hdP⟩, mk, ⟨ba, rfl, hba⟩, hbs, hb6, hi, k⟩ := h
  have hdl := paired_len hdP
  have hbi : bs[i.toNat]? = some (bs[i.toNat]'(by have := hi.1; have := hi.2; omega)) := List.getElem?_eq_getElem _
  generalize (bs[i.toNat]'_) = x at hbi
  have hxr := hbs x (List.mem_of_getElem? hbi)
  refine ⟨_, (pss_cons (ps_set (i := 4) sc__law_options.nd rfl (Or.inl rfl) (pe_lst pa_nil))
    (pss_cons (ps_set (i := 5) sc__law_options.nd rfl (Or.inl rfl) (pe_lst pa_nil))
    (pss_cons (ps_for PassesOwn.never rfl (pi_list (pv 1)) (pg_name (i := 6) sc__law_options.nd rfl (Or.inl rfl)) (pss_cons (ps_set (i := 7) sc__law_options.nd rfl (Or.inl rfl) (pe_d D__law_quiet (hr.mono (by decide)) (by rfl) (pa_cons (pv 0) (pa_cons (pe_ix ix_list (pv 2) (pv 3) (fun _ _ => rfl)) pa_nil))))
    (pss_cons (ps_if (pt_cmpR op_ne (pe_ix ix_tup (pv 6) pe_int (fun _ _ => rfl)) pe_str (nomark _)) (pss_one (ps_set (i := 7) sc__law_options.nd rfl (Or.inl rfl) (pe_d D__law_replies (hr.mono (by decide)) (by rfl) (pa_cons (pv 0) (pa_cons (pe_ix ix_list (pv 2) (pv 3) (fun _ _ => rfl)) (pa_cons (pv 6) pa_nil)))))) pss_nil)
    (pss_one (ps_for PassesOwn.never rfl (pi_range1 rfl T.f_range (pa_cons (pe_callB call_len_seq (by rfl) T.f_len (by decide +kernel) (pa_cons (pv 2) pa_nil)) pa_nil)) (pg_name (i := 8) sc__law_options.nd rfl (Or.inl rfl)) (pss_one (ps_if (PW.pt (pw_and (pt_cmpR op_in_seq (pe_ix ix_list (pv 2) (pv 8) (fun _ _ => rfl)) (pv 7) (by rfl)) (pw_and1 (pt_cmpR op_eq (pe_ix ix_tup (pv 6) pe_int (fun _ _ => rfl)) pe_str (nomark _))))) (pss_one (ps_expr (pe_bm PySem.F.plainAttrs_list PySem.F.slot_list_append PySem.F.type_list_append mt_append (pv 5) (pa_cons (pe_tup (pa_cons (pv 6) (pa_cons (pv 8) pa_nil))) pa_nil)))) (pss_one (ps_if (pt_cmpR op_in_seq (pe_ix ix_list (pv 2) (pv 8) (fun _ _ => rfl)) (pv 7) (by rfl)) (pss_one (ps_expr (pe_bm PySem.F.plainAttrs_list PySem.F.slot_list_append PySem.F.type_list_append mt_append (pv 4) (pa_cons (pe_tup (pa_cons (pv 6) (pa_cons (pv 8) pa_nil))) pa_nil)))) pss_nil)))))))))
    (pss_one (ps_ret (pe_lst (pa_cons (pv 4) (pa_cons (pv 5) pa_nil)))))))), ?_⟩
  refine ⟨Nat.zero_le _, fun a ha => ⟨Nat.zero_le _, fun b hb => ?_⟩⟩
  have s1 : Same H (upd H a (.lst [])) := Same.new1 ha
  have s2 : Same (upd H a (.lst [])) (upd (upd H a (.lst [])) b (.lst [])) := Same.new1 hb
  have hab : b ≠ a := by rintro rfl; rw [upd_same] at hb; cases hb
  have hb0 : H b = none := upd_nil hb
  let Inv := fun (n : Nat) (H1 : Hp) => Same H H1 ∧ ∃ (ma mb : List V) (M1 M2 : List Move), H1 a = some (.lst ma) ∧ H1 b = some (.lst mb) ∧ Paired (MoveAt H1) ma M1 ∧ Paired (MoveAt H1) mb M2 ∧
    (∀ m ∈ M1, m.1 ∈ ds ∧ InR bs.length m.2) ∧ (∀ m ∈ M2, m.1 ∈ ds ∧ InR bs.length m.2) ∧ M1.length ≤ n ∧ M2.length ≤ n
  refine ⟨_, rfl, me, rfl, ⟨_, SqL.of ((s1.trans s2) _ _ hme)⟩, ?_⟩
  refine for_list (xs := dvs) (Pv := fun j σ H1 => ∃ (o6 o7 o8 : Option V), σ = [some r, some (.ref me), some (.ref ba), some (.int i), some (.ref a), some (.ref b), o6, o7, o8] ∧ Inv (j * 6) H1)
    ⟨_, _, _, rfl, s1.trans s2, [], [], [], [], by rw [upd_ne (Ne.symm hab), upd_same], upd_same, .nil, .nil, fun m h => absurd h List.not_mem_nil, fun m h => absurd h List.not_mem_nil, Nat.zero_le _, Nat.zero_le _⟩ ?_ ?_ ?_
  · rintro j σ H1 _ ⟨o6, o7, o8, rfl, s3, _⟩
    exact SqL.of (s3 _ _ hme)
  · rintro j y σ H1 hy ⟨o6, o7, o8, rfl, s3, ma, mb, M1, M2, h1, h2, p1, p2, q1, q2, l1, l2⟩
    have hj := (List.getElem?_eq_some_iff.mp hy).1
    have hd : ds[j]? = some (ds[j]'(by omega)) := List.getElem?_eq_getElem _
    generalize (ds[j]'_) = d at hd
    obtain ⟨y', hy', hda⟩ := paired_getR hdP hd
    rw [hy] at hy'
    obtain rfl := Option.some.inj hy'
    obtain ⟨z, rfl, hz⟩ := id hda
    have hdm : d ∈ ds := List.mem_of_getElem? hd
    have hdok := mk.ok d hdm
    have hm8 := mk.le
    -- what is left of a turn: over the places of the base
    have rest : ∀ (rw_ : Addr) (rs : List Int) (o8 : Option V) (H2 : Hp) (D : Ends), Same H1 H2 → H2 rw_ = some (.lst (rs.map V.int)) → rw_ ≠ a → rw_ ≠ b →
        (∀ σ H1, (∃ (o6 o7 o8 : Option V), σ = [some r, some (.ref me), some (.ref ba), some (.int i), some (.ref a), some (.ref b), o6, o7, o8] ∧ Inv ((j + 1) * 6) H1) → D.nx σ H1) →
        tFor (iRng1 (tCons (tCB (fun xs H Q => ∃ p ys, xs = [.ref p] ∧ (SqL K H p ys ∨ SqT K H p ys) ∧ Q (.int (ys.length : Nat)) H) (tCons (tVar 2) tNil)) tNil)) (gName 8)
          (tIfS (tAnd (tTest (tOp (rIn K false) (tOp (rIxL K) (tVar 2) (tVar 8)) (tVar 7))) (tTest (tOp rEq (tOp (rIxT K) (tVar 6) (tC (.int 1))) (tC (.str "step")))))
            (tDrop (tBM K "list" rAppend (tVar 5) (tCons (tTup (tCons (tVar 6) (tCons (tVar 8) tNil))) tNil)))
            (tIfS (tTest (tOp (rIn K false) (tOp (rIxL K) (tVar 2) (tVar 8)) (tVar 7))) (tDrop (tBM K "list" rAppend (tVar 4) (tCons (tTup (tCons (tVar 6) (tCons (tVar 8) tNil))) tNil))) tNext))
          D [some r, some (.ref me), some (.ref ba), some (.int i), some (.ref a), some (.ref b), some (.ref z), some (.ref rw_), o8] H2 := by
      intro rw_ rs o8 H2 D s4 hrw ra rb hD
      have s34 := s3.trans s4
      refine ⟨_, rfl, ba, _, rfl, .inl (SqL.of (s34 _ _ hba)), _, rfl, by rw [List.length_map]; omega, by rw [List.length_map]; omega, ?_⟩
      rw [show (((bs.map V.int).length : Nat) : Int).toNat = bs.length by simp]
      refine for_range (Pv := fun n σ H3 => ∃ (o8 : Option V), σ = [some r, some (.ref me), some (.ref ba), some (.int i), some (.ref a), some (.ref b), some (.ref z), some (.ref rw_), o8] ∧ H3 rw_ = some (.lst (rs.map V.int)) ∧ Inv (j * 6 + n) H3)
        ⟨o8, rfl, hrw, s34, ma, mb, M1, M2, s4 _ _ h1, s4 _ _ h2, moves_all p1 (Tups.same s4), moves_all p2 (Tups.same s4), q1, q2, l1, l2⟩ ?_ ?_
      · rintro n σ H3 hn ⟨o8, rfl, hrw3, s5, ma, mb, M1, M2, h1, h2, p1, p2, q1, q2, l1, l2⟩
        have hbn : bs[n]? = some bs[n] := List.getElem?_eq_getElem hn
        generalize bs[n] = y at hbn
        have e0 : atI (bs.map V.int) (0 + (n : Int)) = some (.int y) := atI_ints (by omega) (by rw [show (0 + (n : Int)).toNat = n by omega]; exact hbn)
        have hin : InR bs.length (0 + (n : Int)) := ⟨by omega, by omega⟩
        refine ⟨_, rfl, _, rfl, ba, _, _, _, rfl, rfl, SqL.of (s5 _ _ hba), e0, _, rfl, rw_, _, rfl, .inl (SqL.of hrw3), rfl, flat_ints _, _, rfl, ?_⟩
        rw [if_neg (by decide), in_ints]
        have new1 : ∀ p, H3 p = none → Inv (j * 6 + (n + 1)) (upd (upd H3 p (.tup [.ref z, .int (0 + (n : Int))])) b (.lst (mb ++ [.ref p]))) ∧ (upd (upd H3 p (.tup [.ref z, .int (0 + (n : Int))])) b (.lst (mb ++ [.ref p]))) rw_ = some (.lst (rs.map V.int)) := fun p hp => by
          have s6 : Same H3 (upd H3 p (.tup [.ref z, .int (0 + (n : Int))])) := Same.new1 hp
          have tt : Tups (upd H3 p (.tup [.ref z, .int (0 + (n : Int))])) (upd (upd H3 p (.tup [.ref z, .int (0 + (n : Int))])) b (.lst (mb ++ [.ref p]))) := Tups.upd (not_tup (s6 _ _ h2))
          refine ⟨⟨Same.mut (s5.trans s6) hb0, ma, mb ++ [.ref p], M1, M2 ++ [(d, 0 + (n : Int))], ?_, upd_same, moves_all (moves_all p1 (Tups.same s6)) tt, ?_, q1, ?_, by omega, by rw [List.length_append, List.length_singleton]; omega⟩, ?_⟩
          · rw [upd_ne (Ne.symm hab)]
            exact s6 _ _ h1
          · exact paired_snoc (moves_all (moves_all p2 (Tups.same s6)) tt) (MoveAt.mono ⟨p, .ref z, rfl, upd_same, hda.mono (Tups.same (s5.trans s6))⟩ tt)
          · intro m hm
            rw [List.mem_append, List.mem_singleton] at hm
            rcases hm with hm | rfl
            · exact q2 m hm
            · exact ⟨hdm, hin⟩
          · rw [upd_ne rb]
            exact s6 _ _ hrw3
        have new2 : ∀ p, H3 p = none → Inv (j * 6 + (n + 1)) (upd (upd H3 p (.tup [.ref z, .int (0 + (n : Int))])) a (.lst (ma ++ [.ref p]))) ∧ (upd (upd H3 p (.tup [.ref z, .int (0 + (n : Int))])) a (.lst (ma ++ [.ref p]))) rw_ = some (.lst (rs.map V.int)) := fun p hp => by
          have s6 : Same H3 (upd H3 p (.tup [.ref z, .int (0 + (n : Int))])) := Same.new1 hp
          have tt : Tups (upd H3 p (.tup [.ref z, .int (0 + (n : Int))])) (upd (upd H3 p (.tup [.ref z, .int (0 + (n : Int))])) a (.lst (ma ++ [.ref p]))) := Tups.upd (not_tup (s6 _ _ h1))
          refine ⟨⟨Same.mut (s5.trans s6) ha, ma ++ [.ref p], mb, M1 ++ [(d, 0 + (n : Int))], M2, upd_same, ?_, ?_, moves_all (moves_all p2 (Tups.same s6)) tt, ?_, q2, by rw [List.length_append, List.length_singleton]; omega, by omega⟩, ?_⟩
          · rw [upd_ne hab]
            exact s6 _ _ h2
          · exact paired_snoc (moves_all (moves_all p1 (Tups.same s6)) tt) (MoveAt.mono ⟨p, .ref z, rfl, upd_same, hda.mono (Tups.same (s5.trans s6))⟩ tt)
          · intro m hm
            rw [List.mem_append, List.mem_singleton] at hm
            rcases hm with hm | rfl
            · exact q1 m hm
            · exact ⟨hdm, hin⟩
          · rw [upd_ne ra]
            exact s6 _ _ hrw3
        have same : Inv (j * 6 + (n + 1)) H3 := ⟨s5, ma, mb, M1, M2, h1, h2, p1, p2, q1, q2, by omega, by omega⟩
        have l1' := paired_len p1
        have l2' := paired_len p2
        -- the second test, where the first fails
        have els : ∀ D : Ends, (∀ σ H1, (∃ (o8 : Option V), σ = [some r, some (.ref me), some (.ref ba), some (.int i), some (.ref a), some (.ref b), some (.ref z), some (.ref rw_), o8] ∧ H1 rw_ = some (.lst (rs.map V.int)) ∧ Inv (j * 6 + (n + 1)) H1) → D.nx σ H1) →
            tIfS (tTest (tOp (rIn K false) (tOp (rIxL K) (tVar 2) (tVar 8)) (tVar 7))) (tDrop (tBM K "list" rAppend (tVar 4) (tCons (tTup (tCons (tVar 6) (tCons (tVar 8) tNil))) tNil))) tNext D
              [some r, some (.ref me), some (.ref ba), some (.int i), some (.ref a), some (.ref b), some (.ref z), some (.ref rw_), some (.int (0 + (n : Int)))] H3 := by
          intro D hD
          refine ⟨_, rfl, _, rfl, ba, _, _, _, rfl, rfl, SqL.of (s5 _ _ hba), e0, _, rfl, rw_, _, rfl, .inl (SqL.of hrw3), rfl, flat_ints _, _, rfl, ite2 (fun _ => ?_) (fun _ => ?_)⟩
          · refine ⟨_, rfl, tyL h1, _, rfl, _, rfl, szk 2 rfl, fun p hp => ⟨a, _, _, rfl, rfl, (Same.new1 hp : Same H3 _) _ _ h1, szLt (by omega), hD _ _ ⟨_, rfl, (new2 p hp).2, (new2 p hp).1⟩⟩⟩
          · exact hD _ _ ⟨_, rfl, hrw3, same⟩
        by_cases hy : y ∈ rs
        · rw [decide_eq_true hy]
          refine iteT ⟨_, rfl, z, _, 1, _, rfl, rfl, SqT.of (s5 _ _ hz), rfl, rfl, _, rfl, ite2 (fun _ => ?_) (fun _ => ?_)⟩
          · refine ⟨_, rfl, tyL h2, _, rfl, _, rfl, szk 2 rfl, fun p hp => ⟨b, _, _, rfl, rfl, (Same.new1 hp : Same H3 _) _ _ h2, szLt (by omega), _, rfl, (new1 p hp).2, (new1 p hp).1⟩⟩
          · exact els _ fun _ _ h => h
        · rw [decide_eq_false hy]
          exact iteF (els _ fun _ _ h => h)
      · rintro σ H3 ⟨o8, rfl, _, s5, ma, mb, M1, M2, h1, h2, p1, p2, q1, q2, l1, l2⟩
        exact hD _ _ ⟨_, _, _, rfl, s5, ma, mb, M1, M2, h1, h2, p1, p2, q1, q2, by omega, by omega⟩
    refine ⟨_, rfl, _, rfl, _, rfl, ba, _, _, _, rfl, rfl, SqL.of (s3 _ _ hba), atI_ints hi.1 hbi, r, R, x, rfl, hR.mono s3, g.wf, h4, hxr, fun qs q H2 hq s4 hq2 _ => ?_⟩
    have n1 : ∀ {q : Addr}, H1 q = none → q ≠ a := by rintro q hq rfl; rw [h1] at hq; cases hq
    have n2 : ∀ {q : Addr}, H1 q = none → q ≠ b := by rintro q hq rfl; rw [h2] at hq; cases hq
    have s34 := s3.trans s4
    refine ⟨_, rfl, z, _, 1, _, rfl, rfl, SqT.of (s34 _ _ hz), rfl, rfl, _, rfl, ite2 (fun _ => ?_) (fun _ => ?_)⟩
    · refine ⟨_, rfl, _, rfl, _, rfl, ba, _, _, _, rfl, rfl, SqL.of (s34 _ _ hba), atI_ints hi.1 hbi, _, rfl, r, R, x, .ref z, d, rfl, hR.mono s34, g.wf, h4, g.ok mk, hxr, hda.mono (Tups.same s34), hdok, fun q' H3 hq' s5 hq3 => ?_⟩
      have hq'1 : H1 q' = none := fresh_back s4 hq'
      exact rest q' _ _ H3 _ (s4.trans s5) hq3 (n1 hq'1) (n2 hq'1) fun _ _ h => h
    · exact rest q _ _ H2 _ s4 hq2 (n1 hq) (n2 hq) fun _ _ h => h
  · rintro σ H1 ⟨o6, o7, o8, rfl, s3, ma, mb, M1, M2, h1, h2, p1, p2, q1, q2, l1, l2⟩
    have hm8 := mk.le
    refine ⟨_, rfl, _, rfl, szk 2 rfl, fun q hq => ?_⟩
    have s4 : Same H1 (upd H1 q (.lst [.ref a, .ref b])) := Same.new1 hq
    exact k q a b ma mb M1 M2 _ (fresh_back s3 hq) (s3.trans s4) upd_same (s4 _ _ h1) (s4 _ _ h2) (moves_all p1 (Tups.same s4)) (moves_all p2 (Tups.same s4)) q1 q2 (by omega) (by omega)
def spPicked : Sp := fun vs H Q _ => ∃ (q a b dd : Addr) (ma mb : List V) (M1 M2 : List Move) (xs : List Int) (ds : List Deed) (n : Nat), vs = [.ref q, .ref dd] ∧ H q = some (.lst [.ref a, .ref b]) ∧ H a = some (.lst ma) ∧ H b = some (.lst mb) ∧ Paired (MoveAt H) ma M1 ∧ Paired (MoveAt H) mb M2 ∧
  (∀ m ∈ M1, m.1 ∈ ds ∧ InR n m.2) ∧ (∀ m ∈ M2, m.1 ∈ ds ∧ InR n m.2) ∧ M1.length ≤ 100 ∧ M2.length ≤ 100 ∧ (∀ d ∈ ds, DeedOk d) ∧ H dd = some (.lst (xs.map V.int)) ∧ xs.length = 4 ∧ (∀ x, xs[0]? = some x → 0 ≤ x ∧ x < 6) ∧ (∀ x ∈ xs, 0 ≤ x) ∧
  ∀ p mvs M H', H p = none → Same H H' → H' p = some (.lst mvs) → Paired (MoveAt H') mvs M → (M.map Prod.fst).Nodup → (∀ m ∈ M, m.1 ∈ ds ∧ InR n m.2) → Q (.ref p) H'
theorem sc__law_picked : FnScope (["_law_options_here", "_law_draws_here", "_law_moves", "_law_j", "_law_part", "_law_move", "_law_old"] : List Str) ["_law_options_here", "_law_draws_here"] (defScope s_picked_L) := ⟨rfl, rfl, rfl, by decide +kernel, rfl, by decide +kernel, by decide +kernel⟩
theorem ok_picked (F : TF K "_law_picked" s_picked_L) (T : Tx K mg) : DOk P w K mg base 1 "_law_picked" ["_law_options_here", "_law_draws_here"] spPicked := by
  refine dok F T.g__law_picked sc__law_picked (fun vs H Q E h => ?_) (fun _ _ _ _ _ _ us hl => match us, hl with | [_, _], _ => rfl) (fun cdv A outer s H vs Q E hr h => ?_)
  · obtain ⟨q, a, b, dd, ma, mb, M1, M2, xs, ds, n, rfl, _⟩ := h
    rfl
  obtain ⟨q, a, b, dd, ma, mb, M1, M2, xs, ds, n, rfl, hq, ha, hb, p1, p2, q1, q2, l1, l2, dok', hdd, hx4, hx0, hxn, k⟩ := h
  have hu65 := hu65_of hr
  have e1 := paired_len p1
  have e2 := paired_len p2
  refine ⟨_, (pss_cons (ps_set (i := 2) sc__law_picked.nd rfl (Or.inl rfl) (pe_lst pa_nil))
    (pss_cons (ps_for PassesOwn.never rfl (pi_range1 rfl T.f_range (pa_cons (pe_ix ix_list (pe_lst (pa_cons pe_int (pa_cons pe_int (pa_cons pe_int (pa_cons pe_int (pa_cons pe_int (pa_cons pe_int pa_nil))))))) (pe_ix ix_list (pv 1) pe_int (fun _ _ => rfl)) (fun _ _ => rfl)) pa_nil)) (pg_name (i := 3) sc__law_picked.nd rfl (Or.inl rfl)) (pss_cons (ps_set (i := 4) sc__law_picked.nd rfl (Or.inl rfl) (pe_ix ix_list (pv 0) pe_int (fun _ _ => rfl)))
    (pss_cons (ps_if (PW.pt (pw_and (pt_cmpR op_gt (pe_callB call_len_seq (by rfl) T.f_len (by decide +kernel) (pa_cons (pe_ix ix_list (pv 0) pe_int (fun _ _ => rfl)) pa_nil)) pe_int (nomark _)) (pw_and1 (pt_cmpR op_gt (pe_op op_mod (pe_callTy call_int1 (by rfl) T.f_int (by decide +kernel) (pa_cons (pe_ix ix_list (pv 1) (pe_op op_add pe_int (pv 3)) (fun _ _ => rfl)) pa_nil)) pe_int) pe_int (nomark _))))) (pss_one (ps_set (i := 4) sc__law_picked.nd rfl (Or.inl rfl) (pe_ix ix_list (pv 0) pe_int (fun _ _ => rfl)))) pss_nil)
    (pss_one (ps_if (pt_cmpR op_gt (pe_callB call_len_seq (by rfl) T.f_len (by decide +kernel) (pa_cons (pv 4) pa_nil)) pe_int (nomark _)) (pss_cons (ps_set (i := 5) sc__law_picked.nd rfl (Or.inl rfl) (pe_ix ix_list (pv 4) (pe_op op_mod (pe_op op_fdiv (pe_callTy call_int1 (by rfl) T.f_int (by decide +kernel) (pa_cons (pe_ix ix_list (pv 1) (pe_op op_add pe_int (pv 3)) (fun _ _ => rfl)) pa_nil)) pe_int) (pe_callB call_len_seq (by rfl) T.f_len (by decide +kernel) (pa_cons (pv 4) pa_nil))) (fun _ _ => rfl)))
    (pss_one (ps_if (pt_cmpR (op_notInD hu65) (pe_ix ix_tup (pv 5) pe_int (fun _ _ => rfl)) (pe_lc (own := [("_law_old", 6)]) rfl sc__law_picked.nd (pi_list (pv 2)) (blkOk_by (N := (["_law_options_here", "_law_draws_here", "_law_moves", "_law_j", "_law_part", "_law_move", "_law_old"] : List Str)) (sc := defScope s_picked_L) (by decide +kernel)) (fun _ _ _ _ _ => (pg_name (i := 6) sc__law_picked.nd rfl (Or.inl rfl))) (fun _ _ _ _ _ => pts_nil) (fun _ _ _ _ _ => (pe_ix (ix_tupK (K := K)) (pv 6) pe_int (fun _ _ => rfl)))) (by rfl)) (pss_one (ps_expr (pe_bm PySem.F.plainAttrs_list PySem.F.slot_list_append PySem.F.type_list_append mt_append (pv 2) (pa_cons (pv 5) pa_nil)))) pss_nil))) pss_nil)))))
    (pss_one (ps_ret (pv 2))))), ?_⟩
  refine ⟨Nat.zero_le _, fun mo hmo => ?_⟩
  have s1 : Same H (upd H mo (.lst [])) := Same.new1 hmo
  refine ⟨szk 6 rfl, fun nu hnu => ?_⟩
  have s2 : Same (upd H mo (.lst [])) (upd (upd H mo (.lst [])) nu (.lst (nums6.map V.int))) := Same.new1 hnu
  have x0 : xs[0]? = some (xs[0]'(by omega)) := List.getElem?_eq_getElem _
  generalize (xs[0]'_) = z at x0
  obtain ⟨m, hm3, hat⟩ := nums_at (hx0 z x0)
  refine ⟨_, rfl, dd, _, 0, _, rfl, rfl, SqL.of ((s1.trans s2) _ _ hdd), atI_ints (by decide) x0, nu, _, _, _, rfl, rfl, SqL.of upd_same, hat, _, rfl, by omega, by omega, ?_⟩
  rw [show ((m : Int)).toNat = m by omega]
  refine for_range (Pv := fun j σ H1 => ∃ (o3 o4 o5 o6 : Option V) (mvs : List V) (M : List Move), σ = [some (.ref q), some (.ref dd), some (.ref mo), o3, o4, o5, o6] ∧ Same H H1 ∧ H1 mo = some (.lst mvs) ∧ Paired (MoveAt H1) mvs M ∧ (M.map Prod.fst).Nodup ∧
    (∀ m ∈ M, m.1 ∈ ds ∧ InR n m.2) ∧ M.length ≤ j) ⟨_, _, _, _, [], [], rfl, s1.trans s2, s2 _ _ upd_same, .nil, List.nodup_nil, fun m h => absurd h List.not_mem_nil, Nat.zero_le _⟩ ?_ ?_
  · rintro j σ H1 hj ⟨o3, o4, o5, o6, mvs, M, rfl, s3, hmv, hMP, hnd, hM, hMl⟩
    obtain ⟨xv, hxv⟩ : ∃ x, xs[1 + j]? = some x := ⟨_, List.getElem?_eq_getElem (by omega)⟩
    have hxv0 := hxn xv (List.mem_of_getElem? hxv)
    have hax : atI (xs.map V.int) (1 + (0 + (j : Int))) = some (.int xv) := atI_ints (by omega) (by rw [show (1 + (0 + (j : Int))).toNat = 1 + j by omega]; exact hxv)
    -- from a part on
    have rest : ∀ (c : Addr) (mc : List V) (MC : List Move) (D : Ends), H1 c = some (.lst mc) → Paired (MoveAt H1) mc MC → (∀ m ∈ MC, m.1 ∈ ds ∧ InR n m.2) → mc.length ≤ 100 →
        (∀ σ H1, (∃ (o3 o4 o5 o6 : Option V) (mvs : List V) (M : List Move), σ = [some (.ref q), some (.ref dd), some (.ref mo), o3, o4, o5, o6] ∧ Same H H1 ∧ H1 mo = some (.lst mvs) ∧ Paired (MoveAt H1) mvs M ∧ (M.map Prod.fst).Nodup ∧
          (∀ m ∈ M, m.1 ∈ ds ∧ InR n m.2) ∧ M.length ≤ j + 1) → D.nx σ H1) →
        tIfS (tTest (tOp (rI0 fun i j => .bl (decide (j < i))) (tCB (fun xs H Q => ∃ p ys, xs = [.ref p] ∧ (SqL K H p ys ∨ SqT K H p ys) ∧ Q (.int (ys.length : Nat)) H) (tCons (tVar 4) tNil)) (tC (.int 0))))
          (tSeq (tAsg (tOp (rIxL K) (tVar 4) (tOp (rI (fun _ j => 0 < j) fun i j => .int (i % j)) (tOp (rI CDiv fun i j => .int (i / j)) (tCB (fun xs H Q => (∃ i, xs = [.int i] ∧ Q (.int i) H) ∨ ∃ k, xs = [.bl k] ∧ Q (.int (if k then 1 else 0)) H)
              (tCons (tOp (rIxL K) (tVar 1) (tOp (rI0 fun i j => .int (i + j)) (tC (.int 1)) (tVar 3))) tNil)) (tC (.int 3))) (tCB (fun xs H Q => ∃ p ys, xs = [.ref p] ∧ (SqL K H p ys ∨ SqT K H p ys) ∧ Q (.int (ys.length : Nat)) H) (tCons (tVar 4) tNil)))) (gName 5))
            (tIfS (tTest (tOp (rNotInD K) (tOp (rIxT K) (tVar 5) (tC (.int 0))) (tLc (iList K (tVar 2)) (gName 6) tYes (tOp (rIxT K) (tVar 6) (tC (.int 0))) [6]))) (tDrop (tBM K "list" rAppend (tVar 2) (tCons (tVar 5) tNil))) tNext)) tNext
          D [some (.ref q), some (.ref dd), some (.ref mo), some (.int (0 + (j : Int))), some (.ref c), o5, o6] H1 := by
      intro c mc MC D hc hcP hcM hcl hD
      refine ⟨_, rfl, c, _, rfl, .inl (SqL.of hc), _, _, rfl, rfl, _, rfl, ite2 (fun hl => ?_) (fun _ => ?_)⟩
      · have hl : (0 : Int) < (mc.length : Int) := of_decide_eq_true hl
        have hb1 := Int.emod_nonneg (xv / 3) (b := (mc.length : Int)) (by omega)
        have hb2 := Int.emod_lt_of_pos (xv / 3) hl
        have hcl2 := paired_len hcP
        have hmm : MC[((xv / 3) % (mc.length : Int)).toNat]? = some (MC[((xv / 3) % (mc.length : Int)).toNat]'(by omega)) := List.getElem?_eq_getElem _
        generalize (MC[((xv / 3) % (mc.length : Int)).toNat]'_) = mm at hmm
        obtain ⟨mv, hmv', hMv⟩ := paired_getR hcP hmm
        have hmmM := hcM mm (List.mem_of_getElem? hmm)
        obtain ⟨t, u, rfl, ht, hda⟩ := id hMv
        refine ⟨_, rfl, _, rfl, _, rfl, _, _, rfl, rfl, dd, _, _, _, rfl, rfl, SqL.of (s3 _ _ hdd), hax, .inl ⟨_, rfl, _, _, rfl, rfl, ⟨by decide, by decide⟩, _, rfl, c, _, rfl, .inl (SqL.of hc), _, _, rfl, rfl, hl, c, _, _, _, rfl, rfl, SqL.of hc, atI_of hb1 hmv', ?_⟩⟩
        refine ⟨_, rfl, t, _, 0, _, rfl, rfl, SqT.of ht, rfl, ?_⟩
        refine ⟨_, rfl, mo, rfl, ⟨_, SqL.of hmv⟩, fun D' hD' => lc_keys (b := 6) hmv hMP (by omega) hD' fun H7 ks s12 hk hkP => ?_⟩
        refine ⟨deedD mm.1, (M.map Prod.fst).map deedD, (hda.mono (Tups.same s12)).dp, .lst (SqL.of hk) (dpAll_map (fun _ _ h => h.dp) hkP), (dok' _ hmmM.1).shaped, shaped_deeds (fun e he => ?_), _, rfl, ite2 (fun hq => ?_) (fun hq => ?_)⟩
        · obtain ⟨x, hx, rfl⟩ := List.mem_map.mp he
          exact dok' _ (hM x hx).1
        · have hnin := (any_not eqv_deed' _ _).mp hq
          have hm7 := s12 _ _ hmv
          refine ⟨_, rfl, tyL hm7, _, rfl, mo, _, _, rfl, rfl, hm7, szLt (by rw [paired_len hMP]; omega), hD _ _ ?_⟩
          have tt : Tups H7 (upd H7 mo (.lst (mvs ++ [.ref t]))) := Tups.upd (not_tup hm7)
          refine ⟨_, _, _, _, mvs ++ [.ref t], M ++ [mm], rfl, Same.mut (s3.trans s12) hmo, upd_same, paired_snoc (moves_all (moves_all hMP (Tups.same s12)) tt) ((hMv.mono (Tups.same s12)).mono tt), ?_, ?_, ?_⟩
          · rw [List.map_append]
            exact nodup_snoc hnd hnin
          · intro x hx
            rw [List.mem_append, List.mem_singleton] at hx
            rcases hx with hx | rfl
            · exact hM x hx
            · exact hmmM
          · rw [List.length_append, List.length_singleton]
            omega
        · exact hD _ _ ⟨_, _, _, _, mvs, M, rfl, s3.trans s12, s12 _ _ hmv, moves_all hMP (Tups.same s12), hnd, hM, by omega⟩
      · exact hD _ _ ⟨_, _, _, _, mvs, M, rfl, s3, hmv, hMP, hnd, hM, by omega⟩
    refine ⟨_, rfl, q, _, 1, _, rfl, rfl, SqL.of (s3 _ _ hq), rfl, ?_⟩
    refine ⟨_, rfl, q, _, 0, _, rfl, rfl, SqL.of (s3 _ _ hq), rfl, a, _, rfl, .inl (SqL.of (s3 _ _ ha)), _, _, rfl, rfl, _, rfl, ?_⟩
    refine ite2 (fun _ => ?_) (fun _ => iteF (rest b mb M2 _ (s3 _ _ hb) (moves_all p2 (Tups.same s3)) q2 (by omega) fun _ _ h => h))
    refine ⟨_, rfl, _, rfl, _, _, rfl, rfl, dd, _, _, _, rfl, rfl, SqL.of (s3 _ _ hdd), hax, .inl ⟨_, rfl, _, _, rfl, rfl, (by decide : (0:Int) < 3), _, _, rfl, rfl, _, rfl, ite2 (fun _ => ?_) (fun _ => rest b mb M2 _ (s3 _ _ hb) (moves_all p2 (Tups.same s3)) q2 (by omega) fun _ _ h => h)⟩⟩
    refine ⟨_, rfl, q, _, 0, _, rfl, rfl, SqL.of (s3 _ _ hq), rfl, ?_⟩
    exact rest a ma M1 _ (s3 _ _ ha) (moves_all p1 (Tups.same s3)) q1 (by omega) fun _ _ h => h
  · rintro σ H1 ⟨o3, o4, o5, o6, mvs, M, rfl, s3, hmv, hMP, hnd, hM, hMl⟩
    exact ⟨_, rfl, k mo mvs M H1 hmo s3 hmv hMP hnd hM⟩
end
end Ct
/-! cover, added, doubled. -/
namespace Ct
open PySem PySem.Spec PyProof.Rows L2 Nd
open CM (InR Wf Qt Rep row reps)
theorem cut_four {dr : List Int} {k : Nat} (h : 6 + 5 * k ≤ dr.length) : cutV (dr.map V.int) (some (2 + 5 * (0 + (k : Int)))) (some (6 + 5 * (0 + (k : Int)))) = ((dr.drop (2 + 5 * k)).take 4).map V.int := by
  unfold cutV
  rw [show (2 + 5 * (0 + (k : Int))) = ((2 + 5 * k : Nat) : Int) by omega, show (6 + 5 * (0 + (k : Int))) = ((6 + 5 * k : Nat) : Int) by omega, HT.sIx_nat, HT.sIx_nat, List.length_map, Nat.min_eq_left (by omega), Nat.min_eq_left (by omega), show 6 + 5 * k - (2 + 5 * k) = 4 by omega, List.map_take, List.map_drop]
section
variable {P : Program} {w : World} {K : PySem.W.Frag} {mg : Str → Option Value} {base : Heap}
def spCover : Sp := fun vs H Q _ => ∃ (c : Int) (r mv : V) (R : Rows) (ds : List Deed), vs = [.int c, r, mv] ∧ 0 ≤ c ∧ RowsAt H r R ∧ Good ds R ∧ R.length ≤ 6 ∧ MenuAt H mv ds ∧ MenuOk ds ∧ RowsTo H Q fun S => Good ds S ∧ S.length ≤ 6
theorem sc__law_cover : FnScope (["_law_cell_here", "_law_high", "_law_menu_here", "_law_many", "_law_spans", "_law_k", "_law_draws_here", "_law_base", "_law_rows"] : List Str) ["_law_cell_here", "_law_high", "_law_menu_here"] (defScope s_cover_L) := ⟨rfl, rfl, rfl, by decide +kernel, rfl, by decide +kernel, by decide +kernel⟩
theorem ok_cover (F : TF K "_law_cover" s_cover_L) (T : Tx K mg) (D__law_draws : DOk P w K mg base 1 "_law_draws" ["_law_cell_here", "_law_spans"] spDraws)
    (D__law_options : DOk P w K mg base 3 "_law_options" ["_law_high", "_law_menu_here", "_law_base", "_law_k"] spOptions) (D__law_picked : DOk P w K mg base 1 "_law_picked" ["_law_options_here", "_law_draws_here"] spPicked) :
    DOk P w K mg base 4 "_law_cover" ["_law_cell_here", "_law_high", "_law_menu_here"] spCover := by
  refine dok F T.g__law_cover sc__law_cover (fun vs H Q E h => ?_) (fun _ _ _ _ _ _ us hl => match us, hl with | [_, _, _], _ => rfl) (fun cdv A outer s H vs Q E hr h => ?_)
  · obtain ⟨c, r, mv, R, ds, rfl, _⟩ := h
    rfl
  obtain ⟨c, r, mv, R, ds, rfl, hc, hR, g, h6, hM, mk, k⟩ := h
  obtain ⟨ra, rs, rfl, hra, hrP⟩ := id hR
  have hrl := paired_len hrP
  have hpos := g.pos
  refine ⟨_, (pss_cons (ps_set (i := 3) sc__law_cover.nd rfl (Or.inl rfl) (pe_op op_add pe_int (pe_ix ix_list (pe_d D__law_draws (hr.mono (by decide)) (by rfl) (pa_cons (pv 0) (pa_cons (pe_lst (pa_cons pe_int pa_nil)) pa_nil))) pe_int (fun _ _ => rfl))))
    (pss_cons (ps_set (i := 4) sc__law_cover.nd rfl (Or.inl rfl) (pe_lst (pa_cons pe_int pa_nil)))
    (pss_cons (ps_for PassesOwn.never rfl (pi_range1 rfl T.f_range (pa_cons (pv 3) pa_nil)) (pg_name (i := 5) sc__law_cover.nd rfl (Or.inl rfl)) (pss_one (ps_set (i := 4) sc__law_cover.nd rfl (Or.inl rfl) (pe_op op_cat (pv 4) (pe_lst (pa_cons (pe_callB call_len_seq (by rfl) T.f_len (by decide +kernel) (pa_cons (pv 1) pa_nil)) (pa_cons pe_int (pa_cons pe_int (pa_cons pe_int (pa_cons pe_int pa_nil))))))))))
    (pss_cons (ps_set (i := 6) sc__law_cover.nd rfl (Or.inr rfl) (pe_d D__law_draws (hr.mono (by decide)) (by rfl) (pa_cons (pv 0) (pa_cons (pv 4) pa_nil))))
    (pss_cons (ps_set (i := 7) sc__law_cover.nd rfl (Or.inl rfl) (pe_op op_cat (pe_lst (pa_cons pe_int pa_nil)) (pe_lc (own := [("_law_k", 5)]) rfl sc__law_cover.nd (pi_range2 rfl T.f_range (pa_cons pe_int (pa_cons (pv 3) pa_nil))) (blkOk_by (N := (["_law_cell_here", "_law_high", "_law_menu_here", "_law_many", "_law_spans", "_law_k", "_law_draws_here", "_law_base", "_law_rows"] : List Str)) (sc := defScope s_cover_L) (by decide +kernel)) (fun _ _ _ _ _ => (pg_name (i := 5) sc__law_cover.nd rfl (Or.inl rfl))) (fun _ _ _ _ _ => pts_nil) (fun _ _ _ _ _ => (pe_ix (ix_listK (K := K)) (pv 6) (pe_op op_add pe_int (pe_op op_mul pe_int (pv 5))) (fun _ _ => rfl))))))
    (pss_cons (ps_set (i := 8) sc__law_cover.nd rfl (Or.inl rfl) (pe_lst pa_nil))
    (pss_cons (ps_for PassesOwn.never rfl (pi_range1 rfl T.f_range (pa_cons (pv 3) pa_nil)) (pg_name (i := 5) sc__law_cover.nd rfl (Or.inl rfl)) (pss_one (ps_expr (pe_bm PySem.F.plainAttrs_list PySem.F.slot_list_append PySem.F.type_list_append mt_append (pv 8) (pa_cons (pe_d D__law_picked (hr.mono (by decide)) (by rfl) (pa_cons (pe_d D__law_options (hr.mono (by decide)) (by rfl) (pa_cons (pv 1) (pa_cons (pv 2) (pa_cons (pv 7) (pa_cons (pv 5) pa_nil))))) (pa_cons (pe_slice sl_list (pv 6) (po_some (pe_op op_add pe_int (pe_op op_mul pe_int (pv 5)))) (po_some (pe_op op_add pe_int (pe_op op_mul pe_int (pv 5))))) pa_nil))) pa_nil)))))
    (pss_one (ps_ret (pv 8)))))))))), ?_⟩
  refine ⟨_, rfl, szk 1 rfl, fun p1 hp1 => ?_⟩
  have s1 : Same H (upd H p1 (.lst [.int 6])) := Same.new1 hp1
  refine ⟨c, p1, [6], rfl, upd_same, by decide, fun s hs => by rw [List.mem_singleton] at hs; subst hs; decide, hc, fun d0 p2 H2 hp2 s2 hd0 hdw0 => ?_⟩
  obtain ⟨z, hz, hz0, hz6⟩ := hdw0.get (i := 0) rfl
  refine ⟨p2, _, 0, _, rfl, rfl, SqL.of hd0, atI_ints (by decide) hz, _, _, rfl, rfl, ?_⟩
  obtain ⟨n, hn⟩ : ∃ n : Nat, 1 + z = (n : Nat) := ⟨(1 + z).toNat, by omega⟩
  have hn1 : 1 ≤ n := by omega
  have hn6 : n ≤ 6 := by omega
  have s12 := s1.trans s2
  show (fun _ _ => _) _ _
  refine ⟨szk 1 rfl, fun p3 hp3 => ?_⟩
  have s3 : Same H2 (upd H2 p3 (.lst [.int 6])) := Same.new1 hp3
  refine ⟨_, rfl, _, rfl, by show _ ≤ 1 + z; omega, by show 1 + z < _; omega, ?_⟩
  rw [show ((fun i j => V.int (i + j)) 1 z) = .int (n : Nat) from congrArg V.int hn, show (1 + z).toNat = n by omega]
  let B : List Int := [(R.length : Nat), 6, 180, 180, 180]
  refine for_range (Pv := fun i σ H3 => ∃ (sp : Addr) (o5 : Option V), σ = [some (.int c), some (.ref ra), some mv, some (.int (n : Nat)), some (.ref sp), o5, none, none, none] ∧ Same H H3 ∧
    H3 sp = some (.lst (([6] ++ spanB i B).map V.int))) ⟨p3, none, rfl, s12.trans s3, upd_same⟩ ?_ ?_
  · rintro i σ H3 hi ⟨sp, o5, rfl, s4, hsp⟩
    refine ⟨_, rfl, ⟨_, rfl, ra, _, rfl, .inl (SqL.of (s4 _ _ hra)), szk 5 rfl, fun q hq => ?_⟩⟩
    have s5 : Same H3 (upd H3 q (.lst (B.map V.int))) := Same.new1 hq
    rw [hrl]
    refine ⟨sp, q, _, _, rfl, rfl, s5 _ _ hsp, upd_same, szL (by simp [spanB_len, B]; omega), fun q2 hq2 => ?_⟩
    refine ⟨q2, _, rfl, Same.new (s4.trans s5) hq2, ?_⟩
    rw [upd_same, spanB_succ, ← List.append_assoc, List.map_append (l₂ := B)]
    rfl
  rintro σ H3 ⟨sp, o5, rfl, s4, hsp⟩
  refine ⟨_, rfl, _, rfl, c, sp, _, rfl, hsp, by simp [spanB_len, B]; omega, fun s hs => ?_, hc, ?_⟩
  · rw [List.mem_append, List.mem_singleton] at hs
    rcases hs with rfl | hs
    · exact ⟨by decide, by decide⟩
    have := spanB_mem hs
    simp only [B, List.mem_cons, List.not_mem_nil, or_false] at this
    rcases this with rfl | rfl | rfl | rfl | rfl <;> constructor <;> omega
  intro dr dp H4 hdp s5 hdr hdw
  have hdl := hdw.len
  rw [List.length_append, spanB_len] at hdl
  have hdl2 : dr.length = 1 + n * 5 := hdl
  have s6 := s4.trans s5
  refine ⟨szk 1 rfl, fun pa hpa => ?_⟩
  have s7 : Same H4 (upd H4 pa (.lst [.int 0])) := Same.new1 hpa
  refine ⟨_, rfl, _, _, rfl, ⟨by decide, by decide, by omega, by omega⟩, fun D hD => ?_⟩
  rw [show (((n : Nat) : Int) - 1).toNat = n - 1 by omega]
  have hpD : pa ≠ D := by rintro rfl; rw [upd_same] at hD; cases hD
  refine lc_range (Pv := fun j H5 => ∃ bs : List Int, Same (upd H4 pa (.lst [.int 0])) H5 ∧ H5 D = some (.lst (bs.map V.int)) ∧ bs.length = j ∧ ∀ b ∈ bs, InR R.length b) ⟨[], Same.new1 hD, upd_same, rfl, fun b h => absurd h List.not_mem_nil⟩ ?_ ?_
  · rintro j H5 hj ⟨bs, s8, h5, hbl, hbs⟩
    obtain ⟨x, hx, bx⟩ := span_get (j := 0) (k := 1 + j) hdw (by omega) rfl
    refine ⟨rfl, _, rfl, _, rfl, _, _, rfl, rfl, .inl ⟨by decide, by decide⟩, _, _, rfl, rfl, dp, _, _, _, rfl, rfl, SqL.of (s8 _ _ (s7 _ _ hdr)), ints_at hx (by simp [B]), _, h5, szLt (by rw [List.length_map]; omega), bs ++ [x], Same.mut s8 hD, ints_snoc, by rw [List.length_append, hbl]; rfl, ?_⟩
    intro b hb
    rw [List.mem_append, List.mem_singleton] at hb
    rcases hb with hb | rfl
    · exact hbs b hb
    · exact bx
  rintro H5 ⟨bs, s8, h5, hbl, hbs⟩
  refine ⟨pa, D, _, _, rfl, rfl, s8 _ _ upd_same, h5, szL (by simp; omega), fun ba hba => ?_⟩
  have s9 : Same H5 (upd H5 ba (.lst ([.int 0] ++ bs.map V.int))) := Same.new1 hba
  have s69 := s6.trans (s7.trans (s8.trans s9))
  have hbal : (0 :: bs).length = n := by rw [List.length_cons]; omega
  have hbb : ∀ b ∈ (0 :: bs), InR R.length b := fun b hb => by
    rcases List.mem_cons.mp hb with rfl | hb
    · exact ⟨by decide, by omega⟩
    · exact hbs b hb
  refine ⟨Nat.zero_le _, fun ro hro => ?_⟩
  have hro0 : H ro = none := fresh_back s69 hro
  have s10 : Same (upd H5 ba (.lst ([.int 0] ++ bs.map V.int))) (upd (upd H5 ba (.lst ([.int 0] ++ bs.map V.int))) ro (.lst [])) := Same.new1 hro
  have hb10 := s10 _ _ (upd_same (H := H5) (a := ba) (o := .lst ([.int 0] ++ bs.map V.int)))
  have hd10 := s10 _ _ (s9 _ _ (s8 _ _ (s7 _ _ hdr)))
  have hbr : ba ≠ ro := by rintro rfl; rw [upd_same] at hro; cases hro
  have hdr2 : dp ≠ ro := by rintro rfl; rw [s9 _ _ (s8 _ _ (s7 _ _ hdr))] at hro; cases hro
  refine ⟨_, rfl, _, rfl, by omega, by omega, ?_⟩
  rw [show ((n : Int)).toNat = n by omega]
  refine for_range (Pv := fun i σ H6 => ∃ (o5 : Option V) (rv : List V) (S : Rows), σ = [some (.int c), some (.ref ra), some mv, some (.int (n : Nat)), some (.ref sp), o5, some (.ref dp), some (.ref ba), some (.ref ro)] ∧ Same H H6 ∧ H6 dp = some (.lst (dr.map V.int)) ∧
    H6 ba = some (.lst ((0 :: bs).map V.int)) ∧ H6 ro = some (.lst rv) ∧ RowsIn H6 ro rv S ∧ Gd ds n S ∧ S.length = i) ⟨_, [], [], rfl, s69.trans s10, hd10, hb10, upd_same, .nil, fun ms h => absurd h List.not_mem_nil, rfl⟩ ?_ ?_
  · rintro i σ H6 hi ⟨o5, rv, S, rfl, s11, hd6, hb6, hr6, hRI, hG, hSl⟩
    have hil : InR (0 :: bs).length (0 + (i : Int)) := ⟨by omega, by rw [hbal]; omega⟩
    refine ⟨_, rfl, tyL hr6, ⟨_, rfl, _, rfl, _, rfl, _, rfl, .ref ra, mv, .ref ba, 0 + (i : Int), R, ds, 0 :: bs, rfl, hR.mono s11, g, by omega, hM.mono s11, mk, ⟨ba, rfl, hb6⟩, hbb, by omega, hil, ?_⟩⟩
    intro q a b ma mb M1 M2 H7 hq s12 hq7 ha7 hb7 p1 p2 q1 q2 l1 l2
    have hfour : (((dr.drop (2 + 5 * i)).take 4)).length = 4 := by rw [List.length_take, List.length_drop]; omega
    refine ⟨_, rfl, _, rfl, _, _, rfl, rfl, .inl ⟨by decide, by decide⟩, _, _, rfl, rfl, _, rfl, _, rfl, _, _, rfl, rfl, .inl ⟨by decide, by decide⟩, _, _, rfl, rfl, _, rfl, dp, _, rfl, SqL.of (s12 _ _ hd6), fun ps hps => ?_⟩
    rw [cut_four (by omega)]
    have s13 : Same H7 (upd H7 ps (.lst (((dr.drop (2 + 5 * i)).take 4).map V.int))) := Same.new1 hps
    refine ⟨q, a, b, ps, ma, mb, M1, M2, _, ds, n, rfl, s13 _ _ hq7, s13 _ _ ha7, s13 _ _ hb7, moves_all p1 (Tups.same s13), moves_all p2 (Tups.same s13), by rw [hbal] at q1; exact q1, by rw [hbal] at q2; exact q2, l1, l2, mk.ok, upd_same, hfour, ?_, ?_, ?_⟩
    · intro x hx
      obtain ⟨y, hy, by_⟩ := span_get (j := 1) (k := i) hdw hi rfl
      rw [List.getElem?_take, if_pos (by decide), List.getElem?_drop] at hx
      rw [show ([6] : List Int).length + B.length * i + 1 = 2 + 5 * i + 0 by simp [B]; omega, hx] at hy
      obtain rfl := Option.some.inj hy
      exact by_
    · intro x hx
      have hx := List.mem_of_mem_drop (List.mem_of_mem_take hx)
      obtain ⟨t, ht⟩ := List.getElem?_of_mem hx
      have htl := (List.getElem?_eq_some_iff.mp ht).1
      exact (hdw.rng t _ x (List.getElem?_eq_getElem (by rw [← hdw.len]; exact htl)) ht).1
    · intro p mvs M H8 hp s14 hp8 hMP hnd hM'
      have s24 := s12.trans (s13.trans s14)
      have hpr : p ≠ ro := by rintro rfl; rw [s13 _ _ (s12 _ _ hr6)] at hp; cases hp
      have hr8 := s24 _ _ hr6
      refine ⟨ro, _, _, rfl, rfl, hr8, szLt (by rw [paired_len hRI]; omega), ?_⟩
      refine ⟨_, rv ++ [.ref p], S ++ [M], rfl, Same.mut (s11.trans s24) hro0, ?_, ?_, upd_same, (hRI.grow s24).put (not_tup hr8) ⟨p, mvs, rfl, hp8, hMP⟩ (fun e => hpr (V.ref.inj e)), ?_, by rw [List.length_append, hSl]; rfl⟩
      · rw [upd_ne hdr2]
        exact s24 _ _ hd6
      · rw [upd_ne hbr]
        exact s24 _ _ hb6
      · intro ms hms
        rw [List.mem_append, List.mem_singleton] at hms
        rcases hms with hms | rfl
        · exact hG ms hms
        · exact ⟨hnd, hM'⟩
  · rintro σ H6 ⟨o5, rv, S, rfl, s11, hd6, hb6, hr6, hRI, hG, hSl⟩
    exact ⟨_, rfl, k ro rv S H6 hro0 s11 hr6 hRI.fin ⟨⟨by omega, by rw [hSl]; exact hG⟩, by omega⟩⟩
def spDoubled : Sp := fun vs H Q _ => ∃ (c : Int) (r : V) (R : Rows) (ds : List Deed), vs = [.int c, r] ∧ 0 ≤ c ∧ RowsAt H r R ∧ Good ds R ∧ R.length ≤ 6 ∧ (∀ ms ∈ R, ms.length ≤ 3) ∧ RowsTo H Q fun S => Good ds S ∧ S.length ≤ 12
theorem sc__law_doubled : FnScope (["_law_cell_here", "_law_high", "_law_size", "_law_draws_here", "_law_rows", "_law_k", "_law_moves", "_law_j", "_law_move"] : List Str) ["_law_cell_here", "_law_high"] (defScope s_doubled_L) := ⟨rfl, rfl, rfl, by decide +kernel, rfl, by decide +kernel, by decide +kernel⟩
theorem ok_doubled (F : TF K "_law_doubled" s_doubled_L) (T : Tx K mg) (D__law_draws : DOk P w K mg base 1 "_law_draws" ["_law_cell_here", "_law_spans"] spDraws) :
    DOk P w K mg base 2 "_law_doubled" ["_law_cell_here", "_law_high"] spDoubled := by
  refine dok F T.g__law_doubled sc__law_doubled (fun vs H Q E h => ?_) (fun _ _ _ _ _ _ us hl => match us, hl with | [_, _], _ => rfl) (fun cdv A outer s H vs Q E hr h => ?_)
  · obtain ⟨c, r, R, ds, rfl, _⟩ := h
    rfl
  obtain ⟨c, r, R, ds, rfl, hc, hR, g, h6, hr3, k⟩ := h
  obtain ⟨ra, rs, rfl, hra, hrP⟩ := id hR
  have hrl := paired_len hrP
  have hpos := g.pos
  refine ⟨_, (pss_cons (ps_set (i := 2) sc__law_doubled.nd rfl (Or.inl rfl) (pe_callB call_len_seq (by rfl) T.f_len (by decide +kernel) (pa_cons (pv 1) pa_nil)))
    (pss_cons (ps_set (i := 3) sc__law_doubled.nd rfl (Or.inl rfl) (pe_d D__law_draws (hr.mono (by decide)) (by rfl) (pa_cons (pv 0) (pa_cons (pe_op op_rep (pe_lst (pa_cons pe_int pa_nil)) pe_int) pa_nil))))
    (pss_cons (ps_set (i := 4) sc__law_doubled.nd rfl (Or.inl rfl) (pe_lst pa_nil))
    (pss_cons (ps_for PassesOwn.never rfl (pi_range1 rfl T.f_range (pa_cons (pe_op op_mul pe_int (pv 2)) pa_nil)) (pg_name (i := 5) sc__law_doubled.nd rfl (Or.inl rfl)) (pss_cons (ps_set (i := 6) sc__law_doubled.nd rfl (Or.inl rfl) (pe_lst pa_nil))
    (pss_cons (ps_for PassesOwn.never rfl (pi_range1 rfl T.f_range (pa_cons (pe_callB call_len_seq (by rfl) T.f_len (by decide +kernel) (pa_cons (pe_ix ix_list (pv 1) (pe_op op_mod (pv 5) (pv 2)) (fun _ _ => rfl)) pa_nil)) pa_nil)) (pg_name (i := 7) sc__law_doubled.nd rfl (Or.inl rfl)) (pss_cons (ps_set (i := 8) sc__law_doubled.nd rfl (Or.inl rfl) (pe_ix ix_list (pe_ix ix_list (pv 1) (pe_op op_mod (pv 5) (pv 2)) (fun _ _ => rfl)) (pv 7) (fun _ _ => rfl)))
    (pss_one (ps_expr (pe_bm PySem.F.plainAttrs_list PySem.F.slot_list_append PySem.F.type_list_append mt_append (pv 6) (pa_cons (pe_tup (pa_cons (pe_ix ix_tup (pv 8) pe_int (fun _ _ => rfl)) (pa_cons (pe_op op_add (pe_ix ix_tup (pv 8) pe_int (fun _ _ => rfl)) (pe_op op_mul (pv 2) (pe_ix ix_list (pv 3) (pe_op op_add (pe_op op_mul pe_int (pv 5)) (pv 7)) (fun _ _ => rfl)))) pa_nil))) pa_nil))))))
    (pss_one (ps_expr (pe_bm PySem.F.plainAttrs_list PySem.F.slot_list_append PySem.F.type_list_append mt_append (pv 4) (pa_cons (pv 6) pa_nil)))))))
    (pss_one (ps_ret (pv 4))))))), ?_⟩
  refine ⟨_, rfl, ra, _, rfl, .inl (SqL.of hra), _, rfl, szk 1 rfl, fun p1 hp1 => ?_⟩
  rw [hrl]
  have s1 : Same H (upd H p1 (.lst [.int 2])) := Same.new1 hp1
  refine ⟨p1, 36, _, rfl, rfl, upd_same, by decide, by decide, szL (by decide), fun p2 hp2 => ?_⟩
  have s2 : Same (upd H p1 (.lst [.int 2])) (upd (upd H p1 (.lst [.int 2])) p2 (.lst ((List.replicate 36 (2 : Int)).map V.int))) := Same.new1 hp2
  refine ⟨c, p2, List.replicate 36 2, rfl, upd_same, by rw [List.length_replicate]; decide, fun s hs => by rw [List.eq_of_mem_replicate hs]; decide, hc, fun dr dp H4 hdp s3 hdr hdw => ?_⟩
  have s123 := s1.trans (s2.trans s3)
  refine ⟨Nat.zero_le _, fun ro hro => ?_⟩
  have hro0 : H ro = none := fresh_back s123 hro
  have s4 : Same H4 (upd H4 ro (.lst [])) := Same.new1 hro
  have hdr2 : dp ≠ ro := by rintro rfl; rw [hdr] at hro; cases hro
  refine ⟨_, rfl, _, _, rfl, rfl, .inl ⟨by decide, by decide⟩, _, rfl, by omega, by omega, ?_⟩
  rw [show (2 * ((R.length : Nat) : Int)).toNat = 2 * R.length by omega]
  refine for_range (Pv := fun i σ H6 => ∃ (o5 o6 o7 o8 : Option V) (rv : List V) (S : Rows), σ = [some (.int c), some (.ref ra), some (.int (R.length : Nat)), some (.ref dp), some (.ref ro), o5, o6, o7, o8] ∧ Same H H6 ∧ H6 dp = some (.lst (dr.map V.int)) ∧
    H6 ro = some (.lst rv) ∧ RowsIn H6 ro rv S ∧ Gd ds (2 * R.length) S ∧ S.length = i) ⟨_, _, _, _, [], [], rfl, s123.trans s4, s4 _ _ hdr, upd_same, .nil, fun ms h => absurd h List.not_mem_nil, rfl⟩ ?_ ?_
  · rintro i σ H6 hi ⟨o5, o6, o7, o8, rv, S, rfl, s5, hd6, hr6, hRI, hG, hSl⟩
    refine ⟨Nat.zero_le _, fun mo hmo => ?_⟩
    have s6 : Same H6 (upd H6 mo (.lst [])) := Same.new1 hmo
    have hmo0 : H mo = none := fresh_back s5 hmo
    have hmr : mo ≠ ro := by rintro rfl; rw [hr6] at hmo; cases hmo
    have hmd : dp ≠ mo := by rintro rfl; rw [hd6] at hmo; cases hmo
    have hmod : (0 + (i : Int)) % ((R.length : Nat) : Int) = ((i % R.length : Nat) : Int) := by rw [Int.zero_add]; rfl
    have hil : i % R.length < R.length := Nat.mod_lt _ (by omega)
    have hir : InR R.length ((0 + (i : Int)) % ((R.length : Nat) : Int)) := by rw [hmod]; exact ⟨by omega, by omega⟩
    obtain ⟨ra', rs', mv, e, hb', hl', hat, c', ms, rfl, hc', hP⟩ := hR.row hir
    injection e with e
    subst e
    have s56 := s5.trans s6
    have hrow : (row R ((0 + (i : Int)) % ((R.length : Nat) : Int))) ∈ R := by
      unfold row
      rw [List.getD_eq_getElem?_getD, List.getElem?_eq_getElem (by have := hir.2; have := hir.1; omega)]
      exact List.getElem_mem _
    generalize row R ((0 + (i : Int)) % ((R.length : Nat) : Int)) = ml at hP hrow
    have hml3 := hr3 ml hrow
    have hgd := g.gd ml hrow
    have hmsl := paired_len hP
    refine ⟨_, rfl, _, rfl, _, rfl, _, _, rfl, rfl, (by omega : (0:Int) < ((R.length : Nat) : Int)), ra, _, _, _, rfl, rfl, SqL.of (s56 _ _ hb'), hat, c', _, rfl, .inl (SqL.of (s56 _ _ hc')), _, rfl, by omega, by omega, ?_⟩
    rw [show (((ms.length : Nat) : Int)).toNat = ml.length by rw [hmsl]; omega]
    have hrv : ∀ v ∈ rv, v ≠ .ref mo := by
      rintro v hv rfl
      obtain ⟨i', hi'⟩ := List.getElem?_of_mem hv
      have hlt := (List.getElem?_eq_some_iff.mp hi').1
      rw [paired_len hRI] at hlt
      obtain ⟨v', hv', ⟨b, vs, e1, e2, _⟩, _⟩ := paired_getR hRI (List.getElem?_eq_getElem hlt)
      rw [hi'] at hv'
      obtain rfl := Option.some.inj hv'
      injection e1 with e1
      subst e1
      rw [hmo] at e2
      cases e2
    refine for_range (Pv := fun j σ H7 => ∃ (o7 o8 : Option V) (mvs : List V) (M : List Move), σ = [some (.int c), some (.ref ra), some (.int (R.length : Nat)), some (.ref dp), some (.ref ro), some (.int (0 + (i : Int))), some (.ref mo), o7, o8] ∧ Same H H7 ∧ H7 dp = some (.lst (dr.map V.int)) ∧
      H7 ro = some (.lst rv) ∧ RowsIn H7 ro rv S ∧ H7 mo = some (.lst mvs) ∧ Paired (MoveAt H7) mvs M ∧ M.map Prod.fst = (ml.map Prod.fst).take j ∧ ∀ m ∈ M, m.1 ∈ ds ∧ InR (2 * R.length) m.2)
      ⟨_, _, [], [], rfl, s56, s6 _ _ hd6, s6 _ _ hr6, hRI.grow s6, upd_same, .nil, rfl, fun m h => absurd h List.not_mem_nil⟩ ?_ ?_
    · rintro j σ H7 hj ⟨o7, o8, mvs, M, rfl, s7, hd7, hr7, hRI7, hm7, hMP, hMk, hMM⟩
      obtain ⟨x, hx, bx⟩ := hdw.get (i := 3 * i + j) (s := 2) (by rw [List.getElem?_replicate, if_pos (by omega)])
      have hmj : ml[j]? = some ml[j] := List.getElem?_eq_getElem hj
      generalize ml[j] = mm at hmj
      obtain ⟨t', ht', hMv⟩ := paired_getR hP hmj
      obtain ⟨t, u, rfl, ht, hda⟩ := hMv.mono (Tups.same s7)
      have hmmR := hgd.2 mm (List.mem_of_getElem? hmj)
      refine ⟨_, rfl, _, rfl, _, rfl, _, _, rfl, rfl, (by omega : (0:Int) < ((R.length : Nat) : Int)), ra, _, _, _, rfl, rfl, SqL.of (s7 _ _ hb'), hat, _, rfl, c', _, _, _, rfl, rfl, SqL.of (s7 _ _ hc'), atI_of (by omega) (by rw [show (0 + (j : Int)).toNat = j by omega]; exact ht'), ?_⟩
      refine ⟨_, rfl, tyL hm7, _, rfl, t, _, 0, _, rfl, rfl, SqT.of ht, rfl, _, rfl, t, _, 1, _, rfl, rfl, SqT.of ht, rfl, _, rfl, _, rfl, _, rfl, _, _, rfl, rfl, .inl ⟨by decide, by decide⟩, _, rfl, _, _, rfl, rfl, dp, _, _, _, rfl, rfl, SqL.of hd7, ints_at hx (by omega), _, _, rfl, rfl, .inl ⟨by omega, by omega⟩, _, _, rfl, rfl, szk 2 rfl, fun p hp => ?_⟩
      have s8 : Same H7 (upd H7 p (.tup [u, .int (mm.2 + ((R.length : Nat) : Int) * x)])) := Same.new1 hp
      have hm8 := s8 _ _ hm7
      have hMl : M.length ≤ j := by
        have := congrArg List.length hMk
        rw [List.length_map, List.length_take] at this
        omega
      refine ⟨mo, _, _, rfl, rfl, hm8, szLt (by rw [paired_len hMP]; omega), ?_⟩
      have tt : Tups (upd H7 p (.tup [u, .int (mm.2 + ((R.length : Nat) : Int) * x)])) (upd (upd H7 p (.tup [u, .int (mm.2 + ((R.length : Nat) : Int) * x)])) mo (.lst (mvs ++ [.ref p]))) := Tups.upd (not_tup hm8)
      refine ⟨_, _, mvs ++ [.ref p], M ++ [(mm.1, mm.2 + ((R.length : Nat) : Int) * x)], rfl, Same.mut (s7.trans s8) hmo0, ?_, ?_, ?_, upd_same, ?_, ?_, ?_⟩
      · rw [upd_ne hmd]
        exact s8 _ _ hd7
      · rw [upd_ne (Ne.symm hmr)]
        exact s8 _ _ hr7
      · exact paired_of_mem (hRI7.grow s8) fun v l hv q => ⟨q.1.upd (hrv v hv) (not_tup hm8), q.2⟩
      · exact paired_snoc (moves_all (moves_all hMP (Tups.same s8)) tt) (MoveAt.mono ⟨p, u, rfl, upd_same, hda.mono (Tups.same s8)⟩ tt)
      · rw [List.map_append, hMk, List.take_add_one, List.getElem?_map, hmj]
        rfl
      · intro m hm
        rw [List.mem_append, List.mem_singleton] at hm
        rcases hm with hm | rfl
        · exact hMM m hm
        · refine ⟨hmmR.1, ?_⟩
          have h1 := hmmR.2.1
          have h2 := hmmR.2.2
          have hx01 : x = 0 ∨ x = 1 := by omega
          rcases hx01 with rfl | rfl
          · exact ⟨by simp; omega, by simp; omega⟩
          · exact ⟨by simp; omega, by simp; omega⟩
    · rintro σ H7 ⟨o7, o8, mvs, M, rfl, s7, hd7, hr7, hRI7, hm7, hMP, hMk, hMM⟩
      refine ⟨_, rfl, tyL hr7, _, rfl, ro, _, _, rfl, rfl, hr7, szLt (by rw [paired_len hRI]; omega), ?_⟩
      refine ⟨_, _, _, _, rv ++ [.ref mo], S ++ [M], rfl, Same.mut s7 hro0, ?_, upd_same, hRI7.put (not_tup hr7) ⟨mo, mvs, rfl, hm7, hMP⟩ (fun e => hmr (V.ref.inj e)), ?_, by rw [List.length_append, hSl]; rfl⟩
      · rw [upd_ne hdr2]
        exact hd7
      · intro ms' hms
        rw [List.mem_append, List.mem_singleton] at hms
        rcases hms with hms | rfl
        · exact hG ms' hms
        · refine ⟨?_, hMM⟩
          rw [hMk, ← List.length_map (as := ml) Prod.fst, List.take_length]
          exact hgd.1
  · rintro σ H6 ⟨o5, o6, o7, o8, rv, S, rfl, s5, hd6, hr6, hRI, hG, hSl⟩
    exact ⟨_, rfl, k ro rv S H6 hro0 s5 hr6 hRI.fin ⟨⟨by omega, by rw [hSl]; exact hG⟩, by omega⟩⟩
end
end Ct
/-! added, lookers. -/
namespace Ct
open PySem PySem.Spec PyProof.Rows L2 Nd
open CM (InR Wf Qt Rep row reps)
/-- [x for x in xs if p] over tuples -/
theorem lc_filter {α : Type} {F : Hp → V → α → Prop} {p : α → Bool} {K : PySem.W.Frag} {σ : L2.St} {H : Hp} {D mo : Addr} {xs : List V} {l : List α} {b : Nat} {tt : TT} {Qd : Hp → Prop} (hmo : H mo = some (.lst xs)) (hP : Paired (F H) xs l) (hl : l.length ≤ 1000) (hD : H D = none)
    (hm : ∀ {H H' v x}, Tups H H' → F H v x → F H' v x)
    (ht : ∀ v x H' (Qb : Bool → Hp → Prop), Same H H' → F H' v x → x ∈ l → Qb (p x) H' → tt ((wipe σ [b]).set b (some v)) H' Qb)
    (k : ∀ H' ks, Same H H' → H' D = some (.lst ks) → Paired (F H') ks (l.filter p) → Qd H')
    (w1 : ∀ x, wipe ((wipe σ [b]).set b (some x)) [b] = wipe σ [b] := by intro _; rfl) (w2 : ∀ x, ((wipe σ [b]).set b (some x))[b]? = some (some x) := by intro _; rfl) :
    ∃ W : Nat → Nat → Hp → Prop, (∃ m, W 0 m (upd H D (.lst []))) ∧ ∀ i m H, W i m H → ((Itl K mo).stop i H ∧ Qd H) ∨ ((Itl K mo).go i H ∧ ∃ Nx : Hp → Prop, (∀ H', Nx H' → ∃ m', m' < m ∧ W (i + 1) m' H') ∧
      ∀ x H', (Itl K mo).yld i H x H' → gName b x (wipe σ [b]) H' fun σ2 H2 => wipe σ2 [b] = wipe σ [b] ∧ tt σ2 H2 fun c H3 =>
        if c = true then tVar b σ2 H3 fun y H4 => ∃ acc, H4 D = some (.lst acc) ∧ acc.length < sizeLine ∧ Nx (upd H4 D (.lst (acc ++ [y]))) else Nx H3) := by
  refine lc_list (xs := xs) (Pv := fun i H1 => ∃ ks, Same H H1 ∧ H1 D = some (.lst ks) ∧ Paired (F H1) ks ((l.take i).filter p)) ⟨[], Same.new1 hD, upd_same, by rw [List.take_zero]; exact .nil⟩ ?_ ?_ ?_
  · rintro i H1 _ ⟨ks, s1, _⟩
    exact SqL.of (s1 _ _ hmo)
  · rintro i x H1 hx ⟨ks, s1, h1, hK⟩
    have hi := (List.getElem?_eq_some_iff.mp hx).1
    have hl2 := paired_len hP
    have hm' : l[i]? = some (l[i]'(by omega)) := List.getElem?_eq_getElem _
    generalize (l[i]'_) = y at hm'
    obtain ⟨x', hx', hF⟩ := paired_getR hP hm'
    rw [hx] at hx'
    obtain rfl := Option.some.inj hx'
    have hF1 := hm (Tups.same s1) hF
    have htk : l.take (i + 1) = l.take i ++ [y] := by rw [List.take_add_one, hm']; rfl
    have hlen : ks.length ≤ i := by
      have h1 := paired_len hK
      have h2 := List.length_filter_le p (l.take i)
      rw [List.length_take] at h2
      omega
    refine ⟨w1 _, ht x y H1 _ s1 hF1 (List.mem_of_getElem? hm') ?_⟩
    cases hp : p y with
    | true =>
      refine iteT ⟨x, w2 _, ks, h1, szLt (by omega), ks ++ [x], Same.mut s1 hD, upd_same, ?_⟩
      have tt : Tups H1 (upd H1 D (.lst (ks ++ [x]))) := Tups.upd (not_tup h1)
      rw [htk, List.filter_append, List.filter_cons_of_pos hp]
      exact paired_snoc (Paired.mapP hK fun _ _ q => hm tt q) (hm tt hF1)
    | false =>
      refine iteF ⟨ks, s1, h1, ?_⟩
      rw [htk, List.filter_append, List.filter_cons_of_neg (by rw [hp]; decide), List.filter_nil, List.append_nil]
      exact hK
  · rintro H1 ⟨ks, s1, h1, hK⟩
    rw [paired_len hP, List.take_length] at hK
    exact k H1 ks s1 h1 hK
section
variable {P : Program} {w : World} {K : PySem.W.Frag} {mg : Str → Option Value} {base : Heap}
def spAdded : Sp := fun vs H Q _ => ∃ (c : Int) (r mv : V) (R : Rows) (ds : List Deed), vs = [.int c, r, mv] ∧ 0 ≤ c ∧ RowsAt H r R ∧ Good ds R ∧ R.length ≤ 100 ∧ MenuAt H mv ds ∧ MenuOk ds ∧ RowsTo H Q fun S => Good ds S ∧ S.length = R.length
theorem row_len {ds : List Deed} {n : Nat} {R : Rows} (g : Gd ds n R) (h8 : ds.length ≤ 8) {ms : List Move} (h : ms ∈ R) : ms.length ≤ 8 := by
  have h1 := (g ms h).1
  have h2 : ∀ x ∈ ms.map Prod.fst, x ∈ ds := fun x hx => by
    obtain ⟨m, hm, rfl⟩ := List.mem_map.mp hx
    exact ((g ms h).2 m hm).1
  have h3 := CM.nodup_sub h1 h2
  rw [List.length_map] at h3
  omega
theorem sc__law_added : FnScope (["_law_cell_here", "_law_rows", "_law_menu_here", "_law_draws_here", "_law_out", "_law_deed", "_law_move"] : List Str) ["_law_cell_here", "_law_rows", "_law_menu_here"] (defScope s_added_L) := ⟨rfl, rfl, rfl, by decide +kernel, rfl, by decide +kernel, by decide +kernel⟩
theorem ok_added (F : TF K "_law_added" s_added_L) (T : Tx K mg) (D__law_draws : DOk P w K mg base 1 "_law_draws" ["_law_cell_here", "_law_spans"] spDraws) (D__law_copy : DOk P w K mg base 1 "_law_copy" ["_law_rows"] spCopy) :
    DOk P w K mg base 2 "_law_added" ["_law_cell_here", "_law_rows", "_law_menu_here"] spAdded := by
  refine dok F T.g__law_added sc__law_added (fun vs H Q E h => ?_) (fun _ _ _ _ _ _ us hl => match us, hl with | [_, _, _], _ => rfl) (fun cdv A outer s H vs Q E hr h => ?_)
  · obtain ⟨c, r, mv, R, ds, rfl, _⟩ := h
    rfl
  obtain ⟨c, r, mv, R, ds, rfl, hc, hR, g, h100, hM, mk, k⟩ := h
  obtain ⟨ra, rs, rfl, hra, hrP⟩ := id hR
  obtain ⟨me, dvs, rfl, hme, hdP⟩ := id hM
  have hrl := paired_len hrP
  have hml := paired_len hdP
  have hpos := g.pos
  have hd8 := mk.le
  have hd1 : 1 ≤ ds.length := by
    obtain ⟨d, hd, _⟩ := mk.has 0 (by decide)
    exact List.length_pos_of_mem hd
  have hu64 := hu64_of hr
  refine ⟨_, (pss_cons (ps_set (i := 3) sc__law_added.nd rfl (Or.inl rfl) (pe_d D__law_draws (hr.mono (by decide)) (by rfl) (pa_cons (pv 0) (pa_cons (pe_lst (pa_cons (pe_callB call_len_seq (by rfl) T.f_len (by decide +kernel) (pa_cons (pv 1) pa_nil)) (pa_cons (pe_callB call_len_seq (by rfl) T.f_len (by decide +kernel) (pa_cons (pv 2) pa_nil)) (pa_cons (pe_callB call_len_seq (by rfl) T.f_len (by decide +kernel) (pa_cons (pv 1) pa_nil)) pa_nil)))) pa_nil))))
    (pss_cons (ps_set (i := 4) sc__law_added.nd rfl (Or.inl rfl) (pe_d D__law_copy (hr.mono (by decide)) (by rfl) (pa_cons (pv 1) pa_nil)))
    (pss_cons (ps_set (i := 5) sc__law_added.nd rfl (Or.inr rfl) (pe_ix ix_list (pv 2) (pe_ix ix_list (pv 3) pe_int (fun _ _ => rfl)) (fun _ _ => rfl)))
    (pss_cons (ps_asg (pe_op op_cat (pe_lc (own := [("_law_move", 6)]) rfl sc__law_added.nd (pi_list (pe_ix ix_list (pv 4) (pe_ix ix_list (pv 3) pe_int (fun _ _ => rfl)) (fun _ _ => rfl))) (blkOk_by (N := (["_law_cell_here", "_law_rows", "_law_menu_here", "_law_draws_here", "_law_out", "_law_deed", "_law_move"] : List Str)) (sc := defScope s_added_L) (by decide +kernel)) (fun _ _ _ _ _ => (pg_name (i := 6) sc__law_added.nd rfl (Or.inl rfl))) (fun _ _ _ _ _ => (pts_one (pt_cmpR (op_neDK (K := K) hu64) (pe_ix (ix_tupK (K := K)) (pv 6) pe_int (fun _ _ => rfl)) (pv 5) (nomark _)))) (fun _ _ _ _ _ => (pv 6))) (pe_lst (pa_cons (pe_tup (pa_cons (pv 5) (pa_cons (pe_ix ix_list (pv 3) pe_int (fun _ _ => rfl)) pa_nil))) pa_nil))) (pg_sub (pv 4) (pe_ix ix_list (pv 3) pe_int (fun _ _ => rfl)) set_list))
    (pss_one (ps_ret (pv 4))))))), ?_⟩
  refine ⟨_, rfl, _, rfl, ra, _, rfl, .inl (SqL.of hra), _, rfl, me, _, rfl, .inl (SqL.of hme), _, rfl, ra, _, rfl, .inl (SqL.of hra), szk 3 rfl, fun p1 hp1 => ?_⟩
  rw [hrl, hml]
  have s1 : Same H (upd H p1 (.lst [.int (R.length : Nat), .int (ds.length : Nat), .int (R.length : Nat)])) := Same.new1 hp1
  refine ⟨c, p1, [(R.length : Nat), (ds.length : Nat), (R.length : Nat)], rfl, upd_same, (by decide : 3 ≤ 100000), fun s hs => ?_, hc, fun dr dp H2 hdp s2 hdr hdw => ?_⟩
  · simp only [List.mem_cons, List.not_mem_nil, or_false] at hs
    rcases hs with rfl | rfl | rfl <;> constructor <;> omega
  obtain ⟨x0, hx0, b0⟩ := hdw.get (i := 0) rfl
  obtain ⟨x1, hx1, b1⟩ := hdw.get (i := 1) rfl
  obtain ⟨x2, hx2, b2⟩ := hdw.get (i := 2) rfl
  have s12 := s1.trans s2
  refine ⟨_, rfl, .ref ra, R, rfl, hR.mono s12, by omega, fun o ov H3 ho s3 hov hoP => ?_⟩
  have s13 := s12.trans s3
  have hoH : H o = none := fresh_back s12 ho
  have hdd : ds[x1.toNat]? = some (ds[x1.toNat]'(by omega)) := List.getElem?_eq_getElem _
  generalize (ds[x1.toNat]'_) = d at hdd
  have hdm : d ∈ ds := List.mem_of_getElem? hdd
  obtain ⟨dv, hdv, hda⟩ := paired_getR hdP hdd
  obtain ⟨z, rfl, hz⟩ := id hda
  refine ⟨_, rfl, _, rfl, dp, _, 1, _, rfl, rfl, SqL.of (s3 _ _ hdr), atI_ints (by decide) hx1, me, _, _, _, rfl, rfl, SqL.of (s13 _ _ hme), atI_of b1.1 hdv, ?_⟩
  have hrr : R[x0.toNat]? = some (R[x0.toNat]'(by omega)) := List.getElem?_eq_getElem _
  have hrm : (R[x0.toNat]'(by omega)) ∈ R := List.getElem_mem _
  generalize (R[x0.toNat]'_) = ml at hrr hrm
  obtain ⟨mv, hmv, mo, mvs, rfl, hmo, hMP⟩ := paired_getR hoP hrr
  have hl8 := row_len g.gd hd8 hrm
  refine ⟨_, rfl, _, rfl, dp, _, 0, _, rfl, rfl, SqL.of (s3 _ _ hdr), atI_ints (by decide) hx0, o, _, _, _, rfl, rfl, SqL.of hov, atI_of b0.1 hmv, mo, rfl, ⟨_, SqL.of hmo⟩, fun D hD => ?_⟩
  refine lc_filter (F := MoveAt) (b := 6) (p := fun m => !decide (m.1 = d)) hmo hMP (by omega) hD (fun t h => h.mono t) (fun v x H' Qb s h hx hq => ?_) (fun H4 ks s4 hks hkP => ?_)
  · obtain ⟨t, u, rfl, ht, hu⟩ := h
    refine ⟨_, rfl, t, _, 0, _, rfl, rfl, SqT.of ht, rfl, _, rfl, _, _, hu.dp, (hda.mono (Tups.same (s13.trans s))).dp, (g.ok mk _ hrm _ hx).shaped, (mk.ok d hdm).shaped, _, rfl, ?_⟩
    rw [eqv_deed]
    exact hq
  refine ⟨_, rfl, _, rfl, dp, _, 2, _, rfl, rfl, SqL.of (s4 _ _ (s3 _ _ hdr)), atI_ints (by decide) hx2, szk 2 rfl, fun t ht => ?_⟩
  have s5 : Same H4 (upd H4 t (.tup [.ref z, .int x2])) := Same.new1 ht
  refine ⟨szk 1 rfl, fun q hq => ?_⟩
  have s6 : Same (upd H4 t (.tup [.ref z, .int x2])) (upd (upd H4 t (.tup [.ref z, .int x2])) q (.lst [.ref t])) := Same.new1 hq
  have s56 := s5.trans s6
  have hkl := paired_len hkP
  have hfl : (ml.filter fun m => !decide (m.1 = d)).length ≤ ml.length := List.length_filter_le _ _
  refine ⟨D, q, _, _, rfl, rfl, s56 _ _ hks, upd_same, szL (by simp; omega), fun n hn => ?_⟩
  have s7 : Same (upd (upd H4 t (.tup [.ref z, .int x2])) q (.lst [.ref t])) (upd (upd (upd H4 t (.tup [.ref z, .int x2])) q (.lst [.ref t])) n (.lst (ks ++ [.ref t]))) := Same.new1 hn
  have s47 := s4.trans (s56.trans s7)
  have ho7 := s47 _ _ hov
  have hno : n ≠ o := by rintro rfl; rw [s56 _ _ (s4 _ _ hov)] at hn; cases hn
  have hol := paired_len hoP
  refine ⟨_, rfl, _, rfl, dp, _, 0, _, rfl, rfl, SqL.of (s47 _ _ (s3 _ _ hdr)), atI_ints (by decide) hx0, o, _, x0, x0.toNat, rfl, rfl, ho7, ?_, ?_⟩
  · unfold ixN
    rw [if_pos b0.1, if_pos (by omega)]
  have tt : ∀ {vv : List V}, Tups (upd (upd (upd H4 t (.tup [.ref z, .int x2])) q (.lst [.ref t])) n (.lst (ks ++ [.ref t]))) (upd (upd (upd (upd H4 t (.tup [.ref z, .int x2])) q (.lst [.ref t])) n (.lst (ks ++ [.ref t]))) o (.lst vv)) := fun {vv} => Tups.upd (not_tup ho7)
  refine ⟨_, rfl, k o (ov.set x0.toNat (.ref n)) (R.set x0.toNat ((ml.filter fun m => !decide (m.1 = d)) ++ [(d, x2)])) _ hoH (Same.mut (s13.trans s47) hoH) upd_same ?_ ⟨⟨by rw [List.length_set]; exact hpos, ?_⟩, List.length_set⟩⟩
  · refine paired_set (paired_of_mem hoP fun v l hv q => ?_) ?_ _
    · obtain ⟨b, vs, rfl, hb, hb'⟩ := q
      have hbo : b ≠ o := by
        rintro rfl
        rw [hov] at hb
        have e := Option.some.inj hb
        rw [HO.lst.injEq] at e
        subst e
        obtain ⟨i', hi'⟩ := List.getElem?_of_mem hv
        have hlt := (List.getElem?_eq_some_iff.mp hi').1
        rw [paired_len hb'] at hlt
        obtain ⟨v', hv', t', u', e', ht', _⟩ := paired_getR hb' (List.getElem?_eq_getElem hlt)
        rw [hi'] at hv'
        rw [← Option.some.inj hv'] at e'
        injection e' with e'
        subst e'
        rw [hov] at ht'
        cases ht'
      exact ⟨b, vs, rfl, by rw [upd_ne hbo]; exact s47 _ _ hb, moves_all (moves_all hb' (Tups.same s47)) tt⟩
    · refine ⟨n, ks ++ [.ref t], rfl, by rw [upd_ne hno, upd_same], paired_snoc (moves_all (moves_all hkP (Tups.same (s56.trans s7))) tt) (MoveAt.mono ⟨t, .ref z, rfl, s7 _ _ (s6 _ _ upd_same), hda.mono (Tups.same (s13.trans s47))⟩ tt)⟩
  · rw [List.length_set]
    intro ms hms
    rcases List.mem_or_eq_of_mem_set hms with hms | rfl
    · exact g.gd ms hms
    · have hg := g.gd ml hrm
      refine ⟨?_, fun m hm => ?_⟩
      · rw [List.map_append]
        refine nodup_snoc (List.Sublist.nodup ((List.filter_sublist).map _) hg.1) fun hin => ?_
        obtain ⟨m, hm, e⟩ := List.mem_map.mp hin
        have := (List.mem_filter.mp hm).2
        rw [decide_eq_true e] at this
        cases this
      · rw [List.mem_append, List.mem_singleton] at hm
        rcases hm with hm | rfl
        · exact hg.2 m (List.mem_filter.mp hm).1
        · exact ⟨hdm, b2⟩
end
end Ct
/-! sorted(moves): the rule. -/
namespace Ct
open PySem PySem.Spec PyProof.Rows L2
/-- the move that a value is, or none -/
noncomputable def mvOf (h : Heap) (u : Value) : List Int := by
  classical
  exact if x : ∃ m, MvV h u m ∧ DeedOk m.1 then mcode x.choose else []
theorem seq_inj {a b : Array Value} {n m : Nat} (h : Data.seq a n = Data.seq b m) : a = b := by
  injection h
theorem third_uniq {a b : Key} {u : Value} (ra : RelV (kV a) u) (rb : RelV (kV b) u) : a = b := by
  rcases third_inj ra with ⟨i, t, rfl, e⟩ | ⟨z, t, rfl, e⟩ <;> rcases third_inj rb with ⟨i', t', rfl, e'⟩ | ⟨z', t', rfl, e'⟩ <;> rw [e] at e'
  · injection e' with eq1
    rw [eq1]
  · cases e'
  · cases e'
  · injection e' with eq1
    rw [eq1]
theorem DdV.uniq {h : Heap} {u : Value} {d e : Deed} (x : DdV h u d) (y : DdV h u e) : d = e := by
  obtain ⟨b, o, n, t1, t2, u3, rfl, ho, _, hd, r⟩ := x
  obtain ⟨b', o', n', t1', t2', u3', eb, hoz', _, hdz', r'⟩ := y
  injection eb with eb
  subst eb
  rw [ho] at hoz'
  obtain rfl := Option.some.inj hoz'
  rw [hd] at hdz'
  have qq := congrArg Array.toList (seq_inj hdz')
  simp only [List.cons.injEq, and_true] at qq
  obtain ⟨q1, q2, q3⟩ := qq
  injection q1 with q1
  injection q2 with q2
  subst q3
  obtain ⟨d1, d2, d3⟩ := d
  obtain ⟨eq1, eq2, e3⟩ := e
  have := third_uniq r r'
  simp only at q1 q2 this
  rw [q1, q2, this]
theorem MvV.uniq {h : Heap} {u : Value} {m k : Move} (x : MvV h u m) (y : MvV h u k) : m = k := by
  obtain ⟨a, o, n, b, t, rfl, ho, _, hd, d⟩ := x
  obtain ⟨a', o', n', b', t', ea, hoz', _, hdz', d'⟩ := y
  injection ea with ea
  subst ea
  rw [ho] at hoz'
  obtain rfl := Option.some.inj hoz'
  rw [hd] at hdz'
  have qq := congrArg Array.toList (seq_inj hdz')
  simp only [List.cons.injEq, and_true] at qq
  obtain ⟨q1, q2⟩ := qq
  subst q1
  injection q2 with q2
  obtain ⟨m1, m2⟩ := m
  obtain ⟨k1, k2⟩ := k
  have := d.uniq d'
  simp only at q2 this
  rw [q2, this]
theorem mvOf_eq {h : Heap} {u : Value} {m : Move} (x : MvV h u m) (ok : DeedOk m.1) : mvOf h u = mcode m := by
  classical
  unfold mvOf
  have ex : ∃ m, MvV h u m ∧ DeedOk m.1 := ⟨m, x, ok⟩
  rw [dif_pos ex]
  exact congrArg mcode (ex.choose_spec.1.uniq x)
section
variable {prog : Program} {w : World} {A : Around} {s : Shared}
theorem move_cmp {vs : List Value} {code : Value → List Int} (hA : A.units + 9 < cLine) (hp : ∀ v ∈ vs, ∃ m, MvV s.heap v m ∧ DeedOk m.1 ∧ code v = mcode m) :
    SrtO.Cmp prog w A s (tuples' false) (fun p => p.1 ∈ vs) (SrtO.lt2 fun v u => HT.lexLt (code v) (code u)) := by
  intro p qq hmm hm'
  obtain ⟨m, x, ok, e⟩ := hp _ hmm
  obtain ⟨k, y, ok', e'⟩ := hp _ hm'
  show wpAny (model prog w) A (keyLt' (tuples' false) p.1 qq.1) (fun r s' => s' = s ∧ r = HT.lexLt (code p.1) (code qq.1)) (fun _ _ => False) s
  rw [e, e', lex_move ok ok']
  obtain ⟨a, o, n, b, t, ea, ho, hc, hd, d⟩ := x
  obtain ⟨a', o', n', b', t', ea', hoz', hc', hdz', d'⟩ := y
  rw [ea, ea']
  refine PySem.W.kat_lt ho hd hoz' hdz' ?_
  show PySem.W.KatLex prog w A false (decide (2 < 2)) _ [(b, b'), (.int m.2 t, .int k.2 t')] 0 s
  refine PySem.W.kat_cons (d.eq d' hA prog w _ _ ?_)
  refine PySem.W.kat_go (fun eq1 => ?_) (fun eq1 => ?_)
  · have eq1 : m.1 = k.1 := of_decide_eq_true eq1
    rw [if_pos eq1]
    refine PySem.W.kat_yes (PySem.W.kat_cons (SeqAt.EqAt.int_int m.2 t k.2 t' prog w _ _ ?_))
    refine PySem.W.kat_go (fun eq2 => ?_) (fun eq2 => ?_)
    · have eq2 : m.2 = k.2 := by simpa using eq2
      refine PySem.W.kat_yes (PySem.W.kat_nil ?_)
      rw [eq2]
      exact ⟨rfl, (decide_eq_false (Int.lt_irrefl k.2)).symm⟩
    · exact PySem.W.kat_no (PySem.W.kat_one _ _ (PyProof.Rows.lt_int ⟨rfl, rfl⟩))
  · have eq1 : ¬ m.1 = k.1 := of_decide_eq_false eq1
    rw [if_neg eq1]
    exact PySem.W.kat_no (PySem.W.kat_one _ _ (d.less d' ok ok' (by omega) prog w _ _ ⟨rfl, rfl⟩))
theorem move_firsts {h : Heap} : ∀ vs : List Value, (∀ v ∈ vs, ∃ m, MvV h v m) → ∃ fs : List Value, PySem.W.KatTups h vs fs ∧ fs.length = vs.length ∧ ∀ f ∈ fs, ∃ (qq : Addr) (o : Obj), f = Value.ref qq ∧ h.get? qq = some o ∧ o.cls = .type "tuple"
  | [], _ => ⟨[], PySem.W.KatTups.nil, rfl, fun f hff => absurd hff List.not_mem_nil⟩
  | v :: vs, x => by
    obtain ⟨fs, k, hl, hi⟩ := move_firsts vs fun u hu => x u (List.mem_cons_of_mem _ hu)
    obtain ⟨m, a, o, n, b, t, rfl, ho, hc, hd, qq, o2, n2, t1, t2, u3, rfl, ho2, hc2, _⟩ := x v (List.mem_cons_self ..)
    refine ⟨.ref qq :: fs, PySem.W.KatTups.cons ho hc hd rfl k, by rw [List.length_cons, List.length_cons, hl], fun f hff => ?_⟩
    rcases List.mem_cons.mp hff with rfl | hff
    · exact ⟨qq, o2, rfl, ho2, hc2⟩
    · exact hi f hff
theorem move_sortable {a : Addr} {vs : List Value} {code : Value → List Int} (hA : A.units + 9 < cLine) (h0 : 0 < vs.length) (hp : ∀ v ∈ vs, ∃ m, MvV s.heap v m ∧ DeedOk m.1 ∧ code v = mcode m)
    (ha : ∀ o, s.heap.get? a = some o → o.cls ≠ .type "tuple") : SrtO.SortableO prog w A s a vs fun v u => HT.lexLt (code v) (code u) := by
  intro h' keep
  have hp' : ∀ v ∈ vs, ∃ m, MvV h' v m ∧ DeedOk m.1 ∧ code v = mcode m := fun v hmm => by
    obtain ⟨m, x, r⟩ := hp v hmm
    exact ⟨m, x.keeps fun b o e c => keep b o (fun z => by subst z; exact ha o e c) e, r⟩
  obtain ⟨fs, h1, h2, h3⟩ := move_firsts vs fun v hmm => (hp' v hmm).imp fun m x => x.1
  refine ⟨tuples' false, fun Q E hq => ?_, move_cmp (s := { s with heap := h' }) hA hp'⟩
  refine PySem.W.kat_kind (T := .type "tuple") h1 (by omega) (fun f hmm => ?_) (by rfl) ?_
  · obtain ⟨qq, o, rfl, ho, hc⟩ := h3 f hmm
    have z : PySem.W.Looks (model prog w) h' (typeOf (.ref qq)) o.cls := (PySem.W.Looks.ld ho).andThen .now
    rw [hc] at z
    exact z
  · have e : (Value.type "tuple" != Value.type "tuple") = false := by first | decide +kernel | rfl | decide
    rw [e]
    exact hq
end
theorem paired_perm {α β : Type} {F : α → β → Prop} {xs ys : List α} (p : ys.Perm xs) : ∀ {l : List β}, Paired F xs l → ∃ m, Paired F ys m ∧ m.Perm l := by
  induction p with
  | nil =>
    intro l h
    exact ⟨l, h, List.Perm.refl _⟩
  | cons x _ ih =>
    intro l h
    cases h with
    | cons r t =>
      obtain ⟨m, h1, h2⟩ := ih t
      exact ⟨_ :: m, .cons r h1, h2.cons _⟩
  | swap x y l =>
    intro l h
    cases h with
    | cons r t =>
      cases t with
      | cons r2 t2 => exact ⟨_ :: _ :: _, .cons r2 (.cons r t2), List.Perm.swap ..⟩
  | trans _ _ ih1 ih2 =>
    intro l h
    obtain ⟨m, h1, h2⟩ := ih2 h
    obtain ⟨k, h3, h4⟩ := ih1 h1
    exact ⟨k, h3, h4.trans h2⟩
/-- sorted(xs), xs a list of moves: a new list of the same moves, in some order -/
def rSortM (K : PySem.W.Frag) : List V → Hp → VK → Prop := fun vs H Q => ∃ (a : Addr) (xs : List V) (M : List Move), vs = [V.ref a] ∧ SqL K H a xs ∧ Paired (MoveAt H) xs M ∧ (∀ m ∈ M, DeedOk m.1) ∧
  ∀ ys M' p, Paired (MoveAt H) ys M' → M'.Perm M → H p = none → Q (.ref p) (upd H p (.lst ys))
section
variable {X : Cx} {K : PySem.W.Frag}
theorem MoveAt.val {pn : List (Addr × Obj)} {σ : L2.St} {H : Hp} {s : Shared} (I : Inv X pn σ H s) {v : V} {u : Value} {m : Move} (h : MoveAt H v m) (r : RelV v u) : MvV s.heap u m := by
  obtain ⟨a, uv, rfl, ha, b, rfl, hb⟩ := h
  obtain rfl : u = Value.ref a := r
  obtain ⟨_, its, wv, o, ho, hc, n, hd⟩ := I.hok _ _ ha
  obtain ⟨u1, u2, rfl, r1, r2⟩ := vals2 wv
  obtain rfl : u1 = Value.ref b := r1
  obtain ⟨t, rfl⟩ := r2
  obtain ⟨_, its2, rv2, o2, ho2, hc2, n2, hd2⟩ := I.hok _ _ hb
  cases rv2 with
  | cons r1 rv2 =>
    cases rv2 with
    | cons r2 rv2 =>
      cases rv2 with
      | cons r3 rv2 =>
        cases rv2
        obtain ⟨t1, rfl⟩ := r1
        obtain ⟨t2, rfl⟩ := r2
        exact ⟨a, o, n, .ref b, t, rfl, ho, hc, hd, b, o2, n2, t1, t2, _, rfl, ho2, hc2, hd2, r3⟩
theorem call_sortM (hu : X.A.units + 64 < cLine) (hk : X.K = K := by rfl) : CallR X (.builtin "sorted") (rSortM K) := by
  subst hk
  intro pn s σ H vs us Q I r h
  obtain ⟨a, xs, M, rfl, hs, hP, hok, qq⟩ := h
  obtain ⟨its, wv, hl, hz⟩ := I.list hs
  obtain ⟨u, rfl, wu⟩ := vals1 r
  obtain rfl : u = Value.ref a := wu
  have refs : ∀ x ∈ xs, ∃ t, x = V.ref t := fun x hx => by
    obtain ⟨i, hi⟩ := List.getElem?_of_mem hx
    have hl' := (List.getElem?_eq_some_iff.mp hi).1
    rw [paired_len hP] at hl'
    obtain ⟨x', hx', t, _, e, _⟩ := paired_getR hP (List.getElem?_eq_getElem hl')
    rw [hi] at hx'
    exact ⟨t, by rw [Option.some.inj hx', e]⟩
  obtain ⟨eq1, eq2⟩ := refs_back wv refs
  have vals : ∀ v ∈ its, ∃ m, MvV s.heap v m ∧ DeedOk m.1 ∧ mvOf s.heap v = mcode m := fun v hv => by
    obtain ⟨t, rfl⟩ := eq2 v hv
    have hmm : V.ref t ∈ xs := by rw [eq1]; exact List.mem_map.mpr ⟨_, hv, rfl⟩
    obtain ⟨i, hi⟩ := List.getElem?_of_mem hmm
    have hl' := (List.getElem?_eq_some_iff.mp hi).1
    rw [paired_len hP] at hl'
    have hM := List.getElem?_eq_getElem hl'
    obtain ⟨x', hx', hmv⟩ := paired_getR hP hM
    rw [hi] at hx'
    rw [← Option.some.inj hx'] at hmv
    have y := hmv.val I (u := .ref t) rfl
    have ok := hok _ (List.mem_of_getElem? hM)
    exact ⟨_, y, ok, mvOf_eq y ok⟩
  refine SrtO.sorted_ord (NtL.swo_lexL (mvOf s.heap)) hl.isList (by rw [← wv.length]; exact hz) (fun h2 h₁ b hb kk => ?_) fun out hs2 hb => ?_
  · refine move_sortable (s := { s with heap := h₁ }) (by show X.A.units + 1 + 1 + 9 < cLine; omega) (by omega) (fun v hv => ?_) fun o e => ?_
    · obtain ⟨m, x, ok, e⟩ := vals v hv
      exact ⟨m, x.keeps fun b o e _ => (kk b o e).2, ok, e⟩
    · have e' : some o = some (seqObj "list" its.toArray 0) := e.symm.trans hb
      cases e'
      intro c
      exact absurd (Value.type.inj c) (by decide)
  · have hp : (out.map backV).Perm xs := by
      rw [eq1]
      exact hb.perm.map backV
    obtain ⟨M', h1, h2⟩ := paired_perm hp hP
    have h3 : ∀ u ∈ out, ∃ a, u = Value.ref a := fun u hu => eq2 u (hb.perm.mem_iff.mp hu)
    have kp : ∀ b o, s.heap.get? b = some o → (sortedAll s.heap its out.toArray).get? b = some o := fun b o e => sortedAll_old e
    obtain ⟨n, hn⟩ := sortedAll_at s.heap its out.toArray
    refine ⟨.ref (s.heap.objs.size + 1), upd H (s.heap.objs.size + 1) (.lst (out.map backV)), I.laid (t' := s.toks) kp (Nat.le_succ _) ⟨?_, out, n, vals_back h3, hn⟩, rfl, qq _ M' _ h1 h2 (I.hok.fresh (Nat.le_succ _))⟩
    rw [hp.length_eq]
    exact hz
end
end Ct
/-! lookers. -/
namespace Ct
open PySem PySem.Spec PyProof.Rows L2 Nd
open CM (InR Wf Qt Rep row reps)
def vis (ds : List Deed) : List Deed := ds.filter fun d => !hid d
/-- lists of ints beside their values, none of them at sn, ro, mo -/
def SeenIn (H : Hp) (bad : List Addr) (sv : List V) (L : List (List Int)) : Prop := Paired (fun v l => IntsAt H v l ∧ ∀ b ∈ bad, v ≠ .ref b) sv L
theorem SeenIn.grow {H H' : Hp} {bad : List Addr} {sv : List V} {L : List (List Int)} (h : SeenIn H bad sv L) (s : Same H H') : SeenIn H' bad sv L := Paired.mapP h fun _ _ q => ⟨q.1.mono s, q.2⟩
theorem SeenIn.upd {H : Hp} {bad : List Addr} {sv : List V} {L : List (List Int)} {D : Addr} {o : HO} (h : SeenIn H bad sv L) (hD : D ∈ bad) : SeenIn (L2.upd H D o) bad sv L := Paired.mapP h fun _ _ q => ⟨q.1.upd (q.2 D hD), q.2⟩
theorem SeenIn.less {H : Hp} {bad bad' : List Addr} {sv : List V} {L : List (List Int)} (h : SeenIn H bad sv L) (hb : ∀ b ∈ bad', b ∈ bad) : SeenIn H bad' sv L := Paired.mapP h fun _ _ q => ⟨q.1, fun b x => q.2 b (hb b x)⟩
theorem SeenIn.more {H : Hp} {bad : List Addr} {sv : List V} {L : List (List Int)} {m : Addr} (h : SeenIn H bad sv L) (hm : H m = none) : SeenIn H (m :: bad) sv L := Paired.mapP h fun v l q => ⟨q.1, fun b x => by
  rcases List.mem_cons.mp x with rfl | x
  · rintro rfl
    obtain ⟨a, e, h⟩ := q.1
    injection e with e
    subst e
    rw [hm] at h
    cases h
  · exact q.2 b x⟩
def RwsIn (H : Hp) (bad : List Addr) (ms : List V) (R : Rows) : Prop := Paired (fun v l => MovesAt H v l ∧ ∀ b ∈ bad, v ≠ .ref b) ms R
theorem RwsIn.grow {H H' : Hp} {bad : List Addr} {ms : List V} {R : Rows} (h : RwsIn H bad ms R) (s : Same H H') : RwsIn H' bad ms R := Paired.mapP h fun _ _ q => ⟨q.1.mono s, q.2⟩
theorem RwsIn.upd {H : Hp} {bad : List Addr} {ms : List V} {R : Rows} {D : Addr} {o : HO} (h : RwsIn H bad ms R) (hD : D ∈ bad) (ht : ∀ xs, H D ≠ some (.tup xs)) : RwsIn (L2.upd H D o) bad ms R := Paired.mapP h fun _ _ q => ⟨q.1.upd (q.2 D hD) ht, q.2⟩
theorem RwsIn.less {H : Hp} {bad bad' : List Addr} {ms : List V} {R : Rows} (h : RwsIn H bad ms R) (hb : ∀ b ∈ bad', b ∈ bad) : RwsIn H bad' ms R := Paired.mapP h fun _ _ q => ⟨q.1, fun b x => q.2 b (hb b x)⟩
theorem RwsIn.more {H : Hp} {bad : List Addr} {ms : List V} {R : Rows} {m : Addr} (h : RwsIn H bad ms R) (hm : H m = none) : RwsIn H (m :: bad) ms R := Paired.mapP h fun v l q => ⟨q.1, fun b x => by
  rcases List.mem_cons.mp x with rfl | x
  · rintro rfl
    obtain ⟨a, vs, e, h, _⟩ := q.1
    injection e with e
    subst e
    rw [hm] at h
    cases h
  · exact q.2 b x⟩
theorem find_idx : ∀ {L : List (List Int)} {l : List Int}, l ∈ L → ∃ j : Nat, L[j]? = some l ∧ ∀ (m : Nat) (z : List Int), m < j → L[m]? = some z → z ≠ l
  | [], _, h => absurd h List.not_mem_nil
  | x :: L, l, h => by
    by_cases e : x = l
    · exact ⟨0, by rw [e]; rfl, fun m z hm => absurd hm (Nat.not_lt_zero _)⟩
    · obtain ⟨j, h1, h2⟩ := find_idx ((List.mem_cons.mp h).resolve_left fun q => e q.symm)
      refine ⟨j + 1, by simpa using h1, fun m z hm hz => ?_⟩
      cases m with
      | zero =>
        simp at hz
        exact hz ▸ e
      | succ m => exact h2 m z (by omega) (by simpa using hz)
theorem shaped_lists (L : List (List Int)) : SeqAt.shaped (.list (L.map intsD)) = true := by
  refine Ly.shaped (n := 2) (ly_list fun d hd => ?_) (by decide)
  obtain ⟨e, he, rfl⟩ := List.mem_map.mp hd
  exact ly_ints e
section
variable {P : Program} {w : World} {K : PySem.W.Frag} {mg : Str → Option Value} {base : Heap}
def spLookers : Sp := fun vs H Q _ => ∃ (c : Int) (r mv : V) (R : Rows) (ds : List Deed), vs = [.int c, r, mv] ∧ 0 ≤ c ∧ RowsAt H r R ∧ Good ds R ∧ R.length ≤ 6 ∧ MenuAt H mv ds ∧ MenuOk ds ∧ RowsTo H Q fun S => Good ds S ∧ S.length ≤ 8
theorem sc__law_lookers : FnScope (["_law_cell_here", "_law_high", "_law_menu_here", "_law_deeds", "_law_table_here", "_law_draws_here", "_law_seen", "_law_rows", "_law_k", "_law_moves", "_law_j", "_law_there", "_law_deed"] : List Str) ["_law_cell_here", "_law_high", "_law_menu_here"] (defScope s_lookers_L) := ⟨rfl, rfl, rfl, by decide +kernel, rfl, by decide +kernel, by decide +kernel⟩
theorem ok_lookers (F : TF K "_law_lookers" s_lookers_L) (T : Tx K mg) (D__law_draws : DOk P w K mg base 1 "_law_draws" ["_law_cell_here", "_law_spans"] spDraws)
    (D__law_table : DOk P w K mg base 3 "_law_table" ["_law_rows", "_law_deeds"] (spTable w)) (D__law_union : DOk P w K mg base 1 "_law_union" ["_law_table_here", "_law_here", "_law_deed"] (spUnion w)) :
    DOk P w K mg base 4 "_law_lookers" ["_law_cell_here", "_law_high", "_law_menu_here"] spLookers := by
  refine dok F T.g__law_lookers sc__law_lookers (fun vs H Q E h => ?_) (fun _ _ _ _ _ _ us hl => match us, hl with | [_, _, _], _ => rfl) (fun cdv A outer s H vs Q E hr h => ?_)
  · obtain ⟨c, r, mv, R, ds, rfl, _⟩ := h
    rfl
  obtain ⟨c, r, mv, R, ds, rfl, hc, hR, g, h6, hM, mk, k⟩ := h
  obtain ⟨ra, rs, rfl, hra, hrP⟩ := id hR
  obtain ⟨me, dvs, rfl, hme, hdP⟩ := id hM
  have hpos := g.pos
  have hd8 := mk.le
  have hvl : (vis ds).length ≤ 5 := mk.few
  have hvd : ∀ d ∈ vis ds, d ∈ ds ∧ hid d = false := fun d hd => ⟨(List.mem_filter.mp hd).1, by have := (List.mem_filter.mp hd).2; simpa using this⟩
  have hvn : (vis ds).Nodup := List.Sublist.nodup List.filter_sublist mk.nd
  have hu65 := hu65_of hr
  refine ⟨_, (pss_cons (ps_setLc (i := 3) (own := [("_law_deed", 12)]) rfl sc__law_lookers.nd rfl rfl (sw_true rfl rfl rfl (by decide +kernel)) (pi_list (pv 2)) (blkOk_by (N := (["_law_cell_here", "_law_high", "_law_menu_here", "_law_deeds", "_law_table_here", "_law_draws_here", "_law_seen", "_law_rows", "_law_k", "_law_moves", "_law_j", "_law_there", "_law_deed"] : List Str)) (sc := defScope s_lookers_L) (by decide +kernel)) (fun _ _ _ _ _ => (pg_name (i := 12) sc__law_lookers.nd rfl (Or.inl rfl))) (fun _ _ _ _ _ => (pts_one (pt_cmpR op_ne (pe_ix (ix_tupK (K := K)) (pv 12) pe_int (fun _ _ => rfl)) pe_str (nomark _)))) (fun _ _ _ _ _ => (pv 12)))
    (pss_cons (ps_set (i := 4) sc__law_lookers.nd rfl (Or.inl rfl) (pe_d D__law_table (hr.mono (by decide)) (by rfl) (pa_cons (pv 1) (pa_cons (pv 3) pa_nil))))
    (pss_cons (ps_set (i := 5) sc__law_lookers.nd rfl (Or.inl rfl) (pe_d D__law_draws (hr.mono (by decide)) (by rfl) (pa_cons (pv 0) (pa_cons (pe_op op_rep (pe_lst (pa_cons pe_int pa_nil)) pe_int) pa_nil))))
    (pss_cons (ps_set (i := 6) sc__law_lookers.nd rfl (Or.inl rfl) (pe_lst (pa_cons (pe_lst (pa_cons pe_int pa_nil)) pa_nil)))
    (pss_cons (ps_set (i := 7) sc__law_lookers.nd rfl (Or.inl rfl) (pe_lst pa_nil))
    (pss_cons (ps_for PassesOwn.never rfl (pi_range1 rfl T.f_range (pa_cons pe_int pa_nil)) (pg_name (i := 8) sc__law_lookers.nd rfl (Or.inl rfl)) (pss_cons (ps_set (i := 9) sc__law_lookers.nd rfl (Or.inl rfl) (pe_lst pa_nil))
    (pss_cons (ps_for PassesOwn.never rfl (pi_range1 rfl T.f_range (pa_cons (pe_callB call_len_seq (by rfl) T.f_len (by decide +kernel) (pa_cons (pv 3) pa_nil)) pa_nil)) (pg_name (i := 10) sc__law_lookers.nd rfl (Or.inl rfl)) (pss_cons (ps_set (i := 11) sc__law_lookers.nd rfl (Or.inl rfl) (pe_lst pa_nil))
    (C8.pss_cut (ps_if (pt_cmpR op_lt (pv 8) (pe_callB call_len_seq (by rfl) T.f_len (by decide +kernel) (pa_cons (pv 6) pa_nil)) (nomark _)) (pss_one (ps_set (i := 11) sc__law_lookers.nd rfl (Or.inl rfl) (pe_d D__law_union (hr.mono (by decide)) (by rfl) (pa_cons (pv 4) (pa_cons (pe_ix ix_list (pv 6) (pv 8) (fun _ _ => rfl)) (pa_cons (pe_ix ix_list (pv 3) (pv 10) (fun _ _ => rfl)) pa_nil)))))) pss_nil)
    (pss_one (ps_if (PW.pt (pw_and (pt_cmpR op_gt (pe_callB call_len_seq (by rfl) T.f_len (by decide +kernel) (pa_cons (pv 11) pa_nil)) pe_int (nomark _)) (pw_and1 (pt_cmpR op_gt (pe_ix ix_list (pv 5) (pe_op op_add (pe_op op_mul pe_int (pv 8)) (pv 10)) (fun _ _ => rfl)) pe_int (nomark _))))) (C8.pss_cut (ps_if (PW.pt (pw_and (pt_cmpR (op_notInD hu65) (pv 11) (pv 6) (by rfl)) (pw_and1 (pt_cmpR op_lt (pe_callB call_len_seq (by rfl) T.f_len (by decide +kernel) (pa_cons (pv 6) pa_nil)) pe_int (nomark _))))) (pss_one (ps_expr (pe_bm PySem.F.plainAttrs_list PySem.F.slot_list_append PySem.F.type_list_append mt_append (pv 6) (pa_cons (pv 11) pa_nil)))) pss_nil)
    (pss_one (ps_if (pt_cmpR (op_inD hu65) (pv 11) (pv 6) (by rfl)) (pss_one (ps_expr (pe_bm PySem.F.plainAttrs_list PySem.F.slot_list_append PySem.F.type_list_append mt_append (pv 9) (pa_cons (pe_tup (pa_cons (pe_ix ix_list (pv 3) (pv 10) (fun _ _ => rfl)) (pa_cons (pe_bm PySem.F.plainAttrs_list PySem.F.slot_list_index PySem.F.type_list_index (mt_indexD hu65) (pv 6) (pa_cons (pv 11) pa_nil)) pa_nil))) pa_nil)))) pss_nil))) pss_nil)))))
    (pss_one (ps_expr (pe_bm PySem.F.plainAttrs_list PySem.F.slot_list_append PySem.F.type_list_append mt_append (pv 7) (pa_cons (pv 9) pa_nil)))))))
    (pss_one (ps_ret (pe_slice sl_list (pv 7) po_none (po_some (pe_callB call_len_seq (by rfl) T.f_len (by decide +kernel) (pa_cons (pv 6) pa_nil)))))))))))), ?_⟩
  refine ⟨_, rfl, me, rfl, ⟨_, SqL.of hme⟩, fun D hD => ?_⟩
  refine lc_filter (F := DeedAt) (b := 12) (p := fun d => !hid d) hme hdP (by omega) hD (fun t h => h.mono t) (fun v x H' Qb s h hx hq => ?_) (fun H1 dv2 s1 hdv hvP => ?_)
  · obtain ⟨z, rfl, hz⟩ := h
    refine ⟨_, rfl, z, _, 1, _, rfl, rfl, SqT.of hz, rfl, rfl, _, rfl, ?_⟩
    rw [← hid_eq]
    exact hq
  have hvP : Paired (DeedAt H1) dv2 (vis ds) := hvP
  have hvpl := paired_len hvP
  refine ⟨_, rfl, _, rfl, .ref ra, R, .ref D, vis ds, rfl, hR.mono s1, g.wf, by omega, g.ok mk, ⟨D, dv2, rfl, hdv, hvP⟩, fun d hd => mk.ok d (hvd d hd).1, by omega, fun t H2 ht s2 tab => ?_⟩
  have s12 := s1.trans s2
  refine ⟨_, rfl, szk 1 rfl, fun p1 hp1 => ?_⟩
  have s3 : Same H2 (upd H2 p1 (.lst [.int 5])) := Same.new1 hp1
  refine ⟨p1, 40, _, rfl, rfl, upd_same, by decide, by decide, szL (by decide), fun p2 hp2 => ?_⟩
  have s4 : Same (upd H2 p1 (.lst [.int 5])) (upd (upd H2 p1 (.lst [.int 5])) p2 (.lst ((List.replicate 40 (5 : Int)).map V.int))) := Same.new1 hp2
  refine ⟨c, p2, List.replicate 40 5, rfl, upd_same, by rw [List.length_replicate]; decide, fun s hs => by rw [List.eq_of_mem_replicate hs]; decide, hc, fun dr dp H4 hdp s5 hdr hdw => ?_⟩
  have s15 := s12.trans (s3.trans (s4.trans s5))
  have s25 := s3.trans (s4.trans s5)
  refine ⟨szk 1 rfl, fun z0 hz0 => ?_⟩
  have s6 : Same H4 (upd H4 z0 (.lst [.int 0])) := Same.new1 hz0
  refine ⟨szk 1 rfl, fun sn hsn => ?_⟩
  have s7 : Same (upd H4 z0 (.lst [.int 0])) (upd (upd H4 z0 (.lst [.int 0])) sn (.lst [.ref z0])) := Same.new1 hsn
  refine ⟨Nat.zero_le _, fun ro hro => ?_⟩
  have s8 : Same (upd (upd H4 z0 (.lst [.int 0])) sn (.lst [.ref z0])) (upd (upd (upd H4 z0 (.lst [.int 0])) sn (.lst [.ref z0])) ro (.lst [])) := Same.new1 hro
  have hsn4 : H4 sn = none := fresh_back s6 hsn
  have hro4 : H4 ro = none := fresh_back (s6.trans s7) hro
  have hsn0 : H sn = none := fresh_back s15 hsn4
  have hro0 : H ro = none := fresh_back s15 hro4
  have hrs : ro ≠ sn := by rintro rfl; rw [upd_same] at hro; cases hro
  have hzs : z0 ≠ sn := by rintro rfl; rw [upd_same] at hsn; cases hsn
  have hzr : z0 ≠ ro := by rintro rfl; rw [s7 _ _ upd_same] at hro; cases hro
  let Core := fun (bad : List Addr) (k : Nat) (H5 : Hp) => Same H4 H5 ∧ ∃ (sv rv : List V) (L : List (List Int)) (S : Rows), H5 sn = some (.lst sv) ∧ SeenIn H5 bad sv L ∧ (∀ l ∈ L, ∀ i ∈ l, InR R.length i) ∧ 1 ≤ L.length ∧ L.length ≤ 8 ∧
    H5 ro = some (.lst rv) ∧ RwsIn H5 bad rv S ∧ Gd ds L.length S ∧ S.length = k
  refine ⟨_, rfl, by decide, by decide, ?_⟩
  refine for_range (n := 8) (Pv := fun k σ H5 => ∃ (o8 o9 o10 o11 : Option V), σ = [some (.int c), some (.ref ra), some (.ref me), some (.ref D), some (.ref t), some (.ref dp), some (.ref sn), some (.ref ro), o8, o9, o10, o11, none] ∧ Core [sn, ro] k H5)
    ⟨_, _, _, _, rfl, s6.trans (s7.trans s8), [.ref z0], [], [[0]], [], s8 _ _ upd_same, ?_, ?_, by decide, by decide, upd_same, .nil, fun ms h => absurd h List.not_mem_nil, rfl⟩ ?_ ?_
  · refine .cons ⟨⟨z0, rfl, s8 _ _ (s7 _ _ upd_same)⟩, fun b hb => ?_⟩ .nil
    simp only [List.mem_cons, List.not_mem_nil, or_false] at hb
    rcases hb with rfl | rfl
    · exact fun e => hzs (V.ref.inj e)
    · exact fun e => hzr (V.ref.inj e)
  · intro l hl i hi
    rw [List.mem_singleton] at hl
    subst hl
    rw [List.mem_singleton] at hi
    subst hi
    exact ⟨by decide, by omega⟩
  · rintro k' σ H5 hk' ⟨o8, o9, o10, o11, rfl, s9, sv, rv, L, S, hs5, hS, hLr, hL1, hL8, hr5, hRI, hG, hSl⟩
    refine ⟨Nat.zero_le _, fun mo hmo => ?_⟩
    have s10 : Same H5 (upd H5 mo (.lst [])) := Same.new1 hmo
    have hmo4 : H4 mo = none := fresh_back s9 hmo
    have hms : mo ≠ sn := by rintro rfl; rw [hs5] at hmo; cases hmo
    have hmr : mo ≠ ro := by rintro rfl; rw [hr5] at hmo; cases hmo
    refine ⟨_, rfl, D, _, rfl, .inl (SqL.of (s10 _ _ (s9 _ _ (s25 _ _ (s2 _ _ hdv))))), _, rfl, by omega, by omega, ?_⟩
    rw [show (((dv2.length : Nat) : Int)).toNat = (vis ds).length by rw [hvpl]; omega]
    let In := fun (j : Nat) (H6 : Hp) => Core [mo, sn, ro] k' H6 ∧ ∃ (mvs : List V) (M : List Move) (sv : List V), H6 mo = some (.lst mvs) ∧ Paired (MoveAt H6) mvs M ∧ (M.map Prod.fst).Sublist ((vis ds).take j) ∧ H6 sn = some (.lst sv) ∧ ∀ m ∈ M, InR sv.length m.2
    refine for_range (Pv := fun j σ H6 => ∃ (o10 o11 : Option V), σ = [some (.int c), some (.ref ra), some (.ref me), some (.ref D), some (.ref t), some (.ref dp), some (.ref sn), some (.ref ro), some (.int (0 + (k' : Int))), some (.ref mo), o10, o11, none] ∧ In j H6)
      ⟨_, _, rfl, ⟨s9.trans s10, sv, rv, L, S, s10 _ _ hs5, (hS.more hmo).grow s10, hLr, hL1, hL8, s10 _ _ hr5, (hRI.more hmo).grow s10, hG, hSl⟩, [], [], sv, upd_same, .nil, List.nil_sublist _, s10 _ _ hs5, fun m h => absurd h List.not_mem_nil⟩ ?_ ?_
    · rintro j σ H6 hj ⟨o10, o11, rfl, ⟨s11, sv, rv, L, S, hs6, hS, hLr, hL1, hL8, hr6, hRI, hG, hSl⟩, mvs, M, sv', hm6, hMP, hMs, hs6', hMr⟩
      rw [hs6] at hs6'
      obtain rfl := HO.lst.inj (Option.some.inj hs6')
      have hsl := paired_len hS
      have hdj : (vis ds)[j]? = some (vis ds)[j] := List.getElem?_eq_getElem hj
      generalize (vis ds)[j] = d at hdj
      obtain ⟨dv, hdvj, hda0⟩ := paired_getR hvP hdj
      have hdm := List.mem_of_getElem? hdj
      have s211 := s25.trans s11
      have hda : DeedAt H6 dv d := hda0.mono (Tups.same (s2.trans s211))
      have hatd : ∀ {H7 : Hp}, Same H6 H7 → SqL K H7 D dv2 := fun s => SqL.of (s _ _ (s11 _ _ (s25 _ _ (s2 _ _ hdv))))
      have hati : atI dv2 (0 + (j : Int)) = some dv := atI_of (by omega) (by rw [show (0 + (j : Int)).toNat = j by omega]; exact hdvj)
      refine ⟨Nat.zero_le _, fun th0 hth0 => ?_⟩
      have s12' : Same H6 (upd H6 th0 (.lst [])) := Same.new1 hth0
      -- the set that it looks at
      refine ⟨fun σ H7 => ∃ (th : Addr) (l : List Int), σ = [some (.int c), some (.ref ra), some (.ref me), some (.ref D), some (.ref t), some (.ref dp), some (.ref sn), some (.ref ro), some (.int (0 + (k' : Int))), some (.ref mo), some (.int (0 + (j : Int))), some (.ref th), none] ∧
        Same H6 H7 ∧ H6 th = none ∧ H7 th = some (.lst (l.map V.int)) ∧ ∀ i ∈ l, InR R.length i, ?_, ?_⟩
      · refine ⟨_, rfl, _, rfl, sn, _, rfl, .inl (SqL.of (s12' _ _ hs6)), _, _, rfl, rfl, _, rfl, ite2 (fun hlt => ?_) (fun _ => ⟨th0, [], rfl, s12', hth0, upd_same, fun i h => absurd h List.not_mem_nil⟩)⟩
        have hlt : 0 + (k' : Int) < ((sv.length : Nat) : Int) := of_decide_eq_true hlt
        have hLk : L[k']? = some (L[k']'(by omega)) := List.getElem?_eq_getElem _
        generalize (L[k']'_) = lk at hLk
        obtain ⟨av, hav, ⟨a, rfl, ha⟩, _⟩ := paired_getR hS hLk
        refine ⟨_, rfl, _, rfl, _, rfl, sn, _, _, _, rfl, rfl, SqL.of (s12' _ _ hs6), atI_of (by omega) (by rw [show (0 + (k' : Int)).toNat = k' by omega]; exact hav), _, rfl, _, rfl, D, _, _, _, rfl, rfl, hatd s12', hati, ?_⟩
        refine ⟨t, .ref a, dv, R, vis ds, lk, d, rfl, (tab.mono s211).mono s12', g.wf, by omega, ⟨a, rfl, s12' _ _ ha⟩, hLr _ (List.mem_of_getElem? hLk), hda.mono (Tups.same s12'), hdm, (hvd d hdm).2, fun l q H7 hq s13 hq7 hl => ?_⟩
        exact ⟨q, l, rfl, s12'.trans s13, fresh_back s12' hq, hq7, hl⟩
      rintro σ H7 ⟨th, l, rfl, s13, hth6, hth, hlr⟩
      have hts : th ≠ sn := by rintro rfl; rw [hs6] at hth6; cases hth6
      have htr : th ≠ ro := by rintro rfl; rw [hr6] at hth6; cases hth6
      have htm : th ≠ mo := by rintro rfl; rw [hm6] at hth6; cases hth6
      have hS7 := hS.grow s13
      have hRI7 := hRI.grow s13
      have hMP7 := moves_all hMP (Tups.same s13)
      have htk : (vis ds).take (j + 1) = (vis ds).take j ++ [d] := by rw [List.take_add_one, hdj]; rfl
      have hMl : M.length ≤ 5 := by
        have := hMs.length_le
        rw [List.length_map, List.length_take] at this
        omega
      have skip : ∀ (σ : L2.St), σ = [some (.int c), some (.ref ra), some (.ref me), some (.ref D), some (.ref t), some (.ref dp), some (.ref sn), some (.ref ro), some (.int (0 + (k' : Int))), some (.ref mo), some (.int (0 + (j : Int))), some (.ref th), none] →
          ∃ (o10 o11 : Option V), σ = [some (.int c), some (.ref ra), some (.ref me), some (.ref D), some (.ref t), some (.ref dp), some (.ref sn), some (.ref ro), some (.int (0 + (k' : Int))), some (.ref mo), o10, o11, none] ∧ In (j + 1) H7 := fun σ e =>
        ⟨_, _, e, ⟨s11.trans s13, sv, rv, L, S, s13 _ _ hs6, hS7, hLr, hL1, hL8, s13 _ _ hr6, hRI7, hG, hSl⟩, mvs, M, sv, s13 _ _ hm6, hMP7, by rw [htk]; exact hMs.trans (List.sublist_append_left _ _), s13 _ _ hs6, hMr⟩
      obtain ⟨x, hx, bx⟩ := hdw.get (i := 5 * k' + j) (s := 5) (by rw [List.getElem?_replicate, if_pos (by omega)])
      refine ⟨_, rfl, th, _, rfl, .inl (SqL.of hth), _, _, rfl, rfl, _, rfl, ite2 (fun _ => ?_) (fun _ => iteF (skip _ rfl))⟩
      refine ⟨_, rfl, _, rfl, _, _, rfl, rfl, .inl ⟨by decide, by decide⟩, _, rfl, _, _, rfl, rfl, dp, _, _, _, rfl, rfl, SqL.of (s13 _ _ (s11 _ _ hdr)), ints_at hx (by omega), _, _, rfl, rfl, _, rfl, ite2 (fun _ => ?_) (fun _ => skip _ rfl)⟩
      -- the list of sets, grown or not
      have dpS : ∀ {H : Hp} {bad : List Addr} {sv : List V} {L : List (List Int)}, SeenIn H bad sv L → H sn = some (.lst sv) → Dp K H (.ref sn) (.list (L.map intsD)) := fun h e => .lst (SqL.of e) (dpAll_map (F := fun v l => IntsAt _ v l ∧ _) (fun _ _ q => q.1.dp) h)
      have dpT : ∀ {H : Hp}, H th = some (.lst (l.map V.int)) → Dp K H (.ref th) (intsD l) := fun e => IntsAt.dp ⟨th, rfl, e⟩
      refine ⟨fun σ H8 => σ = [some (.int c), some (.ref ra), some (.ref me), some (.ref D), some (.ref t), some (.ref dp), some (.ref sn), some (.ref ro), some (.int (0 + (k' : Int))), some (.ref mo), some (.int (0 + (j : Int))), some (.ref th), none] ∧
        ∃ (sv' : List V) (L' : List (List Int)), Same H4 H8 ∧ H8 D = some (.lst dv2) ∧ DeedAt H8 dv d ∧ H8 sn = some (.lst sv') ∧ SeenIn H8 [mo, sn, ro] sv' L' ∧ (∀ l ∈ L', ∀ i ∈ l, InR R.length i) ∧ L.length ≤ L'.length ∧ L'.length ≤ 8 ∧
          H8 ro = some (.lst rv) ∧ RwsIn H8 [mo, sn, ro] rv S ∧ H8 mo = some (.lst mvs) ∧ Paired (MoveAt H8) mvs M ∧ H8 th = some (.lst (l.map V.int)), ?_, ?_⟩
      · have stay : ∃ (sv' : List V) (L' : List (List Int)), Same H4 H7 ∧ H7 D = some (.lst dv2) ∧ DeedAt H7 dv d ∧ H7 sn = some (.lst sv') ∧ SeenIn H7 [mo, sn, ro] sv' L' ∧ (∀ l ∈ L', ∀ i ∈ l, InR R.length i) ∧ L.length ≤ L'.length ∧ L'.length ≤ 8 ∧
            H7 ro = some (.lst rv) ∧ RwsIn H7 [mo, sn, ro] rv S ∧ H7 mo = some (.lst mvs) ∧ Paired (MoveAt H7) mvs M ∧ H7 th = some (.lst (l.map V.int)) :=
          ⟨sv, L, s11.trans s13, s13 _ _ (s11 _ _ (s25 _ _ (s2 _ _ hdv))), hda.mono (Tups.same s13), s13 _ _ hs6, hS7, hLr, Nat.le_refl _, hL8, s13 _ _ hr6, hRI7, s13 _ _ hm6, hMP7, hth⟩
        refine ⟨_, rfl, _, rfl, intsD l, L.map intsD, dpT hth, dpS hS7 (s13 _ _ hs6), (ly_ints l).shaped (by decide), shaped_lists L, _, rfl, ite2 (fun hn => ?_) (fun _ => iteF ⟨rfl, stay⟩)⟩
        refine ⟨_, rfl, sn, _, rfl, .inl (SqL.of (s13 _ _ hs6)), _, _, rfl, rfl, _, rfl, ite2 (fun hl => ?_) (fun _ => ⟨rfl, stay⟩)⟩
        have hl : ((sv.length : Nat) : Int) < 8 := of_decide_eq_true hl
        have h7s := s13 _ _ hs6
        refine ⟨_, rfl, tyL h7s, _, rfl, sn, _, _, rfl, rfl, h7s, szLt (by omega), rfl, ?_⟩
        have nt := not_tup h7s
        have hDs : D ≠ sn := by rintro rfl; rw [s2 _ _ hdv |> s25 _ _] at hsn4; cases hsn4
        refine ⟨sv ++ [.ref th], L ++ [l], Same.mut (s11.trans s13) hsn4, ?_, (hda.mono (Tups.same s13)).mono (Tups.upd nt), upd_same, ?_, ?_, ?_, ?_, ?_, hRI7.upd (by simp) nt, ?_, moves_all hMP7 (Tups.upd nt), ?_⟩
        · rw [upd_ne hDs]
          exact s13 _ _ (s11 _ _ (s25 _ _ (s2 _ _ hdv)))
        · refine paired_snoc (hS7.upd (by simp)) ⟨⟨th, rfl, by rw [upd_ne hts]; exact hth⟩, fun b hb => ?_⟩
          simp only [List.mem_cons, List.not_mem_nil, or_false] at hb
          rcases hb with rfl | rfl | rfl
          · exact fun e => htm (V.ref.inj e)
          · exact fun e => hts (V.ref.inj e)
          · exact fun e => htr (V.ref.inj e)
        · intro l' hl' i hi
          rw [List.mem_append, List.mem_singleton] at hl'
          rcases hl' with hl' | rfl
          · exact hLr l' hl' i hi
          · exact hlr i hi
        · rw [List.length_append]; omega
        · rw [List.length_append, List.length_singleton]; omega
        · rw [upd_ne hrs]
          exact s13 _ _ hr6
        · rw [upd_ne hms]
          exact s13 _ _ hm6
        · rw [upd_ne hts]
          exact hth
      rintro σ H8 ⟨rfl, sv', L', s14, hD8, hda8, hs8, hS8, hLr8, hLL, hL88, hr8, hRI8, hm8, hMP8, hth8⟩
      have hsl8 := paired_len hS8
      have hG8 : Gd ds L'.length S := fun ms h => ⟨(hG ms h).1, fun m hm => ⟨((hG ms h).2 m hm).1, ⟨((hG ms h).2 m hm).2.1, by have := ((hG ms h).2 m hm).2.2; omega⟩⟩⟩
      have hMr8 : ∀ m ∈ M, InR sv'.length m.2 := fun m hm => ⟨(hMr m hm).1, by have := (hMr m hm).2; omega⟩
      refine ⟨_, rfl, _, rfl, intsD l, L'.map intsD, dpT hth8, dpS hS8 hs8, (ly_ints l).shaped (by decide), shaped_lists L', _, rfl, ite2 (fun hin => ?_) (fun _ => ?_)⟩
      · have hin := (any_of eqv_ints' L' l).mp hin
        obtain ⟨ix, hix, hfirst⟩ := find_idx hin
        have hixl := (List.getElem?_eq_some_iff.mp hix).1
        refine ⟨_, rfl, tyL hm8, _, rfl, _, rfl, D, _, _, _, rfl, rfl, SqL.of hD8, hati, ?_⟩
        refine ⟨_, rfl, tyL hs8, _, rfl, sn, .ref th, intsD l, L'.map intsD, ix, intsD l, rfl, rfl, dpS hS8 hs8, dpT hth8, shaped_lists L', (ly_ints l).shaped (by decide), by rw [List.getElem?_map, hix]; rfl, (eqv_ints' l l).mpr rfl, ?_, szk 2 rfl, fun p hp => ?_⟩
        · intro m z' hm hz'
          rw [List.getElem?_map] at hz'
          cases e : L'[m]? with
          | none => rw [e] at hz'; cases hz'
          | some y =>
            rw [e] at hz'
            obtain rfl := Option.some.inj hz'
            rw [← Bool.not_eq_true, eqv_ints']
            exact hfirst m y hm e
        · have s15' : Same H8 (upd H8 p (.tup [dv, .int (ix : Nat)])) := Same.new1 hp
          have hm9 := s15' _ _ hm8
          have nt := not_tup hm9
          refine ⟨mo, _, _, rfl, rfl, hm9, szLt (by rw [paired_len hMP8]; omega), ?_⟩
          refine ⟨_, _, rfl, ⟨Same.mut (s14.trans s15') hmo4, sv', rv, L', S, ?_, (hS8.grow s15').upd (by simp), hLr8, by omega, hL88, ?_, (hRI8.grow s15').upd (by simp) nt, hG8, hSl⟩, mvs ++ [.ref p], M ++ [(d, ((ix : Nat) : Int))], sv', upd_same, ?_, ?_, ?_, ?_⟩
          · rw [upd_ne (Ne.symm hms)]
            exact s15' _ _ hs8
          · rw [upd_ne (Ne.symm hmr)]
            exact s15' _ _ hr8
          · exact paired_snoc (moves_all (moves_all hMP8 (Tups.same s15')) (Tups.upd nt)) (MoveAt.mono ⟨p, dv, rfl, upd_same, hda8.mono (Tups.same s15')⟩ (Tups.upd nt))
          · rw [List.map_append, htk]
            exact List.Sublist.append hMs (List.Sublist.refl _)
          · rw [upd_ne (Ne.symm hms)]
            exact s15' _ _ hs8
          · intro m hm
            rw [List.mem_append, List.mem_singleton] at hm
            rcases hm with hm | rfl
            · exact hMr8 m hm
            · exact ⟨by show (0:Int) ≤ (ix : Nat); omega, by show ((ix : Nat) : Int) < _; omega⟩
      · exact ⟨_, _, rfl, ⟨s14, sv', rv, L', S, hs8, hS8, hLr8, by omega, hL88, hr8, hRI8, hG8, hSl⟩, mvs, M, sv', hm8, hMP8, by rw [htk]; exact hMs.trans (List.sublist_append_left _ _), hs8, hMr8⟩
    · rintro σ H6 ⟨o10, o11, rfl, ⟨s11, sv, rv, L, S, hs6, hS, hLr, hL1, hL8, hr6, hRI, hG, hSl⟩, mvs, M, sv', hm6, hMP, hMs, hs6', hMr⟩
      rw [hs6] at hs6'
      obtain rfl := HO.lst.inj (Option.some.inj hs6')
      have hsl := paired_len hS
      have nt := not_tup hr6
      refine ⟨_, rfl, tyL hr6, _, rfl, ro, _, _, rfl, rfl, hr6, szLt (by rw [paired_len hRI]; omega), ?_⟩
      refine ⟨_, _, _, _, rfl, Same.mut s11 hro4, sv, rv ++ [.ref mo], L, S ++ [M], ?_, (hS.upd (by simp)).less (by simp), hLr, hL1, hL8, upd_same, paired_snoc ((hRI.upd (by simp) nt).less (by simp)) ⟨MovesAt.upd ⟨mo, mvs, rfl, hm6, hMP⟩ (fun e => hmr (V.ref.inj e)) nt, fun b hb => ?_⟩, ?_, by rw [List.length_append, hSl]; rfl⟩
      · rw [upd_ne (Ne.symm hrs)]
        exact hs6
      · simp only [List.mem_cons, List.not_mem_nil, or_false] at hb
        rcases hb with rfl | rfl
        · exact fun e => hms (V.ref.inj e)
        · exact fun e => hmr (V.ref.inj e)
      · intro ms hms'
        rw [List.mem_append, List.mem_singleton] at hms'
        rcases hms' with hms' | rfl
        · exact hG ms hms'
        · have hsub := hMs.trans (List.take_sublist _ _)
          refine ⟨hsub.nodup hvn, fun m hm => ⟨(hvd _ (hsub.subset (List.mem_map_of_mem hm))).1, ?_⟩⟩
          have := hMr m hm
          rw [hsl] at this
          exact this
  · rintro σ H5 ⟨o8, o9, o10, o11, rfl, s9, sv, rv, L, S, hs5, hS, hLr, hL1, hL8, hr5, hRI, hG, hSl⟩
    have hsl := paired_len hS
    refine ⟨_, rfl, _, rfl, sn, _, rfl, .inl (SqL.of hs5), _, rfl, ro, _, rfl, SqL.of hr5, fun q hq => ?_⟩
    have hcut : cutV rv none (some ((sv.length : Nat) : Int)) = rv.take L.length := by
      unfold cutV
      rw [HT.sIx_nat, HT.sIx_none, Nat.sub_zero, List.drop_zero, paired_len hRI, hSl, hsl, Nat.min_eq_left hL8]
    have s10 : Same H5 (upd H5 q (.lst (cutV rv none (some ((sv.length : Nat) : Int))))) := Same.new1 hq
    have hlen : (S.take L.length).length = L.length := by rw [List.length_take]; omega
    refine k q (rv.take L.length) (S.take L.length) _ (fresh_back (s15.trans s9) hq) (s15.trans (s9.trans s10)) (by rw [upd_same, hcut]) ?_ ⟨⟨by rw [hlen]; exact hL1, ?_⟩, by rw [hlen]; exact hL8⟩
    · exact paired_take (Paired.mapP (hRI.grow s10) fun _ _ q => q.1) _
    · rw [hlen]
      exact fun ms h => hG ms (List.mem_of_mem_take h)
end
end Ct
/-! ladder. -/
namespace Ct
open PySem PySem.Spec PyProof.Rows L2 Nd
open CM (InR Wf Qt Rep row reps)
/-- three lists: low, high, menu -/
def WorldTo (H : Hp) (Q : VK) (ds : List Deed) (p : Rows → Rows → Prop) : Prop := ∀ q lv hv mv lo hi H', H q = none → Same H H' → H' q = some (.lst [lv, hv, mv]) → RowsAt H' lv lo → RowsAt H' hv hi → MenuAt H' mv ds → p lo hi → Q (.ref q) H'
/-- each row of high has at most one move, none hidden -/
def Rung (hi : Rows) : Prop := ∀ ms ∈ hi, ms.length ≤ 1 ∧ ∀ m ∈ ms, hid m.1 = false
theorem one_move {H : Hp} {p q : Addr} {v : V} {d : Deed} {n : Int} (hd : DeedAt H v d) (hp : H p = none) (hq : upd H p (.tup [v, .int n]) q = none) :
    Same H (upd (upd H p (.tup [v, .int n])) q (.lst [.ref p])) ∧ MovesAt (upd (upd H p (.tup [v, .int n])) q (.lst [.ref p])) (.ref q) [(d, n)] ∧ H q = none := by
  have s1 : Same H (upd H p (.tup [v, .int n])) := Same.new1 hp
  have s2 : Same (upd H p (.tup [v, .int n])) (upd (upd H p (.tup [v, .int n])) q (.lst [.ref p])) := Same.new1 hq
  exact ⟨s1.trans s2, ⟨q, _, rfl, upd_same, .cons ⟨p, v, rfl, s2 _ _ upd_same, hd.mono (Tups.same (s1.trans s2))⟩ .nil⟩, upd_nil hq⟩
theorem gd_snoc {ds : List Deed} {n : Nat} {R : Rows} {ms : List Move} (h : Gd ds n R) (h1 : (ms.map Prod.fst).Nodup) (h2 : ∀ m ∈ ms, m.1 ∈ ds ∧ InR n m.2) : Gd ds n (R ++ [ms]) := fun x hx => by
  rw [List.mem_append, List.mem_singleton] at hx
  rcases hx with hx | rfl
  · exact h x hx
  · exact ⟨h1, h2⟩
theorem rung_snoc {R : Rows} {ms : List Move} (h : Rung R) (h1 : ms.length ≤ 1) (h2 : ∀ m ∈ ms, hid m.1 = false) : Rung (R ++ [ms]) := fun x hx => by
  rw [List.mem_append, List.mem_singleton] at hx
  rcases hx with hx | rfl
  · exact h x hx
  · exact ⟨h1, h2⟩
theorem RwsIn.fin {H : Hp} {bad : List Addr} {ms : List V} {R : Rows} (h : RwsIn H bad ms R) : Paired (MovesAt H) ms R := Paired.mapP h fun _ _ q => q.1
theorem RwsIn.put {H : Hp} {bad : List Addr} {ms : List V} {R : Rows} {v : V} {l : List Move} {D : Addr} {o : HO} (h : RwsIn H bad ms R) (hD : D ∈ bad) (ht : ∀ xs, H D ≠ some (.tup xs)) (m : MovesAt H v l) (hv : ∀ b ∈ bad, v ≠ .ref b) : RwsIn (L2.upd H D o) bad (ms ++ [v]) (R ++ [l]) :=
  paired_snoc (h.upd hD ht) ⟨m.upd (hv D hD) ht, hv⟩
/-- the k-th row: one visible deed, to the next -/
def Stairs (ds : List Deed) (G : Rows) : Prop := ∀ (k : Nat) (ms : List Move), G[k]? = some ms → ∃ d, ms = [(d, (k : Int) + 1)] ∧ d ∈ ds ∧ hid d = false
theorem Stairs.snoc {ds : List Deed} {G : Rows} {d : Deed} (h : Stairs ds G) (h1 : d ∈ ds) (h2 : hid d = false) : Stairs ds (G ++ [[(d, (G.length : Int) + 1)]]) := fun k ms e => by
  by_cases hk : k < G.length
  · rw [List.getElem?_append_left hk] at e
    exact h k ms e
  · have h3 := (List.getElem?_eq_some_iff.mp e).1
    rw [List.length_append, List.length_singleton] at h3
    have : k = G.length := by omega
    subst this
    rw [List.getElem?_append_right (Nat.le_refl _), Nat.sub_self] at e
    exact ⟨d, (Option.some.inj e).symm, h1, h2⟩
theorem Stairs.take {ds : List Deed} {G : Rows} (h : Stairs ds G) (n : Nat) : Stairs ds (G.take n) := fun k ms e => by
  rw [List.getElem?_take] at e
  split at e
  · exact h k ms e
  · cases e
theorem Stairs.gd {ds : List Deed} {G : Rows} {n : Nat} (h : Stairs ds G) (hn : G.length ≤ n) : Gd ds (n + 1) G := fun ms hms => by
  obtain ⟨k, hk⟩ := List.getElem?_of_mem hms
  have hl := (List.getElem?_eq_some_iff.mp hk).1
  obtain ⟨d, rfl, h1, _⟩ := h k ms hk
  refine ⟨by simp, fun m hm => ?_⟩
  rw [List.mem_singleton] at hm
  subst hm
  exact ⟨h1, by show (0:Int) ≤ (k : Int) + 1; omega, by show (k : Int) + 1 < _; omega⟩
theorem Stairs.rung {ds : List Deed} {G : Rows} (h : Stairs ds G) : Rung G := fun ms hms => by
  obtain ⟨k, hk⟩ := List.getElem?_of_mem hms
  obtain ⟨d, rfl, _, h2⟩ := h k ms hk
  refine ⟨Nat.le_refl _, fun m hm => ?_⟩
  rw [List.mem_singleton] at hm
  subst hm
  exact h2
section
variable {P : Program} {w : World} {K : PySem.W.Frag} {mg : Str → Option Value} {base : Heap}
def spLadder : Sp := fun vs H Q _ => ∃ (c e : Int) (mv : V) (ds : List Deed), vs = [.int c, mv, .int e] ∧ 0 ≤ c ∧ 0 ≤ e ∧ MenuAt H mv ds ∧ MenuOk ds ∧ WorldTo H Q ds fun lo hi => Good ds lo ∧ Good ds hi ∧ lo.length ≤ 31 ∧ hi.length ≤ 31 ∧ Rung hi
theorem sc__law_ladder : FnScope (["_law_cell_here", "_law_menu_here", "_law_more", "_law_draws_here", "_law_low", "_law_shown_ones", "_law_k", "_law_deed", "_law_high"] : List Str) ["_law_cell_here", "_law_menu_here", "_law_more"] (defScope s_ladder_L) := ⟨rfl, rfl, rfl, by decide +kernel, rfl, by decide +kernel, by decide +kernel⟩
theorem ok_ladder (F : TF K "_law_ladder" s_ladder_L) (T : Tx K mg) (D__law_draws : DOk P w K mg base 1 "_law_draws" ["_law_cell_here", "_law_spans"] spDraws)
    (D__law_added : DOk P w K mg base 2 "_law_added" ["_law_cell_here", "_law_rows", "_law_menu_here"] spAdded) :
    DOk P w K mg base 3 "_law_ladder" ["_law_cell_here", "_law_menu_here", "_law_more"] spLadder := by
  refine dok F T.g__law_ladder sc__law_ladder (fun vs H Q E h => ?_) (fun _ _ _ _ _ _ us hl => match us, hl with | [_, _, _], _ => rfl) (fun cdv A outer s H vs Q E hr h => ?_)
  · obtain ⟨c, e, mv, ds, rfl, _⟩ := h
    rfl
  obtain ⟨c, e, mv, ds, rfl, hc, he, hM, mk, k⟩ := h
  obtain ⟨me, dvs, rfl, hme, hdP⟩ := id hM
  have hml := paired_len hdP
  have hd8 := mk.le
  have hd1 : 1 ≤ ds.length := by
    obtain ⟨d, hd, _⟩ := mk.has 0 (by decide)
    exact List.length_pos_of_mem hd
  refine ⟨_, (pss_cons (ps_set (i := 3) sc__law_ladder.nd rfl (Or.inl rfl) (pe_d D__law_draws (hr.mono (by decide)) (by rfl) (pa_cons (pv 0) (pa_cons (pe_lst (pa_cons pe_int (pa_cons pe_int (pa_cons pe_int (pa_cons pe_int (pa_cons pe_int (pa_cons pe_int pa_nil))))))) pa_nil))))
    (pss_cons (ps_set (i := 4) sc__law_ladder.nd rfl (Or.inl rfl) (pe_lst pa_nil))
    (pss_cons (ps_set (i := 5) sc__law_ladder.nd rfl (Or.inl rfl) (pe_lst pa_nil))
    (pss_cons (ps_for PassesOwn.never rfl (pi_range1 rfl T.f_range (pa_cons (pe_op op_add pe_int (pe_ix ix_list (pv 3) pe_int (fun _ _ => rfl))) pa_nil)) (pg_name (i := 6) sc__law_ladder.nd rfl (Or.inl rfl)) (pss_cons (ps_set (i := 7) sc__law_ladder.nd rfl (Or.inl rfl) (pe_ix ix_list (pv 1) (pe_op op_mod (pe_callTy call_int1 (by rfl) T.f_int (by decide +kernel) (pa_cons (pe_op op_add (pe_op op_mul (pv 6) (pe_op op_add pe_int (pe_ix ix_list (pv 3) pe_int (fun _ _ => rfl)))) (pe_ix ix_list (pv 3) pe_int (fun _ _ => rfl))) pa_nil)) (pe_callB call_len_seq (by rfl) T.f_len (by decide +kernel) (pa_cons (pv 1) pa_nil))) (fun _ _ => rfl)))
    (pss_cons (ps_expr (pe_bm PySem.F.plainAttrs_list PySem.F.slot_list_append PySem.F.type_list_append mt_append (pv 4) (pa_cons (pe_lst (pa_cons (pe_tup (pa_cons (pv 7) (pa_cons (pe_op op_add (pv 6) pe_int) pa_nil))) pa_nil)) pa_nil)))
    (pss_one (ps_if (pt_cmpR op_ne (pe_ix ix_tup (pv 7) pe_int (fun _ _ => rfl)) pe_str (nomark _)) (pss_one (ps_expr (pe_bm PySem.F.plainAttrs_list PySem.F.slot_list_append PySem.F.type_list_append mt_append (pv 5) (pa_cons (pv 7) pa_nil)))) pss_nil)))))
    (pss_cons (ps_expr (pe_bm PySem.F.plainAttrs_list PySem.F.slot_list_append PySem.F.type_list_append mt_append (pv 4) (pa_cons (pe_lst pa_nil) pa_nil)))
    (pss_cons (ps_set (i := 8) sc__law_ladder.nd rfl (Or.inl rfl) (pe_lst pa_nil))
    (pss_cons (ps_for PassesOwn.never rfl (pi_range1 rfl T.f_range (pa_cons (pe_callB (call_min2 rfl) (by rfl) T.f_min (by decide +kernel) (pa_cons (pe_callB call_len_seq (by rfl) T.f_len (by decide +kernel) (pa_cons (pv 5) pa_nil)) (pa_cons (pe_op op_add pe_int (pe_ix ix_list (pv 3) pe_int (fun _ _ => rfl))) pa_nil))) pa_nil)) (pg_name (i := 6) sc__law_ladder.nd rfl (Or.inl rfl)) (pss_one (ps_expr (pe_bm PySem.F.plainAttrs_list PySem.F.slot_list_append PySem.F.type_list_append mt_append (pv 8) (pa_cons (pe_lst (pa_cons (pe_tup (pa_cons (pe_ix ix_list (pv 5) (pv 6) (fun _ _ => rfl)) (pa_cons (pe_op op_add (pv 6) pe_int) pa_nil))) pa_nil)) pa_nil)))))
    (pss_cons (ps_expr (pe_bm PySem.F.plainAttrs_list PySem.F.slot_list_append PySem.F.type_list_append mt_append (pv 8) (pa_cons (pe_lst pa_nil) pa_nil)))
    (C8.pss_cut (ps_if (PW.pt (pw_and (pt_cmpR op_eq (pe_ix ix_list (pv 3) pe_int (fun _ _ => rfl)) pe_int (nomark _)) (pw_and1 (pt_cmpR op_gt (pe_callB call_len_seq (by rfl) T.f_len (by decide +kernel) (pa_cons (pv 8) pa_nil)) pe_int (nomark _))))) (pss_one (ps_set (i := 8) sc__law_ladder.nd rfl (Or.inl rfl) (pe_op op_cat (pe_slice sl_list (pv 8) po_none (po_some (pe_op op_sub (pe_callB call_len_seq (by rfl) T.f_len (by decide +kernel) (pa_cons (pv 8) pa_nil)) pe_int))) (pe_lst (pa_cons (pe_lst (pa_cons (pe_tup (pa_cons (pe_ix ix_tup (pe_ix ix_list (pe_ix ix_list (pv 8) (pe_op op_sub (pe_callB call_len_seq (by rfl) T.f_len (by decide +kernel) (pa_cons (pv 8) pa_nil)) pe_int) (fun _ _ => rfl)) pe_int (fun _ _ => rfl)) pe_int (fun _ _ => rfl)) (pa_cons pe_int pa_nil))) pa_nil)) pa_nil))))) pss_nil)
    (C8.pss_cut (ps_if (pt_cmpR op_eq (pe_ix ix_list (pv 3) pe_int (fun _ _ => rfl)) pe_int (nomark _)) (pss_one (ps_set (i := 4) sc__law_ladder.nd rfl (Or.inl rfl) (pe_d D__law_added (hr.mono (by decide)) (by rfl) (pa_cons (pv 2) (pa_cons (pv 4) (pa_cons (pv 1) pa_nil)))))) pss_nil)
    (pss_one (ps_ret (pe_lst (pa_cons (pv 4) (pa_cons (pv 8) (pa_cons (pv 1) pa_nil)))))))))))))))), ?_⟩
  refine ⟨_, rfl, szk 6 rfl, fun p1 hp1 => ?_⟩
  have s1 : Same H (upd H p1 (.lst ([30, 30, 8, 8, 2, 3].map V.int))) := Same.new1 hp1
  refine ⟨c, p1, [30, 30, 8, 8, 2, 3], rfl, upd_same, by decide, by decide, hc, fun dr dp H2 hdp s2 hdr hdw => ?_⟩
  obtain ⟨x0, hx0, b0⟩ := hdw.get (i := 0) rfl
  obtain ⟨x1, hx1, b1⟩ := hdw.get (i := 1) rfl
  obtain ⟨x2, hx2, b2⟩ := hdw.get (i := 2) rfl
  obtain ⟨x3, hx3, b3⟩ := hdw.get (i := 3) rfl
  obtain ⟨x4, hx4, b4⟩ := hdw.get (i := 4) rfl
  obtain ⟨x5, hx5, b5⟩ := hdw.get (i := 5) rfl
  have s12 := s1.trans s2
  refine ⟨Nat.zero_le _, fun lw hlw => ?_⟩
  have s3 : Same H2 (upd H2 lw (.lst [])) := Same.new1 hlw
  refine ⟨Nat.zero_le _, fun sh hsh => ?_⟩
  have s4 : Same (upd H2 lw (.lst [])) (upd (upd H2 lw (.lst [])) sh (.lst [])) := Same.new1 hsh
  have hsh2 : H2 sh = none := fresh_back s3 hsh
  have hlw0 : H lw = none := fresh_back s12 hlw
  have hsh0 : H sh = none := fresh_back s12 hsh2
  have hls : sh ≠ lw := by rintro rfl; rw [upd_same] at hsh; cases hsh
  have hdl : dp ≠ lw := by rintro rfl; rw [hdr] at hlw; cases hlw
  have hds : dp ≠ sh := by rintro rfl; rw [hdr] at hsh2; cases hsh2
  refine ⟨_, rfl, dp, _, 0, _, rfl, rfl, SqL.of (s4 _ _ (s3 _ _ hdr)), atI_ints (by decide) hx0, _, _, rfl, rfl, _, rfl, by omega, by omega, ?_⟩
  obtain ⟨n, hn⟩ : ∃ n : Nat, 1 + x0 = (n : Nat) := ⟨(1 + x0).toNat, by omega⟩
  rw [show (1 + x0).toNat = n by omega]
  refine for_range (Pv := fun i σ H3 => ∃ (o6 o7 : Option V) (lv sv : List V) (L : Rows) (S : List Deed), σ = [some (.int c), some (.ref me), some (.int e), some (.ref dp), some (.ref lw), some (.ref sh), o6, o7, none] ∧ Same H H3 ∧ H3 dp = some (.lst (dr.map V.int)) ∧
    H3 lw = some (.lst lv) ∧ RwsIn H3 [lw, sh] lv L ∧ Gd ds (n + 1) L ∧ L.length = i ∧ H3 sh = some (.lst sv) ∧ Paired (DeedAt H3) sv S ∧ (∀ d ∈ S, d ∈ ds ∧ hid d = false) ∧ S.length ≤ i)
    ⟨_, _, [], [], [], [], rfl, s12.trans (s3.trans s4), s4 _ _ (s3 _ _ hdr), s4 _ _ upd_same, .nil, fun ms h => absurd h List.not_mem_nil, rfl, upd_same, .nil, fun d h => absurd h List.not_mem_nil, Nat.zero_le _⟩ ?_ ?_
  · rintro i σ H3 hi ⟨o6, o7, lv, sv, L, S, rfl, s5, hd3, hl3, hL, hG, hLl, hs3, hS, hSv, hSl⟩
    have hb1 := Int.emod_nonneg ((0 + (i : Int)) * (1 + x2) + x3) (b := ((ds.length : Nat) : Int)) (by omega)
    have hb2 := Int.emod_lt_of_pos ((0 + (i : Int)) * (1 + x2) + x3) (b := ((ds.length : Nat) : Int)) (by omega)
    have hdd : ds[(((0 + (i : Int)) * (1 + x2) + x3) % ((ds.length : Nat) : Int)).toNat]? = some (ds[(((0 + (i : Int)) * (1 + x2) + x3) % ((ds.length : Nat) : Int)).toNat]'(by omega)) := List.getElem?_eq_getElem _
    generalize (ds[(((0 + (i : Int)) * (1 + x2) + x3) % ((ds.length : Nat) : Int)).toNat]'_) = d at hdd
    have hdm : d ∈ ds := List.mem_of_getElem? hdd
    obtain ⟨dv, hdv, hda0⟩ := paired_getR hdP hdd
    have hda := hda0.mono (Tups.same s5)
    obtain ⟨z, rfl, hz⟩ := id hda
    refine ⟨_, rfl, _, rfl, _, rfl, dp, _, 2, _, rfl, rfl, SqL.of hd3, atI_ints (by decide) hx2, _, _, rfl, rfl, _, _, rfl, rfl, .inl ⟨by omega, by omega⟩, _, rfl, dp, _, 3, _, rfl, rfl, SqL.of hd3, atI_ints (by decide) hx3, _, _, rfl, rfl, .inl ⟨_, rfl, _, rfl, me, _, rfl, .inl (SqL.of (s5 _ _ hme)), _, _, rfl, rfl, ?_, ?_⟩⟩
    · show (0:Int) < ((dvs.length : Nat) : Int)
      omega
    refine ⟨me, _, _, _, rfl, rfl, SqL.of (s5 _ _ hme), by rw [hml]; exact atI_of hb1 hdv, ?_⟩
    refine ⟨_, rfl, tyL hl3, _, rfl, _, rfl, _, _, rfl, rfl, szk 2 rfl, fun p hp => ⟨szk 1 rfl, fun q hq => ?_⟩⟩
    obtain ⟨s6, hmv, hq3⟩ := one_move hda hp hq
    have hl6 := s6 _ _ hl3
    have nt := not_tup hl6
    have hql : q ≠ lw := by rintro rfl; rw [hl3] at hq3; cases hq3
    have hqs : q ≠ sh := by rintro rfl; rw [hs3] at hq3; cases hq3
    refine ⟨lw, _, _, rfl, rfl, hl6, szLt (by rw [paired_len hL]; omega), ?_⟩
    have hL7 : RwsIn (upd (upd (upd H3 p (.tup [.ref z, .int (0 + (i : Int) + 1)])) q (.lst [.ref p])) lw (.lst (lv ++ [.ref q]))) [lw, sh] (lv ++ [.ref q]) (L ++ [[(d, 0 + (i : Int) + 1)]]) := (hL.grow s6).put (by simp) nt hmv fun b hb => by
      simp only [List.mem_cons, List.not_mem_nil, or_false] at hb
      rcases hb with rfl | rfl
      · exact fun e => hql (V.ref.inj e)
      · exact fun e => hqs (V.ref.inj e)
    have hG7 : Gd ds (n + 1) (L ++ [[(d, 0 + (i : Int) + 1)]]) := gd_snoc hG (by simp) fun m hm => by
      rw [List.mem_singleton] at hm
      subst hm
      exact ⟨hdm, by show (0:Int) ≤ 0 + (i : Int) + 1; omega, by show 0 + (i : Int) + 1 < _; omega⟩
    have s7 : Same H (upd (upd (upd H3 p (.tup [.ref z, .int (0 + (i : Int) + 1)])) q (.lst [.ref p])) lw (.lst (lv ++ [.ref q]))) := Same.mut (s5.trans s6) hlw0
    have t7 := (Tups.same s6).trans (Tups.upd (o := .lst (lv ++ [.ref q])) nt)
    have hda7 := hda.mono t7
    obtain ⟨z', ez, hz7⟩ := id hda7
    injection ez with ez
    subst ez
    have hs7 : (upd (upd (upd H3 p (.tup [.ref z, .int (0 + (i : Int) + 1)])) q (.lst [.ref p])) lw (.lst (lv ++ [.ref q]))) sh = some (.lst sv) := by rw [upd_ne hls]; exact s6 _ _ hs3
    have hd7 : (upd (upd (upd H3 p (.tup [.ref z, .int (0 + (i : Int) + 1)])) q (.lst [.ref p])) lw (.lst (lv ++ [.ref q]))) dp = some (.lst (dr.map V.int)) := by rw [upd_ne hdl]; exact s6 _ _ hd3
    refine ⟨_, rfl, z, _, 1, _, rfl, rfl, SqT.of hz7, rfl, rfl, _, rfl, ?_⟩
    rw [← hid_eq]
    cases hh : hid d with
    | true => exact iteF ⟨_, _, _, sv, _, S, rfl, s7, hd7, upd_same, hL7, hG7, by rw [List.length_append, hLl]; rfl, hs7, deeds_all hS t7, hSv, by omega⟩
    | false =>
      have nt7 := not_tup hs7
      have hSl2 := paired_len hS
      refine iteT ⟨_, rfl, tyL hs7, _, rfl, sh, _, _, rfl, rfl, hs7, szLt (by omega), ?_⟩
      refine ⟨_, _, _, sv ++ [.ref z], _, S ++ [d], rfl, Same.mut s7 hsh0, by rw [upd_ne hds]; exact hd7, by rw [upd_ne (Ne.symm hls), upd_same], hL7.upd (by simp) nt7, hG7, by rw [List.length_append, hLl]; rfl, upd_same, paired_snoc (deeds_all (deeds_all hS t7) (Tups.upd nt7)) (hda7.mono (Tups.upd nt7)), ?_, by rw [List.length_append, List.length_singleton]; omega⟩
      intro d' hd'
      rw [List.mem_append, List.mem_singleton] at hd'
      rcases hd' with hd' | rfl
      · exact hSv d' hd'
      · exact ⟨hdm, hh⟩
  rintro σ H3 ⟨o6, o7, lv, sv, L, S, rfl, s5, hd3, hl3, hL, hG, hLl, hs3, hS, hSv, hSl⟩
  have hSl2 := paired_len hS
  have hLl2 := paired_len hL
  -- the end of low
  refine ⟨_, rfl, tyL hl3, ⟨Nat.zero_le _, fun q0 hq0 => ?_⟩⟩
  have s6 : Same H3 (upd H3 q0 (.lst [])) := Same.new1 hq0
  have hl6 := s6 _ _ hl3
  have nt6 := not_tup hl6
  have hq0l : q0 ≠ lw := by rintro rfl; rw [hl3] at hq0; cases hq0
  have hq0s : q0 ≠ sh := by rintro rfl; rw [hs3] at hq0; cases hq0
  refine ⟨lw, _, _, rfl, rfl, hl6, szLt (by omega), ?_⟩
  have hL7 : RwsIn (upd (upd H3 q0 (.lst [])) lw (.lst (lv ++ [.ref q0]))) [lw, sh] (lv ++ [.ref q0]) (L ++ [[]]) := (hL.grow s6).put (by simp) nt6 ⟨q0, [], rfl, upd_same, .nil⟩ fun b hb => by
    simp only [List.mem_cons, List.not_mem_nil, or_false] at hb
    rcases hb with rfl | rfl
    · exact fun e => hq0l (V.ref.inj e)
    · exact fun e => hq0s (V.ref.inj e)
  have hGL : Gd ds (n + 1) (L ++ [[]]) := gd_snoc hG List.nodup_nil fun m h => absurd h List.not_mem_nil
  have hLlen : (L ++ [[]]).length = n + 1 := by rw [List.length_append, hLl]; rfl
  have gL : Good ds (L ++ [[]]) := ⟨by omega, by rw [hLlen]; exact hGL⟩
  have s7 : Same H (upd (upd H3 q0 (.lst [])) lw (.lst (lv ++ [.ref q0]))) := Same.mut (s5.trans s6) hlw0
  have t7 := (Tups.same s6).trans (Tups.upd (o := .lst (lv ++ [.ref q0])) nt6)
  have hs7 : (upd (upd H3 q0 (.lst [])) lw (.lst (lv ++ [.ref q0]))) sh = some (.lst sv) := by rw [upd_ne hls]; exact s6 _ _ hs3
  have hd7 : (upd (upd H3 q0 (.lst [])) lw (.lst (lv ++ [.ref q0]))) dp = some (.lst (dr.map V.int)) := by rw [upd_ne hdl]; exact s6 _ _ hd3
  have hS7 := deeds_all hS t7
  have hl7 : (upd (upd H3 q0 (.lst [])) lw (.lst (lv ++ [.ref q0]))) lw = some (.lst (lv ++ [.ref q0])) := upd_same
  have hP7 := hL7.fin
  generalize (upd (upd H3 q0 (.lst [])) lw (.lst (lv ++ [.ref q0]))) = H7 at s7 hs7 hd7 hS7 hl7 hP7
  -- high
  refine ⟨Nat.zero_le _, fun hg hhg => ?_⟩
  have s8 : Same H7 (upd H7 hg (.lst [])) := Same.new1 hhg
  have hhg0 : H hg = none := fresh_back s7 hhg
  have hmin : ∃ m : Nat, (if 1 + x1 < ((sv.length : Nat) : Int) then 1 + x1 else ((sv.length : Nat) : Int)) = (m : Nat) ∧ m ≤ S.length ∧ m ≤ 30 := by
    split
    · exact ⟨(1 + x1).toNat, by omega, by omega, by omega⟩
    · exact ⟨sv.length, rfl, by omega, by omega⟩
  obtain ⟨m, hm, hmS, hm30⟩ := hmin
  refine ⟨_, rfl, sh, _, rfl, .inl (SqL.of (s8 _ _ hs7)), _, rfl, dp, _, 1, _, rfl, rfl, SqL.of (s8 _ _ hd7), atI_ints (by decide) hx1, _, _, rfl, rfl, _, _, rfl, ?_⟩
  rw [hm]
  refine ⟨_, rfl, by omega, by omega, ?_⟩
  rw [show ((m : Nat) : Int).toNat = m by omega]
  refine for_range (Pv := fun i σ H8 => ∃ (o6 : Option V) (hv : List V) (G : Rows), σ = [some (.int c), some (.ref me), some (.int e), some (.ref dp), some (.ref lw), some (.ref sh), o6, o7, some (.ref hg)] ∧ Same H7 H8 ∧
    H8 hg = some (.lst hv) ∧ RwsIn H8 [hg] hv G ∧ Stairs ds G ∧ G.length = i)
    ⟨_, [], [], rfl, s8, upd_same, .nil, fun n ms h => by simp at h, rfl⟩ ?_ ?_
  · rintro i σ H8 hi ⟨o6, hv, G, rfl, s9, hh8, hG8, hSt, hGl⟩
    have hdd : S[i]? = some (S[i]'(by omega)) := List.getElem?_eq_getElem _
    generalize (S[i]'_) = d at hdd
    have hdm := hSv d (List.mem_of_getElem? hdd)
    obtain ⟨dv, hdv, hda0⟩ := paired_getR hS7 hdd
    have hda := hda0.mono (Tups.same s9)
    refine ⟨_, rfl, tyL hh8, _, rfl, _, rfl, sh, _, _, _, rfl, rfl, SqL.of (s9 _ _ hs7), atI_of (by omega) (by rw [show (0 + (i : Int)).toNat = i by omega]; exact hdv), _, rfl, _, _, rfl, rfl, szk 2 rfl, fun p hp => ⟨szk 1 rfl, fun q hq => ?_⟩⟩
    obtain ⟨s10, hmv, hq8⟩ := one_move hda hp hq
    have hh10 := s10 _ _ hh8
    have nt := not_tup hh10
    have hqh : q ≠ hg := by rintro rfl; rw [hh8] at hq8; cases hq8
    have hgl := paired_len hG8
    refine ⟨hg, _, _, rfl, rfl, hh10, szLt (by omega), ?_⟩
    refine ⟨_, hv ++ [.ref q], G ++ [[(d, 0 + (i : Int) + 1)]], rfl, Same.mut (s9.trans s10) hhg, upd_same, (hG8.grow s10).put (by simp) nt hmv ?_, ?_, by rw [List.length_append, hGl]; rfl⟩
    · intro b hb
      rw [List.mem_singleton] at hb
      subst hb
      exact fun e => hqh (V.ref.inj e)
    · have := hSt.snoc (d := d) hdm.1 hdm.2
      rw [hGl] at this
      rw [Int.zero_add]
      exact this
  rintro σ H8 ⟨o6', hv, G, rfl, s9, hh8, hG8, hSt, hGl⟩
  have hgl := paired_len hG8
  refine ⟨_, rfl, tyL hh8, ⟨Nat.zero_le _, fun q1 hq1 => ?_⟩⟩
  have s10 : Same H8 (upd H8 q1 (.lst [])) := Same.new1 hq1
  have hh10 := s10 _ _ hh8
  have nt10 := not_tup hh10
  have hq1h : q1 ≠ hg := by rintro rfl; rw [hh8] at hq1; cases hq1
  refine ⟨hg, _, _, rfl, rfl, hh10, szLt (by omega), ?_⟩
  have hG11 : RwsIn (upd (upd H8 q1 (.lst [])) hg (.lst (hv ++ [.ref q1]))) [hg] (hv ++ [.ref q1]) (G ++ [[]]) := (hG8.grow s10).put (by simp) nt10 ⟨q1, [], rfl, upd_same, .nil⟩ fun b hb => by
    rw [List.mem_singleton] at hb
    subst hb
    exact fun e => hq1h (V.ref.inj e)
  have s11 : Same H7 (upd (upd H8 q1 (.lst [])) hg (.lst (hv ++ [.ref q1]))) := Same.mut (s9.trans s10) hhg
  have hh11 : (upd (upd H8 q1 (.lst [])) hg (.lst (hv ++ [.ref q1]))) hg = some (.lst (hv ++ [.ref q1])) := upd_same
  have hP11 := hG11.fin
  generalize (upd (upd H8 q1 (.lst [])) hg (.lst (hv ++ [.ref q1]))) = H11 at s11 hh11 hP11
  have hGlen : (G ++ [[]]).length = m + 1 := by rw [List.length_append, hGl]; rfl
  have hGm : Gd ds (m + 1) G := hSt.gd (by omega)
  have hRg := hSt.rung
  have gG : Good ds (G ++ [[]]) := ⟨by omega, by rw [hGlen]; exact gd_snoc hGm List.nodup_nil fun m h => absurd h List.not_mem_nil⟩
  have rG : Rung (G ++ [[]]) := rung_snoc hRg (by simp) fun m h => absurd h List.not_mem_nil
  have sH11 := s7.trans s11
  -- the ring
  refine ⟨fun σ H12 => ∃ (o6 : Option V) (hg' : Addr) (hi : Rows), σ = [some (.int c), some (.ref me), some (.int e), some (.ref dp), some (.ref lw), some (.ref sh), o6, o7, some (.ref hg')] ∧ Same H11 H12 ∧ RowsAt H12 (.ref hg') hi ∧ Good ds hi ∧ hi.length ≤ 31 ∧ Rung hi, ?_, ?_⟩
  · refine ⟨_, rfl, dp, _, 4, _, rfl, rfl, SqL.of (s11 _ _ hd7), atI_ints (by decide) hx4, rfl, _, rfl, ite2 (fun _ => ?_) (fun _ => iteF ⟨_, hg, _, rfl, Same.refl _, ⟨hg, _, rfl, hh11, hP11⟩, gG, by omega, rG⟩)⟩
    have hvl : (hv ++ [V.ref q1]).length = m + 1 := by rw [List.length_append, hgl, hGl]; rfl
    refine ⟨_, rfl, hg, _, rfl, .inl (SqL.of hh11), _, _, rfl, rfl, _, rfl, ite2 (fun hl => ?_) (fun _ => ⟨_, hg, _, rfl, Same.refl _, ⟨hg, _, rfl, hh11, hP11⟩, gG, by omega, rG⟩)⟩
    have hl : (1 : Int) < (((hv ++ [V.ref q1]).length : Nat) : Int) := of_decide_eq_true hl
    rw [hvl] at hl
    have hm1 : 1 ≤ m := by omega
    have hcut : cutV (hv ++ [.ref q1]) none (some ((((hv ++ [V.ref q1]).length : Nat) : Int) - 2)) = (hv ++ [V.ref q1]).take (m - 1) := by
      unfold cutV
      rw [hvl, show (((m + 1 : Nat) : Int) - 2) = ((m - 1 : Nat) : Int) by omega, HT.sIx_nat, HT.sIx_none, Nat.sub_zero, List.drop_zero, Nat.min_eq_left (by omega)]
    refine ⟨_, rfl, _, rfl, hg, _, rfl, .inl (SqL.of hh11), _, _, rfl, rfl, _, rfl, hg, _, rfl, SqL.of hh11, fun c1 hc1 => ?_⟩
    rw [hcut]
    have s12' : Same H11 (upd H11 c1 (.lst ((hv ++ [V.ref q1]).take (m - 1)))) := Same.new1 hc1
    have hlast : (G ++ [[]])[m - 1]? = some (G[m - 1]'(by omega)) := by
      rw [List.getElem?_append_left (by omega)]
      exact List.getElem?_eq_getElem _
    have hGin : G[m - 1]'(by omega) ∈ G := List.getElem_mem _
    generalize (G[m - 1]'_) = lr at hlast hGin
    obtain ⟨rv, hrv, ra, rms, rfl, hra, hrP⟩ := paired_getR hP11 hlast
    obtain ⟨k0, hk0⟩ := List.getElem?_of_mem hGin
    obtain ⟨d0, rfl, _, _⟩ := hSt k0 lr hk0
    obtain ⟨mm, emm⟩ : ∃ mm : Move, mm = (d0, (k0 : Int) + 1) := ⟨_, rfl⟩
    rw [← emm] at hlast hGin hrP
    obtain ⟨mv0, hmv0, ta, u, rfl, hta, hu⟩ := paired_getR (i := 0) hrP rfl
    have hmmG := (hGm _ hGin).2 mm (List.mem_singleton.mpr rfl)
    have hmmR := (hRg _ hGin).2 mm (List.mem_singleton.mpr rfl)
    refine ⟨_, rfl, _, rfl, hg, _, rfl, .inl (SqL.of (s12' _ _ hh11)), _, _, rfl, rfl, hg, _, _, _, rfl, rfl, SqL.of (s12' _ _ hh11), ?_, ra, _, 0, _, rfl, rfl, SqL.of (s12' _ _ hra), atI_of (by decide) hmv0, ta, _, 0, _, rfl, rfl, SqT.of (s12' _ _ hta), rfl, szk 2 rfl, fun p hp => ⟨szk 1 rfl, fun q hq => ⟨szk 1 rfl, fun q2 hq2 => ?_⟩⟩⟩
    · refine atI_of ?_ (v := .ref ra) ?_
      · rw [hvl]; omega
      · rw [hvl, show (((m + 1 : Nat) : Int) - 2).toNat = m - 1 by omega]
        exact hrv
    obtain ⟨s13, hmv', hq'⟩ := one_move (n := 0) (hu.mono (Tups.same s12')) hp hq
    have s14 := Same.new1 (o := .lst [V.ref q]) hq2
    have s34 := s13.trans s14
    refine ⟨c1, q2, _, _, rfl, rfl, s34 _ _ upd_same, upd_same, szL (by simp; omega), fun h' hh' => ?_⟩
    have s15 := Same.new1 (o := .lst ((hv ++ [V.ref q1]).take (m - 1) ++ [V.ref q])) hh'
    refine ⟨_, h', (G ++ [[]]).take (m - 1) ++ [[(mm.1, 0)]], rfl, s12'.trans (s34.trans s15), ⟨h', _, rfl, upd_same, ?_⟩, ?_, ?_, ?_⟩
    · exact paired_snoc (Paired.mapP (paired_take hP11 (m - 1)) fun _ _ q => q.mono (s12'.trans (s34.trans s15))) (hmv'.mono (s14.trans s15))
    · have hlen : ((G ++ [[]]).take (m - 1) ++ [[(mm.1, (0 : Int))]]).length = m := by rw [List.length_append, List.length_take, hGlen]; simp; omega
      refine ⟨by omega, ?_⟩
      rw [hlen]
      refine gd_snoc ?_ (by simp) fun x hx => ?_
      · have e : (G ++ [[]]).take (m - 1) = G.take (m - 1) := List.take_append_of_le_length (by omega)
        rw [e]
        have := (hSt.take (m - 1)).gd (n := m - 1) (by rw [List.length_take]; omega)
        rw [show m - 1 + 1 = m by omega] at this
        exact this
      · rw [List.mem_singleton] at hx
        subst hx
        exact ⟨hmmG.1, (by decide : (0:Int) ≤ 0), by show (0:Int) < _; omega⟩
    · rw [List.length_append, List.length_take, hGlen]
      simp
      omega
    · refine rung_snoc (fun x hx => rG x (List.mem_of_mem_take hx)) (by simp) fun x hx => ?_
      rw [List.mem_singleton] at hx
      subst hx
      exact hmmR
  rintro σ H12 ⟨o6, hg', hi, rfl, s12', hR12, gH, hH31, rH⟩
  have sA := sH11.trans s12'
  have sB := s11.trans s12'
  have hRL : RowsAt H12 (.ref lw) (L ++ [[]]) := RowsAt.mono ⟨lw, _, rfl, hl7, hP7⟩ sB
  refine ⟨fun σ H13 => ∃ (o6 : Option V) (lw' : Addr) (lo : Rows), σ = [some (.int c), some (.ref me), some (.int e), some (.ref dp), some (.ref lw'), some (.ref sh), o6, o7, some (.ref hg')] ∧ Same H12 H13 ∧ RowsAt H13 (.ref lw') lo ∧ Good ds lo ∧ lo.length ≤ 31, ?_, ?_⟩
  · refine ⟨_, rfl, dp, _, 5, _, rfl, rfl, SqL.of (sB _ _ hd7), atI_ints (by decide) hx5, rfl, _, rfl, ite2 (fun _ => ?_) (fun _ => ⟨_, lw, _, rfl, Same.refl _, hRL, gL, by omega⟩)⟩
    refine ⟨_, rfl, _, rfl, _, rfl, e, .ref lw, .ref me, L ++ [[]], ds, rfl, he, hRL, gL, by omega, hM.mono sA, mk, fun q ms S' H13 hq s13 hq13 hP13 hp13 => ?_⟩
    exact ⟨_, q, S', rfl, s13, ⟨q, ms, rfl, hq13, hP13⟩, hp13.1, by rw [hp13.2]; omega⟩
  rintro σ H13 ⟨o6', lw', lo, rfl, s13, hR13, gLo, hLo⟩
  refine ⟨_, rfl, _, rfl, _, rfl, szk 3 rfl, fun q hq => ?_⟩
  have s14 := Same.new1 (o := .lst [V.ref lw', V.ref hg', V.ref me]) hq
  exact k q (.ref lw') (.ref hg') (.ref me) lo hi _ (fresh_back (sA.trans s13) hq) (sA.trans (s13.trans s14)) upd_same (hR13.mono s14) (hR12.mono (s13.trans s14)) (hM.mono (sA.trans (s13.trans s14))) ⟨gLo, gH, hLo, hH31, rH⟩
end
end Ct
set_option maxHeartbeats 8000000
/-! branch. -/
namespace Ct
open PySem PySem.Spec PyProof.Rows L2 Nd
open CM (InR Wf Qt Rep row reps)
/-- what each row of R, counted on from b, is -/
def IxAll (Pr : Int → List Move → Prop) (b : Int) (R : Rows) : Prop := ∀ (k : Nat) (ms : List Move), R[k]? = some ms → Pr (b + k) ms
theorem IxAll.app {Pr : Int → List Move → Prop} {b : Int} {R S : Rows} (h : IxAll Pr b R) (h2 : IxAll Pr (b + R.length) S) : IxAll Pr b (R ++ S) := fun k ms e => by
  by_cases hk : k < R.length
  · rw [List.getElem?_append_left hk] at e
    exact h k ms e
  · rw [List.getElem?_append_right (by omega)] at e
    have := h2 _ _ e
    rw [show b + (R.length : Int) + ((k - R.length : Nat) : Int) = b + k by omega] at this
    exact this
theorem IxAll.rng {Pr : Int → List Move → Prop} {b : Int} {n : Nat} {f : Nat → List Move} (h : ∀ k, k < n → Pr (b + k) (f k)) : IxAll Pr b ((List.range n).map f) := fun k ms e => by
  rw [List.getElem?_map] at e
  cases e2 : (List.range n)[k]? with
  | none => rw [e2] at e; cases e
  | some j =>
    rw [e2] at e
    obtain ⟨h1, h2⟩ := List.getElem?_eq_some_iff.mp e2
    rw [List.getElem_range] at h2
    subst h2
    rw [← Option.some.inj e]
    exact h k (by simpa using h1)
theorem IxAll.one {Pr : Int → List Move → Prop} {b : Int} {ms : List Move} (h : Pr b ms) : IxAll Pr b [ms] := fun k x e => by
  cases k with
  | zero =>
    simp at e
    subst e
    simpa using h
  | succ k => simp at e
theorem IxAll.set {Pr : Int → List Move → Prop} {b : Int} {R : Rows} {i : Nat} {ms : List Move} (h : IxAll Pr b R) (h2 : Pr (b + i) ms) : IxAll Pr b (R.set i ms) := fun k x e => by
  rw [List.getElem?_set] at e
  split at e
  · rename_i hik
    subst hik
    split at e
    · rw [← Option.some.inj e]
      exact h2
    · cases e
  · exact h k x e
/-- the levels of a branching high: a row on which it goes straight, then two ways of dep on, then one end -/
def levB (a dep : Nat) (i : Int) : Int :=
  if i ≤ a then i else if i = a + 1 then a else if i < a + 3 + dep then i - (a + 2) + a + 1 else if i < a + 4 + 2 * dep then i - (a + 3 + dep) + a + 1 else a + dep + 2
def nxB (a dep : Nat) (l : Int) : Int := if l = a + dep + 2 then 0 else l + 1
structure HighRow (ds : List Deed) (a dep : Nat) (i : Int) (ms : List Move) : Prop where
  nd : (ms.map Prod.fst).Nodup
  mv : ∀ m ∈ ms, m.1 ∈ ds ∧ InR (a + 5 + 2 * dep) m.2 ∧ levB a dep m.2 = if hid m.1 = true then levB a dep i else nxB a dep (levB a dep i)
structure LowRow (ds : List Deed) (a dep : Nat) (i : Int) (ms : List Move) : Prop where
  nd : (ms.map Prod.fst).Nodup
  mv : ∀ m ∈ ms, m.1 ∈ ds ∧ hid m.1 = false ∧ m.2 = nxB a dep i
/-- a low and a high that go level by level -/
def Levels (ds : List Deed) (lo hi : Rows) : Prop := ∃ a dep : Nat, a ≤ 25 ∧ dep ≤ 5 ∧ lo.length = a + dep + 3 ∧ hi.length = a + 5 + 2 * dep ∧ IxAll (HighRow ds a dep) 0 hi ∧ IxAll (LowRow ds a dep) 0 lo
theorem ixall_good {ds : List Deed} {R : Rows} {n : Nat} {Pr : Int → List Move → Prop} (h : IxAll Pr 0 R) (h1 : 1 ≤ R.length) (hn : R.length = n) (g : ∀ i ms, 0 ≤ i → i < (n : Int) → Pr i ms → (ms.map Prod.fst).Nodup ∧ ∀ m ∈ ms, m.1 ∈ ds ∧ InR n m.2) : Good ds R :=
  ⟨h1, fun ms hms => by
    obtain ⟨k, hk⟩ := List.getElem?_of_mem hms
    have hl := (List.getElem?_eq_some_iff.mp hk).1
    rw [hn]
    exact g (0 + k) ms (by omega) (by omega) (h k ms hk)⟩
theorem Levels.good {ds : List Deed} {lo hi : Rows} (h : Levels ds lo hi) : Good ds lo ∧ Good ds hi ∧ lo.length ≤ 33 ∧ hi.length ≤ 40 := by
  obtain ⟨a, dep, h1, h2, h3, h4, h5, h6⟩ := h
  refine ⟨ixall_good h6 (by omega) h3 fun i ms i0 i1 r => ⟨r.nd, fun m hm => ⟨(r.mv m hm).1, ?_⟩⟩, ixall_good h5 (by omega) h4 fun i ms _ _ r => ⟨r.nd, fun m hm => ⟨(r.mv m hm).1, (r.mv m hm).2.1⟩⟩, by omega, by omega⟩
  rw [(r.mv m hm).2.2]
  unfold nxB
  split
  · exact ⟨by omega, by omega⟩
  · exact ⟨by omega, by omega⟩
/-- [[(d, f k)] for k in range(n)] -/
theorem lc_rows {σ : L2.St} {H : Hp} {D : Addr} {n b : Nat} {j : Nat} {dv : V} {d : Deed} {tE : TE} {f : Nat → Int} {Qd : Hp → Prop} (hn : n ≤ 1000) (hD : H D = none) (hd : DeedAt H dv d)
    (he : ∀ k H' (Q : VK), k < n → Q (.int (f k)) H' → tE ((wipe σ [b]).set b (some (.int (0 + (k : Int))))) H' Q)
    (k : ∀ H' vs, Same H H' → H' D = some (.lst vs) → Paired (MovesAt H') vs ((List.range n).map fun i => [(d, f i)]) → Qd H')
    (w0 : ∀ x, ((wipe σ [b]).set b (some x))[j]? = some (some dv) := by intro _; rfl)
    (w1 : ∀ x, wipe ((wipe σ [b]).set b (some x)) [b] = wipe σ [b] := by intro _; rfl) :
    ∃ W : Nat → Nat → Hp → Prop, (∃ m, W 0 m (upd H D (.lst []))) ∧ ∀ i m H, W i m H → ((Itr 0 n).stop i H ∧ Qd H) ∨ ((Itr 0 n).go i H ∧ ∃ Nx : Hp → Prop, (∀ H', Nx H' → ∃ m', m' < m ∧ W (i + 1) m' H') ∧
      ∀ x H', (Itr 0 n).yld i H x H' → gName b x (wipe σ [b]) H' fun σ2 H2 => wipe σ2 [b] = wipe σ [b] ∧ tYes σ2 H2 fun c H3 =>
        if c = true then tLst (tCons (tTup (tCons (tVar j) (tCons tE tNil))) tNil) σ2 H3 fun y H4 => ∃ acc, H4 D = some (.lst acc) ∧ acc.length < sizeLine ∧ Nx (upd H4 D (.lst (acc ++ [y]))) else Nx H3) := by
  refine lc_range (Pv := fun i H1 => ∃ vs, Same H H1 ∧ H1 D = some (.lst vs) ∧ RowsIn H1 D vs (((List.range n).map fun i => [(d, f i)]).take i)) ⟨[], Same.new1 hD, upd_same, by rw [List.take_zero]; exact .nil⟩ ?_ ?_
  · rintro i H1 hi ⟨vs, s1, h1, hR⟩
    refine ⟨w1 _, _, w0 _, he i H1 _ hi ⟨szk 2 rfl, fun p hp => ⟨szk 1 rfl, fun q hq => ?_⟩⟩⟩
    obtain ⟨s2, hm, hq1⟩ := one_move (hd.mono (Tups.same s1)) hp hq
    have h2 := s2 _ _ h1
    have hqD : q ≠ D := by rintro rfl; rw [h1] at hq1; cases hq1
    have hl : vs.length ≤ i := by
      have := paired_len hR
      rw [List.length_take] at this
      omega
    refine ⟨vs, h2, szLt (by omega), vs ++ [.ref q], Same.mut (s1.trans s2) hD, upd_same, ?_⟩
    rw [List.take_add_one, List.getElem?_map, List.getElem?_range hi]
    exact (hR.grow s2).put (not_tup h2) hm (fun e => hqD (V.ref.inj e))
  · rintro H1 ⟨vs, s1, h1, hR⟩
    rw [List.take_of_length_le (by simp)] at hR
    exact k H1 vs s1 h1 hR.fin
theorem two_moves {H : Hp} {p p2 q : Addr} {v v2 : V} {d d2 : Deed} {n n2 : Int} (hd : DeedAt H v d) (hd2 : DeedAt H v2 d2) (hp : H p = none) (hp2 : upd H p (.tup [v, .int n]) p2 = none) (hq : upd (upd H p (.tup [v, .int n])) p2 (.tup [v2, .int n2]) q = none) :
    Same H (upd (upd (upd H p (.tup [v, .int n])) p2 (.tup [v2, .int n2])) q (.lst [.ref p, .ref p2])) ∧ MovesAt (upd (upd (upd H p (.tup [v, .int n])) p2 (.tup [v2, .int n2])) q (.lst [.ref p, .ref p2])) (.ref q) [(d, n), (d2, n2)] := by
  have s1 : Same H (upd H p (.tup [v, .int n])) := Same.new1 hp
  have s2 : Same (upd H p (.tup [v, .int n])) (upd (upd H p (.tup [v, .int n])) p2 (.tup [v2, .int n2])) := Same.new1 hp2
  have s3 : Same (upd (upd H p (.tup [v, .int n])) p2 (.tup [v2, .int n2])) (upd (upd (upd H p (.tup [v, .int n])) p2 (.tup [v2, .int n2])) q (.lst [.ref p, .ref p2])) := Same.new1 hq
  have s := s1.trans (s2.trans s3)
  exact ⟨s, ⟨q, _, rfl, upd_same, .cons ⟨p, v, rfl, s3 _ _ (s2 _ _ upd_same), hd.mono (Tups.same s)⟩ (.cons ⟨p2, v2, rfl, s3 _ _ upd_same, hd2.mono (Tups.same s)⟩ .nil)⟩⟩
theorem rows_all {H H' : Hp} {vs : List V} {R : Rows} (h : Paired (MovesAt H) vs R) (s : Same H H') : Paired (MovesAt H') vs R := Paired.mapP h fun _ _ q => q.mono s
section
variable {P : Program} {w : World} {K : PySem.W.Frag} {mg : Str → Option Value} {base : Heap}
def spBranch : Sp := fun vs H Q _ => ∃ (c : Int) (mv : V) (ds : List Deed), vs = [.int c, mv] ∧ 0 ≤ c ∧ MenuAt H mv ds ∧ MenuOk ds ∧ WorldTo H Q ds fun lo hi => Levels ds lo hi
theorem two_vis {ds : List Deed} (mk : MenuOk ds) : 2 ≤ (vis ds).length := by
  obtain ⟨d0, h0, e0⟩ := mk.has 0 (by decide)
  obtain ⟨d2, h2, e2⟩ := mk.has 2 (by decide)
  have k0 : d0.2.1 = ("call" : Str) := (Option.some.inj e0).symm
  have k2 : d2.2.1 = ("return" : Str) := (Option.some.inj e2).symm
  have v0 : d0 ∈ vis ds := List.mem_filter.mpr ⟨h0, by simp [hid, k0]; decide⟩
  have v2 : d2 ∈ vis ds := List.mem_filter.mpr ⟨h2, by simp [hid, k2]; decide⟩
  have ne : d0 ≠ d2 := fun e => by
    rw [e, k2] at k0
    exact absurd k0 (by decide)
  have := CM.nodup_sub (l := [d0, d2]) (m := vis ds) (by simp [ne]) (fun x hx => by
    simp only [List.mem_cons, List.not_mem_nil, or_false] at hx
    rcases hx with rfl | rfl
    · exact v0
    · exact v2)
  exact this
theorem one_hid {ds : List Deed} (mk : MenuOk ds) : 1 ≤ (ds.filter hid).length := by
  obtain ⟨d, h, e⟩ := mk.has 1 (by decide)
  have k1 : d.2.1 = ("step" : Str) := (Option.some.inj e).symm
  exact List.length_pos_of_mem (List.mem_filter.mpr ⟨h, by simp [hid, k1]⟩)
theorem nodup_inj {α : Type} : ∀ {l : List α} {i j : Nat} {x : α}, l.Nodup → l[i]? = some x → l[j]? = some x → i = j
  | [], _, _, _, _, h, _ => by simp at h
  | a :: l, 0, 0, _, _, _, _ => rfl
  | a :: l, 0, j + 1, x, n, h1, h2 => by
    simp at h1 h2
    subst h1
    exact absurd (List.mem_of_getElem? h2) (List.nodup_cons.mp n).1
  | a :: l, i + 1, 0, x, n, h1, h2 => by
    simp at h1 h2
    subst h2
    exact absurd (List.mem_of_getElem? h1) (List.nodup_cons.mp n).1
  | a :: l, i + 1, j + 1, x, n, h1, h2 => by
    have := nodup_inj (List.nodup_cons.mp n).2 (by simpa using h1) (by simpa using h2)
    omega
theorem rows_ne {H : Hp} {o : Addr} {ov : List V} {R : Rows} {v : V} {l : List Move} (ho : H o = some (.lst ov)) (hP : Paired (MovesAt H) ov R) (h1 : 1 ≤ R.length) (m : MovesAt H v l) : v ≠ .ref o := by
  rintro rfl
  obtain ⟨b, vs, e, hb, hb'⟩ := m
  injection e with e
  subst e
  rw [ho] at hb
  obtain rfl := HO.lst.inj (Option.some.inj hb)
  obtain ⟨v0, hv0, c, cs, e1, hc, _⟩ := paired_getR hP (List.getElem?_eq_getElem (show 0 < R.length by omega))
  have hl0 : 0 < ov.length := (List.getElem?_eq_some_iff.mp hv0).1
  rw [paired_len hb'] at hl0
  obtain ⟨v1, hv1, t, u, e2, ht, _⟩ := paired_getR hb' (List.getElem?_eq_getElem hl0)
  rw [hv0] at hv1
  obtain rfl := Option.some.inj hv1
  rw [e1] at e2
  injection e2 with e2
  subst e2
  rw [hc] at ht
  cases ht
theorem rows_set {H : Hp} {o : Addr} {ov w : List V} {R : Rows} (ho : H o = some (.lst ov)) (hP : Paired (MovesAt H) ov R) (h1 : 1 ≤ R.length) {v : V} {l : List Move} (m : MovesAt H v l) : MovesAt (upd H o (.lst w)) v l :=
  m.upd (rows_ne ho hP h1 m) (not_tup ho)
theorem high_one {ds : List Deed} {a dep : Nat} {i j : Int} {d : Deed} (hd : d ∈ ds) (hv : hid d = false) (h0 : 0 ≤ j) (h1 : j < a + 5 + 2 * dep) (hl : levB a dep j = nxB a dep (levB a dep i)) : HighRow ds a dep i [(d, j)] :=
  ⟨by simp, fun m hm => by
    rw [List.mem_singleton] at hm
    subst hm
    exact ⟨hd, ⟨h0, by show j < _; omega⟩, by rw [if_neg (by show ¬ hid d = true; rw [hv]; decide)]; exact hl⟩⟩
theorem high_nil {ds : List Deed} {a dep : Nat} {i : Int} : HighRow ds a dep i [] := ⟨List.nodup_nil, fun m h => absurd h List.not_mem_nil⟩
theorem low_one {ds : List Deed} {a dep : Nat} {i j : Int} {d : Deed} (hd : d ∈ ds) (hv : hid d = false) (hl : j = nxB a dep i) : LowRow ds a dep i [(d, j)] :=
  ⟨by simp, fun m hm => by
    rw [List.mem_singleton] at hm
    subst hm
    exact ⟨hd, hv, hl⟩⟩
theorem low_nil {ds : List Deed} {a dep : Nat} {i : Int} : LowRow ds a dep i [] := ⟨List.nodup_nil, fun m h => absurd h List.not_mem_nil⟩
section
variable {a dep : Nat}
theorem lev1 {k : Nat} (h : k < a) : levB a dep (0 + (k : Int) + 1) = nxB a dep (levB a dep (0 + (k : Int))) := by
  simp only [levB, nxB]; repeat' split
  all_goals omega
theorem lev2 : levB a dep ((a : Int) + 1) = levB a dep (0 + (a : Int)) := by
  simp only [levB]; repeat' split
  all_goals omega
theorem lev3 : levB a dep ((a : Int) + 2) = nxB a dep (levB a dep (0 + (a : Int))) := by
  simp only [levB, nxB]; repeat' split
  all_goals omega
theorem lev4 : levB a dep ((a : Int) + 2 + dep + 1) = nxB a dep (levB a dep (0 + (a : Int) + 1)) := by
  simp only [levB, nxB]; repeat' split
  all_goals omega
theorem lev5 {k : Nat} (h : k < dep) : levB a dep ((a : Int) + 2 + (0 + (k : Int)) + 1) = nxB a dep (levB a dep ((a : Int) + 2 + k)) := by
  simp only [levB, nxB]; repeat' split
  all_goals omega
theorem lev6 : levB a dep ((a : Int) + 2 + dep + 1 + dep + 1) = nxB a dep (levB a dep ((a : Int) + 2 + dep)) := by
  simp only [levB, nxB]; repeat' split
  all_goals omega
theorem lev7 {k : Nat} (h : k < dep) : levB a dep ((a : Int) + 2 + dep + 1 + (0 + (k : Int)) + 1) = nxB a dep (levB a dep ((a : Int) + 2 + dep + 1 + k)) := by
  simp only [levB, nxB]; repeat' split
  all_goals omega
theorem lev8 : levB a dep ((a : Int) + 2 + dep + 1 + dep + 1) = nxB a dep (levB a dep ((a : Int) + 2 + dep + 1 + dep)) := by
  simp only [levB, nxB]; repeat' split
  all_goals omega
theorem lev9 : levB a dep 0 = nxB a dep (levB a dep ((a : Int) + 2 + dep + 1 + dep + 1)) := by
  simp only [levB, nxB]; repeat' split
  all_goals omega
theorem map_range_len {α : Type} {n : Nat} (f : Nat → α) : ((List.range n).map f).length = n := by rw [List.length_map, List.length_range]
def highA (a dep : Nat) (cd ad : Deed) : Rows := ((List.range a).map fun (k : Nat) => [(cd, 0 + (k : Int) + 1)]) ++ [[(ad, (a : Int) + 1), (cd, (a : Int) + 2)], [(cd, (a : Int) + 2 + (dep : Int) + 1)]]
def highB (a dep : Nat) (cd xd : Deed) : Rows := ((List.range dep).map fun (k : Nat) => [(cd, (a : Int) + 2 + (0 + (k : Int)) + 1)]) ++ [[(xd, (a : Int) + 2 + (dep : Int) + 1 + (dep : Int) + 1)]]
def highC (a dep : Nat) (cd yd : Deed) (B : List Move) : Rows := ((List.range dep).map fun (k : Nat) => [(cd, (a : Int) + 2 + (dep : Int) + 1 + (0 + (k : Int)) + 1)]) ++ [[(yd, (a : Int) + 2 + (dep : Int) + 1 + (dep : Int) + 1)], B]
def lowA (a dep : Nat) (cd xd yd : Deed) (B : List Move) : Rows := ((List.range (a + dep + 1)).map fun (k : Nat) => [(cd, 0 + (k : Int) + 1)]) ++ [[(xd, (a : Int) + dep + 2), (yd, (a : Int) + dep + 2)], B]
variable {ds : List Deed} {cd ad xd yd : Deed} {B : List Move}
theorem highA_len : (highA a dep cd ad).length = a + 2 := by simp [highA]
theorem highB_len : (highB a dep cd xd).length = dep + 1 := by simp [highB]
theorem highC_len : (highC a dep cd yd B).length = dep + 2 := by simp [highC]
theorem lowA_len : (lowA a dep cd xd yd B).length = a + dep + 3 := by simp [lowA]
theorem highA_ok (hc : cd ∈ ds ∧ hid cd = false) (ha : ad ∈ ds ∧ hid ad = true) : IxAll (HighRow ds a dep) 0 (highA a dep cd ad) := by
  refine IxAll.app (IxAll.rng fun k hk => high_one hc.1 hc.2 (by omega) (by omega) (lev1 hk)) (IxAll.app (S := [[(cd, (a : Int) + 2 + (dep : Int) + 1)]]) (R := [[(ad, (a : Int) + 1), (cd, (a : Int) + 2)]]) (IxAll.one ⟨?_, fun m hm => ?_⟩) (IxAll.one (high_one hc.1 hc.2 (by omega) (by omega) ?_)))
  · have : ad ≠ cd := by rintro rfl; rw [hc.2] at ha; cases ha.2
    simp [this]
  · rw [map_range_len]
    simp only [List.mem_cons, List.not_mem_nil, or_false] at hm
    rcases hm with rfl | rfl
    · refine ⟨ha.1, ⟨by show (0:Int) ≤ (a : Int) + 1; omega, by show (a : Int) + 1 < _; omega⟩, ?_⟩
      rw [if_pos ha.2]
      exact lev2
    · refine ⟨hc.1, ⟨by show (0:Int) ≤ (a : Int) + 2; omega, by show (a : Int) + 2 < _; omega⟩, ?_⟩
      rw [if_neg (by show ¬ hid cd = true; rw [hc.2]; decide)]
      exact lev3
  · rw [map_range_len]
    exact lev4
theorem highB_ok (hc : cd ∈ ds ∧ hid cd = false) (hx : xd ∈ ds ∧ hid xd = false) : IxAll (HighRow ds a dep) ((a : Int) + 2) (highB a dep cd xd) := by
  refine IxAll.app (IxAll.rng fun k hk => high_one hc.1 hc.2 (by omega) (by omega) (lev5 hk)) (IxAll.one (high_one hx.1 hx.2 (by omega) (by omega) ?_))
  rw [map_range_len]
  exact lev6
theorem back_ok {i : Int} (hB : B = [] ∨ B = [(cd, 0)]) (hc : cd ∈ ds ∧ hid cd = false) (hi : i = (a : Int) + 2 + dep + 1 + dep + 1) : HighRow ds a dep i B := by
  rcases hB with rfl | rfl
  · exact high_nil
  · exact high_one hc.1 hc.2 (by omega) (by omega) (by rw [hi]; exact lev9)
theorem highC_ok (hc : cd ∈ ds ∧ hid cd = false) (hy : yd ∈ ds ∧ hid yd = false) (hB : B = [] ∨ B = [(cd, 0)]) : IxAll (HighRow ds a dep) ((a : Int) + 2 + dep + 1) (highC a dep cd yd B) := by
  refine IxAll.app (IxAll.rng fun k hk => high_one hc.1 hc.2 (by omega) (by omega) (lev7 hk)) (IxAll.app (S := [B]) (R := [[(yd, (a : Int) + 2 + (dep : Int) + 1 + (dep : Int) + 1)]]) (IxAll.one (high_one hy.1 hy.2 (by omega) (by omega) ?_)) (IxAll.one (back_ok hB hc ?_)))
  · rw [map_range_len]
    exact lev8
  · rw [map_range_len, List.length_singleton]
    omega
theorem high_ok (hc : cd ∈ ds ∧ hid cd = false) (ha : ad ∈ ds ∧ hid ad = true) (hx : xd ∈ ds ∧ hid xd = false) (hy : yd ∈ ds ∧ hid yd = false) (hB : B = [] ∨ B = [(cd, 0)]) :
    IxAll (HighRow ds a dep) 0 (highA a dep cd ad ++ highB a dep cd xd ++ highC a dep cd yd B) := by
  refine IxAll.app (IxAll.app (highA_ok hc ha) ?_) ?_
  · rw [highA_len, show (0 : Int) + ((a + 2 : Nat) : Int) = (a : Int) + 2 by omega]
    exact highB_ok hc hx
  · rw [List.length_append, highA_len, highB_len, show (0 : Int) + ((a + 2 + (dep + 1) : Nat) : Int) = (a : Int) + 2 + dep + 1 by omega]
    exact highC_ok hc hy hB
theorem high_set {R0 : Rows} (h : IxAll (HighRow ds a dep) 0 R0) (hx : xd ∈ ds ∧ hid xd = false) (hy : yd ∈ ds ∧ hid yd = false) (hxy : xd ≠ yd) :
    IxAll (HighRow ds a dep) 0 (R0.set (a + 2 + dep + 1 + dep) [(yd, (a : Int) + 2 + dep + 1 + dep + 1), (xd, (a : Int) + 2 + dep + 1 + dep + 1)]) := by
  refine h.set ⟨by simp [Ne.symm hxy], fun m hm => ?_⟩
  rw [show (0 : Int) + ((a + 2 + dep + 1 + dep : Nat) : Int) = (a : Int) + 2 + dep + 1 + dep by omega]
  simp only [List.mem_cons, List.not_mem_nil, or_false] at hm
  rcases hm with rfl | rfl
  · refine ⟨hy.1, ⟨by show (0:Int) ≤ (a : Int) + 2 + dep + 1 + dep + 1; omega, by show (a : Int) + 2 + dep + 1 + dep + 1 < _; omega⟩, ?_⟩
    rw [if_neg (by show ¬ hid yd = true; rw [hy.2]; decide)]
    exact lev8
  · refine ⟨hx.1, ⟨by show (0:Int) ≤ (a : Int) + 2 + dep + 1 + dep + 1; omega, by show (a : Int) + 2 + dep + 1 + dep + 1 < _; omega⟩, ?_⟩
    rw [if_neg (by show ¬ hid xd = true; rw [hx.2]; decide)]
    exact lev8
theorem low_ok (hc : cd ∈ ds ∧ hid cd = false) (hx : xd ∈ ds ∧ hid xd = false) (hy : yd ∈ ds ∧ hid yd = false) (hxy : xd ≠ yd) (hB : B = [] ∨ B = [(cd, 0)]) : IxAll (LowRow ds a dep) 0 (lowA a dep cd xd yd B) := by
  refine IxAll.app (IxAll.rng fun k hk => low_one hc.1 hc.2 ?_) (IxAll.app (S := [B]) (R := [[(xd, (a : Int) + dep + 2), (yd, (a : Int) + dep + 2)]]) (IxAll.one ⟨by simp [hxy], fun m hm => ?_⟩) (IxAll.one ?_))
  · unfold nxB
    rw [if_neg (by omega)]
  · rw [map_range_len]
    simp only [List.mem_cons, List.not_mem_nil, or_false] at hm
    rcases hm with rfl | rfl
    · exact ⟨hx.1, hx.2, by unfold nxB; rw [if_neg (by omega)]; show (a : Int) + dep + 2 = _; omega⟩
    · exact ⟨hy.1, hy.2, by unfold nxB; rw [if_neg (by omega)]; show (a : Int) + dep + 2 = _; omega⟩
  · rw [map_range_len, List.length_singleton]
    rcases hB with rfl | rfl
    · exact low_nil
    · refine low_one hc.1 hc.2 ?_
      unfold nxB
      rw [if_pos (by omega)]
theorem low_set {R0 : Rows} (h : IxAll (LowRow ds a dep) 0 R0) (hx : xd ∈ ds ∧ hid xd = false) : IxAll (LowRow ds a dep) 0 (R0.set (a + dep + 2) [(xd, 0)]) := by
  refine h.set (low_one hx.1 hx.2 ?_)
  unfold nxB
  rw [if_pos (by omega)]
end
theorem int_two {dvs : List V} {n : Nat} (h : dvs.length = n) (hn : 0 < n) : (0 : Int) < ((dvs.length : Nat) : Int) := by omega
theorem sc__law_branch : FnScope (["_law_cell_here", "_law_menu_here", "_law_deeds", "_law_hidden", "_law_draws_here", "_law_ahead", "_law_depth", "_law_x", "_law_y", "_law_common", "_law_aside", "_law_left", "_law_right", "_law_end_here", "_law_back", "_law_high", "_law_last", "_law_low", "_law_deed", "_law_k"] : List Str) ["_law_cell_here", "_law_menu_here"] (defScope s_branch_L) := ⟨rfl, rfl, rfl, by decide +kernel, rfl, by decide +kernel, by decide +kernel⟩
theorem ok_branch (F : TF K "_law_branch" s_branch_L) (T : Tx K mg) (D__law_draws : DOk P w K mg base 1 "_law_draws" ["_law_cell_here", "_law_spans"] spDraws) :
    DOk P w K mg base 2 "_law_branch" ["_law_cell_here", "_law_menu_here"] spBranch := by
  refine dok F T.g__law_branch sc__law_branch (fun vs H Q E h => ?_) (fun _ _ _ _ _ _ us hl => match us, hl with | [_, _], _ => rfl) (fun cdv A outer s H vs Q E hr h => ?_)
  · obtain ⟨c, mv, ds, rfl, _⟩ := h
    rfl
  obtain ⟨c, mv, ds, rfl, hc, hM, mk, k⟩ := h
  obtain ⟨me, dvs, rfl, hme, hdP⟩ := id hM
  have hd8 := mk.le
  have hV2 := two_vis mk
  have hV5 : (vis ds).length ≤ 5 := mk.few
  have hh1 : 1 ≤ (ds.filter fun d => hid d).length := one_hid mk
  have hVn : (vis ds).Nodup := List.Sublist.nodup List.filter_sublist mk.nd
  have hvd : ∀ d ∈ vis ds, d ∈ ds ∧ hid d = false := fun d hd => ⟨(List.mem_filter.mp hd).1, by have := (List.mem_filter.mp hd).2; simpa using this⟩
  refine ⟨_, (pss_cons (ps_setLc (i := 2) (own := [("_law_deed", 18)]) rfl sc__law_branch.nd rfl rfl (sw_true rfl rfl rfl (by decide +kernel)) (pi_list (pv 1)) (blkOk_by (N := (["_law_cell_here", "_law_menu_here", "_law_deeds", "_law_hidden", "_law_draws_here", "_law_ahead", "_law_depth", "_law_x", "_law_y", "_law_common", "_law_aside", "_law_left", "_law_right", "_law_end_here", "_law_back", "_law_high", "_law_last", "_law_low", "_law_deed", "_law_k"] : List Str)) (sc := defScope s_branch_L) (by decide +kernel)) (fun _ _ _ _ _ => (pg_name (i := 18) sc__law_branch.nd rfl (Or.inl rfl))) (fun _ _ _ _ _ => (pts_one (pt_cmpR op_ne (pe_ix (ix_tupK (K := K)) (pv 18) pe_int (fun _ _ => rfl)) pe_str (nomark _)))) (fun _ _ _ _ _ => (pv 18)))
    (pss_cons (ps_setLc (i := 3) (own := [("_law_deed", 18)]) rfl sc__law_branch.nd rfl rfl (sw_true rfl rfl rfl (by decide +kernel)) (pi_list (pv 1)) (blkOk_by (N := (["_law_cell_here", "_law_menu_here", "_law_deeds", "_law_hidden", "_law_draws_here", "_law_ahead", "_law_depth", "_law_x", "_law_y", "_law_common", "_law_aside", "_law_left", "_law_right", "_law_end_here", "_law_back", "_law_high", "_law_last", "_law_low", "_law_deed", "_law_k"] : List Str)) (sc := defScope s_branch_L) (by decide +kernel)) (fun _ _ _ _ _ => (pg_name (i := 18) sc__law_branch.nd rfl (Or.inl rfl))) (fun _ _ _ _ _ => (pts_one (pt_cmpR op_eq (pe_ix (ix_tupK (K := K)) (pv 18) pe_int (fun _ _ => rfl)) pe_str (nomark _)))) (fun _ _ _ _ _ => (pv 18)))
    (pss_cons (ps_set (i := 4) sc__law_branch.nd rfl (Or.inl rfl) (pe_d D__law_draws (hr.mono (by decide)) (by rfl) (pa_cons (pv 0) (pa_cons (pe_lst (pa_cons pe_int (pa_cons pe_int (pa_cons pe_int (pa_cons pe_int (pa_cons pe_int (pa_cons pe_int (pa_cons pe_int (pa_cons pe_int pa_nil))))))))) pa_nil))))
    (pss_cons (ps_set (i := 5) sc__law_branch.nd rfl (Or.inl rfl) (pe_ix ix_list (pv 4) pe_int (fun _ _ => rfl)))
    (pss_cons (ps_set (i := 6) sc__law_branch.nd rfl (Or.inl rfl) (pe_ix ix_list (pv 4) pe_int (fun _ _ => rfl)))
    (pss_cons (ps_set (i := 7) sc__law_branch.nd rfl (Or.inl rfl) (pe_ix ix_list (pv 2) (pe_op op_mod (pe_callTy call_int1 (by rfl) T.f_int (by decide +kernel) (pa_cons (pe_ix ix_list (pv 4) pe_int (fun _ _ => rfl)) pa_nil)) (pe_callB call_len_seq (by rfl) T.f_len (by decide +kernel) (pa_cons (pv 2) pa_nil))) (fun _ _ => rfl)))
    (pss_cons (ps_set (i := 8) sc__law_branch.nd rfl (Or.inl rfl) (pe_ix ix_list (pv 2) (pe_op op_mod (pe_callTy call_int1 (by rfl) T.f_int (by decide +kernel) (pa_cons (pe_op op_add (pe_op op_add (pe_ix ix_list (pv 4) pe_int (fun _ _ => rfl)) pe_int) (pe_op op_mod (pe_callTy call_int1 (by rfl) T.f_int (by decide +kernel) (pa_cons (pe_ix ix_list (pv 4) pe_int (fun _ _ => rfl)) pa_nil)) (pe_op op_sub (pe_callB call_len_seq (by rfl) T.f_len (by decide +kernel) (pa_cons (pv 2) pa_nil)) pe_int))) pa_nil)) (pe_callB call_len_seq (by rfl) T.f_len (by decide +kernel) (pa_cons (pv 2) pa_nil))) (fun _ _ => rfl)))
    (pss_cons (ps_set (i := 9) sc__law_branch.nd rfl (Or.inr rfl) (pe_ix ix_list (pv 2) (pe_op op_mod (pe_callTy call_int1 (by rfl) T.f_int (by decide +kernel) (pa_cons (pe_ix ix_list (pv 4) pe_int (fun _ _ => rfl)) pa_nil)) (pe_callB call_len_seq (by rfl) T.f_len (by decide +kernel) (pa_cons (pv 2) pa_nil))) (fun _ _ => rfl)))
    (pss_cons (ps_set (i := 10) sc__law_branch.nd rfl (Or.inl rfl) (pe_ix ix_list (pv 3) (pe_op op_mod (pe_callTy call_int1 (by rfl) T.f_int (by decide +kernel) (pa_cons (pe_ix ix_list (pv 4) pe_int (fun _ _ => rfl)) pa_nil)) (pe_callB call_len_seq (by rfl) T.f_len (by decide +kernel) (pa_cons (pv 3) pa_nil))) (fun _ _ => rfl)))
    (pss_cons (ps_set (i := 11) sc__law_branch.nd rfl (Or.inr rfl) (pe_op op_add (pv 5) pe_int))
    (pss_cons (ps_set (i := 12) sc__law_branch.nd rfl (Or.inr rfl) (pe_op op_add (pe_op op_add (pv 11) (pv 6)) pe_int))
    (pss_cons (ps_set (i := 13) sc__law_branch.nd rfl (Or.inl rfl) (pe_op op_add (pe_op op_add (pv 12) (pv 6)) pe_int))
    (pss_cons (ps_set (i := 14) sc__law_branch.nd rfl (Or.inl rfl) (pe_lst pa_nil))
    (C8.pss_cut (ps_if (pt_cmpR op_eq (pe_ix ix_list (pv 4) pe_int (fun _ _ => rfl)) pe_int (nomark _)) (pss_one (ps_set (i := 14) sc__law_branch.nd rfl (Or.inl rfl) (pe_lst (pa_cons (pe_tup (pa_cons (pv 9) (pa_cons pe_int pa_nil))) pa_nil)))) pss_nil)
    (C8.pss_cut (ps_set (i := 15) sc__law_branch.nd rfl (Or.inl rfl) (pe_op op_cat (pe_lc (own := [("_law_k", 19)]) rfl sc__law_branch.nd (pi_range1 rfl T.f_range (pa_cons (pv 5) pa_nil)) (blkOk_by (N := (["_law_cell_here", "_law_menu_here", "_law_deeds", "_law_hidden", "_law_draws_here", "_law_ahead", "_law_depth", "_law_x", "_law_y", "_law_common", "_law_aside", "_law_left", "_law_right", "_law_end_here", "_law_back", "_law_high", "_law_last", "_law_low", "_law_deed", "_law_k"] : List Str)) (sc := defScope s_branch_L) (by decide +kernel)) (fun _ _ _ _ _ => (pg_name (i := 19) sc__law_branch.nd rfl (Or.inl rfl))) (fun _ _ _ _ _ => pts_nil) (fun _ _ _ _ _ => (pe_lst (pa_cons (pe_tup (pa_cons (pv 9) (pa_cons (pe_op op_add (pv 19) pe_int) pa_nil))) pa_nil)))) (pe_lst (pa_cons (pe_lst (pa_cons (pe_tup (pa_cons (pv 10) (pa_cons (pe_op op_add (pv 5) pe_int) pa_nil))) (pa_cons (pe_tup (pa_cons (pv 9) (pa_cons (pv 11) pa_nil))) pa_nil))) (pa_cons (pe_lst (pa_cons (pe_tup (pa_cons (pv 9) (pa_cons (pv 12) pa_nil))) pa_nil)) pa_nil)))))
    (C8.pss_cut (ps_set (i := 15) sc__law_branch.nd rfl (Or.inl rfl) (pe_op op_cat (pe_op op_cat (pv 15) (pe_lc (own := [("_law_k", 19)]) rfl sc__law_branch.nd (pi_range1 rfl T.f_range (pa_cons (pv 6) pa_nil)) (blkOk_by (N := (["_law_cell_here", "_law_menu_here", "_law_deeds", "_law_hidden", "_law_draws_here", "_law_ahead", "_law_depth", "_law_x", "_law_y", "_law_common", "_law_aside", "_law_left", "_law_right", "_law_end_here", "_law_back", "_law_high", "_law_last", "_law_low", "_law_deed", "_law_k"] : List Str)) (sc := defScope s_branch_L) (by decide +kernel)) (fun _ _ _ _ _ => (pg_name (i := 19) sc__law_branch.nd rfl (Or.inl rfl))) (fun _ _ _ _ _ => pts_nil) (fun _ _ _ _ _ => (pe_lst (pa_cons (pe_tup (pa_cons (pv 9) (pa_cons (pe_op op_add (pe_op op_add (pv 11) (pv 19)) pe_int) pa_nil))) pa_nil))))) (pe_lst (pa_cons (pe_lst (pa_cons (pe_tup (pa_cons (pv 7) (pa_cons (pv 13) pa_nil))) pa_nil)) pa_nil))))
    (C8.pss_cut (ps_set (i := 15) sc__law_branch.nd rfl (Or.inl rfl) (pe_op op_cat (pe_op op_cat (pv 15) (pe_lc (own := [("_law_k", 19)]) rfl sc__law_branch.nd (pi_range1 rfl T.f_range (pa_cons (pv 6) pa_nil)) (blkOk_by (N := (["_law_cell_here", "_law_menu_here", "_law_deeds", "_law_hidden", "_law_draws_here", "_law_ahead", "_law_depth", "_law_x", "_law_y", "_law_common", "_law_aside", "_law_left", "_law_right", "_law_end_here", "_law_back", "_law_high", "_law_last", "_law_low", "_law_deed", "_law_k"] : List Str)) (sc := defScope s_branch_L) (by decide +kernel)) (fun _ _ _ _ _ => (pg_name (i := 19) sc__law_branch.nd rfl (Or.inl rfl))) (fun _ _ _ _ _ => pts_nil) (fun _ _ _ _ _ => (pe_lst (pa_cons (pe_tup (pa_cons (pv 9) (pa_cons (pe_op op_add (pe_op op_add (pv 12) (pv 19)) pe_int) pa_nil))) pa_nil))))) (pe_lst (pa_cons (pe_lst (pa_cons (pe_tup (pa_cons (pv 8) (pa_cons (pv 13) pa_nil))) pa_nil)) (pa_cons (pv 14) pa_nil)))))
    (C8.pss_cut (ps_set (i := 16) sc__law_branch.nd rfl (Or.inl rfl) (pe_op op_add (pe_op op_add (pv 5) (pv 6)) pe_int))
    (C8.pss_cut (ps_set (i := 17) sc__law_branch.nd rfl (Or.inl rfl) (pe_op op_cat (pe_lc (own := [("_law_k", 19)]) rfl sc__law_branch.nd (pi_range1 rfl T.f_range (pa_cons (pe_op op_sub (pv 16) pe_int) pa_nil)) (blkOk_by (N := (["_law_cell_here", "_law_menu_here", "_law_deeds", "_law_hidden", "_law_draws_here", "_law_ahead", "_law_depth", "_law_x", "_law_y", "_law_common", "_law_aside", "_law_left", "_law_right", "_law_end_here", "_law_back", "_law_high", "_law_last", "_law_low", "_law_deed", "_law_k"] : List Str)) (sc := defScope s_branch_L) (by decide +kernel)) (fun _ _ _ _ _ => (pg_name (i := 19) sc__law_branch.nd rfl (Or.inl rfl))) (fun _ _ _ _ _ => pts_nil) (fun _ _ _ _ _ => (pe_lst (pa_cons (pe_tup (pa_cons (pv 9) (pa_cons (pe_op op_add (pv 19) pe_int) pa_nil))) pa_nil)))) (pe_lst (pa_cons (pe_lst (pa_cons (pe_tup (pa_cons (pv 7) (pa_cons (pv 16) pa_nil))) (pa_cons (pe_tup (pa_cons (pv 8) (pa_cons (pv 16) pa_nil))) pa_nil))) (pa_cons (pv 14) pa_nil)))))
    (C8.pss_cut (ps_if (pt_cmpR op_eq (pe_ix ix_list (pv 4) pe_int (fun _ _ => rfl)) pe_int (nomark _)) (pss_one (ps_asg (pe_lst (pa_cons (pe_tup (pa_cons (pv 8) (pa_cons (pv 13) pa_nil))) (pa_cons (pe_tup (pa_cons (pv 7) (pa_cons (pv 13) pa_nil))) pa_nil))) (pg_sub (pv 15) (pe_op op_sub (pv 13) pe_int) set_list))) pss_nil)
    (C8.pss_cut (ps_if (pt_cmpR op_eq (pe_ix ix_list (pv 4) pe_int (fun _ _ => rfl)) pe_int (nomark _)) (pss_one (ps_asg (pe_lst (pa_cons (pe_tup (pa_cons (pv 7) (pa_cons pe_int pa_nil))) pa_nil)) (pg_sub (pv 17) (pv 16) set_list))) pss_nil)
    (pss_one (ps_ret (pe_lst (pa_cons (pv 17) (pa_cons (pv 15) (pa_cons (pv 1) pa_nil))))))))))))))))))))))))))), ?_⟩
  refine ⟨_, rfl, me, rfl, ⟨_, SqL.of hme⟩, fun D1 hD1 => ?_⟩
  refine lc_filter (F := DeedAt) (b := 18) (p := fun d => !hid d) hme hdP (by omega) hD1 (fun t h => h.mono t) (fun v x H' Qb s h hx hq => ?_) (fun H1 dv1 s1 hv1 P1 => ?_)
  · obtain ⟨z, rfl, hz⟩ := h
    refine ⟨_, rfl, z, _, 1, _, rfl, rfl, SqT.of hz, rfl, rfl, _, rfl, ?_⟩
    rw [← hid_eq]
    exact hq
  have P1 : Paired (DeedAt H1) dv1 (vis ds) := P1
  refine ⟨_, rfl, me, rfl, ⟨_, SqL.of (s1 _ _ hme)⟩, fun D2 hD2 => ?_⟩
  refine lc_filter (F := DeedAt) (b := 18) (p := fun d => hid d) (s1 _ _ hme) (deeds_all hdP (Tups.same s1)) (by omega) hD2 (fun t h => h.mono t) (fun v x H' Qb s h hx hq => ?_) (fun H2 dv2 s2 hv2 P2 => ?_)
  · obtain ⟨z, rfl, hz⟩ := h
    refine ⟨_, rfl, z, _, 1, _, rfl, rfl, SqT.of hz, rfl, rfl, _, rfl, ?_⟩
    rw [← hid_eq]
    exact hq
  have s12 := s1.trans s2
  have L1 := paired_len P1
  have L2' := paired_len P2
  refine ⟨_, rfl, szk 8 rfl, fun p1 hp1 => ?_⟩
  have s3 : Same H2 (upd H2 p1 (.lst ([26, 6, 6, 5, 5, 5, 3, 3].map V.int))) := Same.new1 hp1
  refine ⟨c, p1, [26, 6, 6, 5, 5, 5, 3, 3], rfl, upd_same, by decide, by decide, hc, fun dr dp H3 hdp s4 hdr hdw => ?_⟩
  have s34 := s3.trans s4
  have s14 := s12.trans s34
  obtain ⟨x0, hx0, b0⟩ := hdw.get (i := 0) rfl
  obtain ⟨x1, hx1, b1⟩ := hdw.get (i := 1) rfl
  obtain ⟨x2, hx2, b2⟩ := hdw.get (i := 2) rfl
  obtain ⟨x3, hx3, b3⟩ := hdw.get (i := 3) rfl
  obtain ⟨x4, hx4, b4⟩ := hdw.get (i := 4) rfl
  obtain ⟨x5, hx5, b5⟩ := hdw.get (i := 5) rfl
  obtain ⟨x6, hx6, b6⟩ := hdw.get (i := 6) rfl
  obtain ⟨x7, hx7, b7⟩ := hdw.get (i := 7) rfl
  obtain ⟨a, rfl⟩ : ∃ a : Nat, x0 = (a : Nat) := ⟨x0.toNat, by omega⟩
  obtain ⟨dep, rfl⟩ : ∃ a : Nat, x1 = (a : Nat) := ⟨x1.toNat, by omega⟩
  have hD1' : H3 D1 = some (.lst dv1) := s34 _ _ (s2 _ _ hv1)
  have hD2' : H3 D2 = some (.lst dv2) := s34 _ _ hv2
  have Q1 := deeds_all P1 (Tups.same (s2.trans s34))
  have Q2 := deeds_all P2 (Tups.same s34)
  have pick : ∀ i : Int, 0 ≤ i → i < ((dv1.length : Nat) : Int) → ∃ v d, atI dv1 i = some v ∧ (vis ds)[i.toNat]? = some d ∧ DeedAt H3 v d := fun i h0 h1 => by
    obtain ⟨v, hv, q⟩ := paired_getR Q1 (List.getElem?_eq_getElem (show i.toNat < (vis ds).length by omega))
    exact ⟨v, _, atI_of h0 hv, List.getElem?_eq_getElem _, q⟩
  have hp0 : (0 : Int) < ((dv1.length : Nat) : Int) := by omega
  refine ⟨_, rfl, dp, _, 0, _, rfl, rfl, SqL.of hdr, atI_ints (by decide) hx0, ?_⟩
  refine ⟨_, rfl, dp, _, 1, _, rfl, rfl, SqL.of hdr, atI_ints (by decide) hx1, ?_⟩
  obtain ⟨xv, xd, hxa, hxg, hxd⟩ := pick (x3 % ((dv1.length : Nat) : Int)) (Int.emod_nonneg _ (by omega)) (Int.emod_lt_of_pos _ hp0)
  refine ⟨_, rfl, _, rfl, dp, _, 3, _, rfl, rfl, SqL.of hdr, atI_ints (by decide) hx3, .inl ⟨_, rfl, _, rfl, D1, _, rfl, .inl (SqL.of hD1'), _, _, rfl, rfl, hp0, D1, _, _, _, rfl, rfl, SqL.of hD1', hxa, ?_⟩⟩
  have ht1 := Int.emod_nonneg x4 (b := ((dv1.length : Nat) : Int) - 1) (by omega)
  have ht2 := Int.emod_lt_of_pos x4 (show (0 : Int) < ((dv1.length : Nat) : Int) - 1 by omega)
  obtain ⟨yv, yd, hya, hyg, hyd⟩ := pick ((x3 + 1 + x4 % (((dv1.length : Nat) : Int) - 1)) % ((dv1.length : Nat) : Int)) (Int.emod_nonneg _ (by omega)) (Int.emod_lt_of_pos _ hp0)
  have hxy : xd ≠ yd := by
    intro e
    subst e
    have i1 := Int.emod_lt_of_pos x3 hp0
    have i2 := Int.emod_nonneg x3 (b := ((dv1.length : Nat) : Int)) (by omega)
    have i3 := Int.emod_lt_of_pos (x3 + 1 + x4 % (((dv1.length : Nat) : Int) - 1)) hp0
    have i4 := Int.emod_nonneg (x3 + 1 + x4 % (((dv1.length : Nat) : Int) - 1)) (b := ((dv1.length : Nat) : Int)) (by omega)
    have e3 := nodup_inj hVn hxg hyg
    have e4 : x3 % ((dv1.length : Nat) : Int) = (x3 + 1 + x4 % (((dv1.length : Nat) : Int) - 1)) % ((dv1.length : Nat) : Int) := by omega
    generalize x4 % (((dv1.length : Nat) : Int) - 1) = t at *
    have e5 : (x3 + 1 + t - x3) % ((dv1.length : Nat) : Int) = 0 := by
      rw [Int.sub_emod, ← e4, Int.sub_self, Int.zero_emod]
    rw [show x3 + 1 + t - x3 = 1 + t by omega, Int.emod_eq_of_lt (by omega) (by omega)] at e5
    omega
  refine ⟨_, rfl, _, rfl, dp, _, 3, _, rfl, rfl, SqL.of hdr, atI_ints (by decide) hx3, _, _, rfl, rfl, _, rfl, dp, _, 4, _, rfl, rfl, SqL.of hdr, atI_ints (by decide) hx4, .inl ⟨_, rfl, _, rfl, D1, _, rfl, .inl (SqL.of hD1'), _, _, rfl, rfl, _, _, rfl, rfl, ?_, _, _, rfl, rfl, .inl ⟨_, rfl, _, rfl, D1, _, rfl, .inl (SqL.of hD1'), _, _, rfl, rfl, hp0, D1, _, _, _, rfl, rfl, SqL.of hD1', hya, ?_⟩⟩⟩
  · show (0 : Int) < ((dv1.length : Nat) : Int) - 1
    omega
  obtain ⟨cv, cd, hca, hcg, hcd⟩ := pick (x5 % ((dv1.length : Nat) : Int)) (Int.emod_nonneg _ (by omega)) (Int.emod_lt_of_pos _ hp0)
  refine ⟨_, rfl, _, rfl, dp, _, 5, _, rfl, rfl, SqL.of hdr, atI_ints (by decide) hx5, .inl ⟨_, rfl, _, rfl, D1, _, rfl, .inl (SqL.of hD1'), _, _, rfl, rfl, hp0, D1, _, _, _, rfl, rfl, SqL.of hD1', hca, ?_⟩⟩
  have hp2 : (0 : Int) < ((dv2.length : Nat) : Int) := by omega
  have i5 := Int.emod_nonneg x6 (b := ((dv2.length : Nat) : Int)) (by omega)
  have i6 := Int.emod_lt_of_pos x6 hp2
  have hag := List.getElem?_eq_getElem (l := ds.filter fun d => hid d) (i := (x6 % ((dv2.length : Nat) : Int)).toNat) (by omega)
  obtain ⟨av, hav, had⟩ := paired_getR Q2 hag
  generalize ((ds.filter fun d => hid d)[(x6 % ((dv2.length : Nat) : Int)).toNat]'_) = ad at hag had
  have hadm := List.mem_filter.mp (List.mem_of_getElem? hag)
  refine ⟨_, rfl, _, rfl, dp, _, 6, _, rfl, rfl, SqL.of hdr, atI_ints (by decide) hx6, .inl ⟨_, rfl, _, rfl, D2, _, rfl, .inl (SqL.of hD2'), _, _, rfl, rfl, hp2, D2, _, _, _, rfl, rfl, SqL.of hD2', atI_of i5 hav, ?_⟩⟩
  have hx' := hvd xd (List.mem_of_getElem? hxg)
  have hy' := hvd yd (List.mem_of_getElem? hyg)
  have hc' := hvd cd (List.mem_of_getElem? hcg)
  refine ⟨_, rfl, _, _, rfl, rfl, ?_⟩
  refine ⟨_, rfl, _, rfl, _, _, rfl, rfl, _, _, rfl, rfl, ?_⟩
  refine ⟨_, rfl, _, rfl, _, _, rfl, rfl, _, _, rfl, rfl, ?_⟩
  refine ⟨Nat.zero_le _, fun b0' hb0' => ?_⟩
  have s5 : Same H3 (upd H3 b0' (.lst [])) := Same.new1 hb0'
  -- the way back
  refine ⟨fun σ H4 => ∃ (bk : Addr) (B : List Move), σ = [some (.int c), some (.ref me), some (.ref D1), some (.ref D2), some (.ref dp), some (.int (a : Nat)), some (.int (dep : Nat)), some xv, some yv, some cv, some av, some (.int ((a : Nat) + 2)),
      some (.int ((a : Nat) + 2 + (dep : Nat) + 1)), some (.int ((a : Nat) + 2 + (dep : Nat) + 1 + (dep : Nat) + 1)), some (.ref bk), none, none, none, none, none] ∧ Same H3 H4 ∧ MovesAt H4 (.ref bk) B ∧ (B = [] ∨ B = [(cd, 0)]), ?_, ?_⟩
  · refine ⟨_, rfl, dp, _, 7, _, rfl, rfl, SqL.of (s5 _ _ hdr), atI_ints (by decide) hx7, rfl, _, rfl, ite2 (fun _ => ?_) (fun _ => ⟨b0', [], rfl, s5, ⟨b0', [], rfl, upd_same, .nil⟩, .inl rfl⟩)⟩
    refine ⟨_, rfl, szk 2 rfl, fun p hp => ⟨szk 1 rfl, fun q hq => ?_⟩⟩
    obtain ⟨s6, hm, _⟩ := one_move (n := 0) (hcd.mono (Tups.same s5)) hp hq
    exact ⟨q, _, rfl, s5.trans s6, hm, .inr rfl⟩
  rintro σ H4 ⟨bk, B, rfl, s6, hB, hBc⟩
  -- high, first part
  refine ⟨fun σ H7 => ∃ (h : Addr), σ = [some (.int c), some (.ref me), some (.ref D1), some (.ref D2), some (.ref dp), some (.int (a : Nat)), some (.int (dep : Nat)), some xv, some yv, some cv, some av, some (.int ((a : Nat) + 2)),
      some (.int ((a : Nat) + 2 + (dep : Nat) + 1)), some (.int ((a : Nat) + 2 + (dep : Nat) + 1 + (dep : Nat) + 1)), some (.ref bk), some (.ref h), none, none, none, none] ∧ Same H4 H7 ∧ RowsAt H7 (.ref h) (highA a dep cd ad), ?_, ?_⟩
  · refine ⟨_, rfl, _, rfl, by omega, by omega, fun D hD => ?_⟩
    rw [show ((a : Nat) : Int).toNat = a by omega]
    refine lc_rows (n := a) (b := 19) (j := 9) (f := fun k => 0 + (k : Int) + 1) (by omega) hD (hcd.mono (Tups.same s6)) (fun k H' Q _ hq => ⟨_, rfl, _, _, rfl, rfl, hq⟩) (fun H5 vs1 s7 hv1 R1 => ?_)
    have c7 := s6.trans s7
    refine ⟨_, rfl, _, rfl, _, _, rfl, rfl, szk 2 rfl, fun p hp => ⟨_, rfl, _, rfl, szk 2 rfl, fun p2 hp2 => ⟨szk 2 rfl, fun q hq => ?_⟩⟩⟩
    obtain ⟨s8, hm1⟩ := two_moves (had.mono (Tups.same c7)) (hcd.mono (Tups.same c7)) hp hp2 hq
    refine ⟨_, rfl, _, rfl, szk 2 rfl, fun p3 hp3 => ⟨szk 1 rfl, fun q2 hq2 => ⟨szk 2 rfl, fun q3 hq3 => ?_⟩⟩⟩
    have c8 := c7.trans s8
    obtain ⟨s9, hm2, _⟩ := one_move (n := (a : Nat) + 2 + (dep : Nat) + 1) (hcd.mono (Tups.same c8)) hp3 hq2
    have s10 := Same.new1 (o := .lst [V.ref q, V.ref q2]) hq3
    have s810 := s8.trans (s9.trans s10)
    have vl1 := paired_len R1
    rw [map_range_len] at vl1
    refine ⟨D, q3, _, _, rfl, rfl, s810 _ _ hv1, upd_same, szL (by simp; omega), fun h1 hh1' => ?_⟩
    have s11 := Same.new1 (o := .lst (vs1 ++ [V.ref q, V.ref q2])) hh1'
    exact ⟨h1, rfl, s7.trans (s810.trans s11), h1, _, rfl, upd_same, paired_app (rows_all R1 (s810.trans s11)) (.cons (hm1.mono (s9.trans (s10.trans s11))) (.cons (hm2.mono (s10.trans s11)) .nil))⟩
  rintro σ H7 ⟨h1, rfl, s7, h1', w1, eh, hw1, A1⟩
  injection eh with eh
  subst eh
  have c7 := s6.trans s7
  have wl1 := paired_len A1
  rw [highA_len] at wl1
  -- its second part
  refine ⟨fun σ H8 => ∃ (h : Addr), σ = [some (.int c), some (.ref me), some (.ref D1), some (.ref D2), some (.ref dp), some (.int (a : Nat)), some (.int (dep : Nat)), some xv, some yv, some cv, some av, some (.int ((a : Nat) + 2)),
      some (.int ((a : Nat) + 2 + (dep : Nat) + 1)), some (.int ((a : Nat) + 2 + (dep : Nat) + 1 + (dep : Nat) + 1)), some (.ref bk), some (.ref h), none, none, none, none] ∧ Same H7 H8 ∧ RowsAt H8 (.ref h) (highA a dep cd ad ++ highB a dep cd xd), ?_, ?_⟩
  · refine ⟨_, rfl, _, rfl, _, rfl, by omega, by omega, fun D hD => ?_⟩
    rw [show ((dep : Nat) : Int).toNat = dep by omega]
    refine lc_rows (n := dep) (b := 19) (j := 9) (f := fun k => (a : Int) + 2 + (0 + (k : Int)) + 1) (by omega) hD (hcd.mono (Tups.same c7)) (fun k H' Q _ hq => ⟨_, rfl, _, rfl, _, _, rfl, rfl, _, _, rfl, rfl, hq⟩) (fun H8 vs2 s8 hv2' R2 => ?_)
    have vl2 := paired_len R2
    rw [map_range_len] at vl2
    refine ⟨h1, D, _, _, rfl, rfl, s8 _ _ hw1, hv2', szL (by omega), fun h2 hh2 => ?_⟩
    have s9 := Same.new1 (o := .lst (w1 ++ vs2)) hh2
    have c9 := c7.trans (s8.trans s9)
    refine ⟨_, rfl, _, rfl, szk 2 rfl, fun p3 hp3 => ⟨szk 1 rfl, fun q2 hq2 => ⟨szk 1 rfl, fun q3 hq3 => ?_⟩⟩⟩
    obtain ⟨s10, hm2, _⟩ := one_move (n := (a : Nat) + 2 + (dep : Nat) + 1 + (dep : Nat) + 1) (hxd.mono (Tups.same c9)) hp3 hq2
    have s11 := Same.new1 (o := .lst [V.ref q2]) hq3
    refine ⟨h2, q3, _, _, rfl, rfl, (s10.trans s11) _ _ upd_same, upd_same, szL (by simp; omega), fun h3 hh3 => ?_⟩
    have s12 := Same.new1 (o := .lst (w1 ++ vs2 ++ [V.ref q2])) hh3
    have s912 := s9.trans (s10.trans (s11.trans s12))
    refine ⟨h3, rfl, s8.trans s912, h3, _, rfl, upd_same, ?_⟩
    unfold highB
    rw [← List.append_assoc]
    exact paired_app (paired_app (rows_all A1 (s8.trans s912)) (rows_all R2 s912)) (.cons (hm2.mono (s11.trans s12)) .nil)
  rintro σ H8 ⟨h2, rfl, s8, h2', w2, eh, hw2, A2⟩
  injection eh with eh
  subst eh
  have c8 := c7.trans s8
  have wl2 := paired_len A2
  rw [List.length_append, highA_len, highB_len] at wl2
  -- its third part
  refine ⟨fun σ H9 => ∃ (h : Addr), σ = [some (.int c), some (.ref me), some (.ref D1), some (.ref D2), some (.ref dp), some (.int (a : Nat)), some (.int (dep : Nat)), some xv, some yv, some cv, some av, some (.int ((a : Nat) + 2)),
      some (.int ((a : Nat) + 2 + (dep : Nat) + 1)), some (.int ((a : Nat) + 2 + (dep : Nat) + 1 + (dep : Nat) + 1)), some (.ref bk), some (.ref h), none, none, none, none] ∧ Same H8 H9 ∧ RowsAt H9 (.ref h) (highA a dep cd ad ++ highB a dep cd xd ++ highC a dep cd yd B) ∧ H3 h = none, ?_, ?_⟩
  · refine ⟨_, rfl, _, rfl, _, rfl, by omega, by omega, fun D hD => ?_⟩
    rw [show ((dep : Nat) : Int).toNat = dep by omega]
    refine lc_rows (n := dep) (b := 19) (j := 9) (f := fun k => (a : Int) + 2 + (dep : Int) + 1 + (0 + (k : Int)) + 1) (by omega) hD (hcd.mono (Tups.same c8)) (fun k H' Q _ hq => ⟨_, rfl, _, rfl, _, _, rfl, rfl, _, _, rfl, rfl, hq⟩) (fun H9 vs3 s9 hv3 R3 => ?_)
    have vl3 := paired_len R3
    rw [map_range_len] at vl3
    refine ⟨h2, D, _, _, rfl, rfl, s9 _ _ hw2, hv3, szL (by omega), fun h3 hh3 => ?_⟩
    have s10 := Same.new1 (o := .lst (w2 ++ vs3)) hh3
    have c10 := c8.trans (s9.trans s10)
    refine ⟨_, rfl, _, rfl, szk 2 rfl, fun p3 hp3 => ⟨szk 1 rfl, fun q2 hq2 => ⟨_, rfl, szk 2 rfl, fun q3 hq3 => ?_⟩⟩⟩
    obtain ⟨s11, hm2, _⟩ := one_move (n := (a : Nat) + 2 + (dep : Nat) + 1 + (dep : Nat) + 1) (hyd.mono (Tups.same c10)) hp3 hq2
    have s12' := Same.new1 (o := .lst [V.ref q2, V.ref bk]) hq3
    refine ⟨h3, q3, _, _, rfl, rfl, (s11.trans s12') _ _ upd_same, upd_same, szL (by simp; omega), fun h4 hh4 => ?_⟩
    have s13 := Same.new1 (o := .lst (w2 ++ vs3 ++ [V.ref q2, V.ref bk])) hh4
    have s1013 := s10.trans (s11.trans (s12'.trans s13))
    refine ⟨h4, rfl, s9.trans s1013, ⟨h4, _, rfl, upd_same, ?_⟩, fresh_back (c8.trans (s9.trans (s10.trans (s11.trans s12')))) hh4⟩
    rw [show highA a dep cd ad ++ highB a dep cd xd ++ highC a dep cd yd B = (highA a dep cd ad ++ highB a dep cd xd ++ ((List.range dep).map fun (k : Nat) => [(cd, (a : Int) + 2 + (dep : Int) + 1 + (0 + (k : Int)) + 1)])) ++ [[(yd, (a : Int) + 2 + (dep : Int) + 1 + (dep : Int) + 1)], B] by unfold highC; simp only [List.append_assoc]]
    exact paired_app (paired_app (rows_all A2 (s9.trans s1013)) (rows_all R3 s1013)) (.cons (hm2.mono (s12'.trans s13)) (.cons (hB.mono (s7.trans (s8.trans (s9.trans s1013)))) .nil))
  rintro σ H9 ⟨h3, rfl, s9, A3, hh3⟩
  have c9 := c8.trans s9
  have I3 := high_ok (a := a) (dep := dep) hc' hadm hx' hy' hBc
  have Z3 : (highA a dep cd ad ++ highB a dep cd xd ++ highC a dep cd yd B).length = a + 5 + 2 * dep := by rw [List.length_append, List.length_append, highA_len, highB_len, highC_len]; omega
  generalize highA a dep cd ad ++ highB a dep cd xd ++ highC a dep cd yd B = G at A3 I3 Z3
  refine ⟨fun σ H10 => σ = [some (.int c), some (.ref me), some (.ref D1), some (.ref D2), some (.ref dp), some (.int (a : Nat)), some (.int (dep : Nat)), some xv, some yv, some cv, some av, some (.int ((a : Nat) + 2)),
      some (.int ((a : Nat) + 2 + (dep : Nat) + 1)), some (.int ((a : Nat) + 2 + (dep : Nat) + 1 + (dep : Nat) + 1)), some (.ref bk), some (.ref h3), some (.int ((a : Nat) + (dep : Nat) + 2)), none, none, none] ∧ H9 = H10, ?_, ?_⟩
  · exact ⟨_, rfl, _, rfl, _, _, rfl, rfl, _, _, rfl, rfl, rfl, rfl⟩
  rintro σ _ ⟨rfl, rfl⟩
  -- low
  refine ⟨fun σ H10 => ∃ (l : Addr), σ = [some (.int c), some (.ref me), some (.ref D1), some (.ref D2), some (.ref dp), some (.int (a : Nat)), some (.int (dep : Nat)), some xv, some yv, some cv, some av, some (.int ((a : Nat) + 2)),
      some (.int ((a : Nat) + 2 + (dep : Nat) + 1)), some (.int ((a : Nat) + 2 + (dep : Nat) + 1 + (dep : Nat) + 1)), some (.ref bk), some (.ref h3), some (.int ((a : Nat) + (dep : Nat) + 2)), some (.ref l), none, none] ∧ Same H9 H10 ∧ RowsAt H10 (.ref l) (lowA a dep cd xd yd B) ∧ h3 ≠ l ∧ H3 l = none, ?_, ?_⟩
  · refine ⟨_, rfl, _, _, rfl, rfl, _, rfl, by omega, by omega, fun D hD => ?_⟩
    rw [show (((a : Nat) : Int) + (dep : Nat) + 2 - 1).toNat = a + dep + 1 by omega]
    refine lc_rows (n := a + dep + 1) (b := 19) (j := 9) (f := fun k => 0 + (k : Int) + 1) (by omega) hD (hcd.mono (Tups.same c9)) (fun k H' Q _ hq => ⟨_, rfl, _, _, rfl, rfl, hq⟩) (fun H10 vs4 s10 hv4 R4 => ?_)
    have vl4 := paired_len R4
    rw [map_range_len] at vl4
    have c10 := c9.trans s10
    refine ⟨_, rfl, _, rfl, szk 2 rfl, fun p hp => ⟨_, rfl, _, rfl, szk 2 rfl, fun p2 hp2 => ⟨szk 2 rfl, fun q hq => ⟨_, rfl, szk 2 rfl, fun q3 hq3 => ?_⟩⟩⟩⟩
    obtain ⟨s11, hm1⟩ := two_moves (hxd.mono (Tups.same c10)) (hyd.mono (Tups.same c10)) hp hp2 hq
    have s12' := Same.new1 (o := .lst [V.ref q, V.ref bk]) hq3
    refine ⟨D, q3, _, _, rfl, rfl, (s11.trans s12') _ _ hv4, upd_same, szL (by simp; omega), fun l hl => ?_⟩
    have s13 := Same.new1 (o := .lst (vs4 ++ [V.ref q, V.ref bk])) hl
    obtain ⟨h3', w3, eh, hw3, _⟩ := id A3
    injection eh with eh
    subst eh
    refine ⟨l, rfl, s10.trans (s11.trans (s12'.trans s13)), ⟨l, _, rfl, upd_same, paired_app (rows_all R4 (s11.trans (s12'.trans s13))) (.cons (hm1.mono (s12'.trans s13)) (.cons (hB.mono (s7.trans (s8.trans (s9.trans (s10.trans (s11.trans (s12'.trans s13))))))) .nil))⟩, ?_, fresh_back (c10.trans (s11.trans s12')) hl⟩
    rintro rfl
    rw [(s10.trans (s11.trans s12')) _ _ hw3] at hl
    cases hl
  rintro σ H10 ⟨l, rfl, s10, AL, h3l, hl0⟩
  have c10 := c9.trans s10
  have IL := low_ok (a := a) (dep := dep) hc' hx' hy' hxy hBc
  have ZL := lowA_len (a := a) (dep := dep) (cd := cd) (xd := xd) (yd := yd) (B := B)
  generalize lowA a dep cd xd yd B = G2 at AL IL ZL
  have hm10 := hM.mono (s14.trans c10)
  -- the two last changes
  refine ⟨fun σ H11 => σ = [some (.int c), some (.ref me), some (.ref D1), some (.ref D2), some (.ref dp), some (.int (a : Nat)), some (.int (dep : Nat)), some xv, some yv, some cv, some av, some (.int ((a : Nat) + 2)),
      some (.int ((a : Nat) + 2 + (dep : Nat) + 1)), some (.int ((a : Nat) + 2 + (dep : Nat) + 1 + (dep : Nat) + 1)), some (.ref bk), some (.ref h3), some (.int ((a : Nat) + (dep : Nat) + 2)), some (.ref l), none, none] ∧ Same H H11 ∧ Tups H10 H11 ∧ H11 dp = some (.lst (dr.map V.int)) ∧
      RowsAt H11 (.ref l) G2 ∧ (∃ G', RowsAt H11 (.ref h3) G' ∧ IxAll (HighRow ds a dep) 0 G' ∧ G'.length = a + 5 + 2 * dep), ?_, ?_⟩
  · have hd10 := c10 _ _ hdr
    refine ⟨_, rfl, dp, _, 7, _, rfl, rfl, SqL.of hd10, atI_ints (by decide) hx7, rfl, _, rfl, ite2 (fun _ => ?_) (fun _ => ⟨rfl, s14.trans c10, Tups.refl _, hd10, AL, G, A3.mono s10, I3, Z3⟩)⟩
    refine ⟨_, rfl, _, rfl, szk 2 rfl, fun p hp => ⟨_, rfl, _, rfl, szk 2 rfl, fun p2 hp2 => ⟨szk 2 rfl, fun q hq => ?_⟩⟩⟩
    obtain ⟨s11, hm1⟩ := two_moves (n := (a : Nat) + 2 + (dep : Nat) + 1 + (dep : Nat) + 1) (n2 := (a : Nat) + 2 + (dep : Nat) + 1 + (dep : Nat) + 1) (hyd.mono (Tups.same c10)) (hxd.mono (Tups.same c10)) hp hp2 hq
    obtain ⟨h3', w3, eh, hw3, A3'⟩ := id (A3.mono (s10.trans s11))
    injection eh with eh
    subst eh
    have wl3 := paired_len A3'
    refine ⟨_, rfl, _, rfl, _, _, rfl, rfl, h3, w3, _, a + 2 + dep + 1 + dep, rfl, rfl, hw3, ?_, rfl, ?_⟩
    · unfold ixN
      rw [if_pos (by omega), if_pos (by omega)]
      exact congrArg some (by omega)
    obtain ⟨l', wl, el, hwl, AL'⟩ := id (AL.mono s11)
    injection el with el
    subst el
    have h31 : 1 ≤ G.length := by omega
    have keep : ∀ {v : V} {ml : List Move}, MovesAt _ v ml → MovesAt _ v ml := fun m => rows_set (w := w3.set (a + 2 + dep + 1 + dep) (.ref q)) hw3 A3' h31 m
    have hh30 : H h3 = none := fresh_back s14 hh3
    have hdh3 : dp ≠ h3 := by rintro rfl; rw [hdr] at hh3; cases hh3
    refine ⟨Same.mut (s14.trans (c10.trans s11)) hh30, (Tups.same s11).trans (Tups.upd (not_tup hw3)), ?_, ⟨l, wl, rfl, ?_, ?_⟩, _, ⟨h3, _, rfl, upd_same, paired_set (Paired.mapP A3' fun _ _ m => keep m) (keep hm1) _⟩, high_set I3 hx' hy' hxy, by rw [List.length_set]; exact Z3⟩
    · rw [upd_ne hdh3]
      exact s11 _ _ hd10
    · rw [upd_ne (Ne.symm h3l)]
      exact hwl
    · exact Paired.mapP AL' fun _ _ m => keep m
  rintro σ H11 ⟨rfl, s11, t11, hd11, AL11, G', A11, I11, Z11⟩
  have hxd11 := (hxd.mono (Tups.same c10)).mono t11
  refine ⟨fun σ H12 => ∃ lo, σ = [some (.int c), some (.ref me), some (.ref D1), some (.ref D2), some (.ref dp), some (.int (a : Nat)), some (.int (dep : Nat)), some xv, some yv, some cv, some av, some (.int ((a : Nat) + 2)),
      some (.int ((a : Nat) + 2 + (dep : Nat) + 1)), some (.int ((a : Nat) + 2 + (dep : Nat) + 1 + (dep : Nat) + 1)), some (.ref bk), some (.ref h3), some (.int ((a : Nat) + (dep : Nat) + 2)), some (.ref l), none, none] ∧ Same H H12 ∧
      RowsAt H12 (.ref l) lo ∧ RowsAt H12 (.ref h3) G' ∧ IxAll (LowRow ds a dep) 0 lo ∧ lo.length = a + dep + 3, ?_, ?_⟩
  · refine ⟨_, rfl, dp, _, 2, _, rfl, rfl, SqL.of hd11, atI_ints (by decide) hx2, rfl, _, rfl, ite2 (fun _ => ?_) (fun _ => ⟨G2, rfl, s11, AL11, A11, IL, ZL⟩)⟩
    refine ⟨_, rfl, szk 2 rfl, fun p hp => ⟨szk 1 rfl, fun q hq => ?_⟩⟩
    obtain ⟨s12', hm1, _⟩ := one_move (n := 0) hxd11 hp hq
    obtain ⟨l', wl, el, hwl, AL'⟩ := id (AL11.mono s12')
    injection el with el
    subst el
    obtain ⟨h3', w3, eh, hw3, A3'⟩ := id (A11.mono s12')
    injection eh with eh
    subst eh
    have wll := paired_len AL'
    refine ⟨_, rfl, _, rfl, l, wl, _, a + dep + 2, rfl, rfl, hwl, ?_, ?_⟩
    · unfold ixN
      rw [if_pos (by omega), if_pos (by omega)]
      exact congrArg some (by omega)
    have keep : ∀ {v : V} {ml : List Move}, MovesAt _ v ml → MovesAt _ v ml := fun m => rows_set (w := wl.set (a + dep + 2) (.ref q)) hwl AL' (by omega) m
    exact ⟨_, rfl, Same.mut (s11.trans s12') (fresh_back s14 hl0), ⟨l, _, rfl, upd_same, paired_set (Paired.mapP AL' fun _ _ m => keep m) (keep hm1) _⟩, ⟨h3, w3, rfl, by rw [upd_ne h3l]; exact hw3, Paired.mapP A3' fun _ _ m => keep m⟩, low_set IL hx', by rw [List.length_set]; exact ZL⟩
  rintro σ H12 ⟨lo, rfl, s12', ALo, AHi, ILo, ZLo⟩
  refine ⟨_, rfl, _, rfl, _, rfl, szk 3 rfl, fun q hq => ?_⟩
  have s13 := Same.new1 (o := .lst [V.ref l, V.ref h3, V.ref me]) hq
  exact k q (.ref l) (.ref h3) (.ref me) lo G' _ (fresh_back s12' hq) (s12'.trans s13) upd_same (ALo.mono s13) (AHi.mono s13) (hM.mono (s12'.trans s13)) ⟨a, dep, by omega, by omega, ZLo, Z11, I11, ILo⟩
end
end Ct
set_option maxHeartbeats 4000000
/-! The world. -/
namespace Ct
open PySem PySem.Spec PyProof.Rows L2 Nd
open CM (InR Wf Qt Rep row reps)
structure Wld (lo hi : Rows) (ds : List Deed) : Prop where
  menu : MenuOk ds
  gl : Good ds lo
  gh : Good ds hi
  shape : (lo.length ≤ 12 ∧ hi.length ≤ 6) ∨ (lo.length ≤ 31 ∧ hi.length ≤ 31 ∧ Rung hi) ∨ Levels ds lo hi
section
variable {P : Program} {w : World} {K : PySem.W.Frag} {mg : Str → Option Value} {base : Heap}
def spWorld (K : PySem.W.Frag) : Sp := fun vs H Q _ => ∃ (a : Addr) (ns : List Int), vs = [.ref a] ∧ SqL K H a (ns.map V.int) ∧ ns.length ≤ 100000 ∧
  ∀ q lv hv mv lo hi ds H', H q = none → Same H H' → H' q = some (.lst [lv, hv, mv]) → RowsAt H' lv lo → RowsAt H' hv hi → MenuAt H' mv ds → Wld lo hi ds → Q (.ref q) H'
def nums7 : List Int := [3, 3, 3, 4, 5, 6, 8]
theorem nums7_at {i : Int} (h : 0 ≤ i ∧ i < 7) : ∃ n : Nat, 3 ≤ n ∧ n ≤ 8 ∧ atI (nums7.map V.int) i = some (.int (n : Nat)) := by
  have : i = 0 ∨ i = 1 ∨ i = 2 ∨ i = 3 ∨ i = 4 ∨ i = 5 ∨ i = 6 := by omega
  rcases this with rfl | rfl | rfl | rfl | rfl | rfl | rfl
  · exact ⟨3, by decide, by decide, rfl⟩
  · exact ⟨3, by decide, by decide, rfl⟩
  · exact ⟨3, by decide, by decide, rfl⟩
  · exact ⟨4, by decide, by decide, rfl⟩
  · exact ⟨5, by decide, by decide, rfl⟩
  · exact ⟨6, by decide, by decide, rfl⟩
  · exact ⟨8, by decide, by decide, rfl⟩
theorem sc__law_world : FnScope (["_law_script", "_law_shape", "_law_menu_here", "_law_high", "_law_body", "_law_more", "_law_low"] : List Str) ["_law_script"] (defScope s_world_L) := ⟨rfl, rfl, rfl, by decide +kernel, rfl, by decide +kernel, by decide +kernel⟩
theorem ok_world (F : TF K "_law_world" s_world_L) (T : Tx K mg) (D__law_draws : DOk P w K mg base 1 "_law_draws" ["_law_cell_here", "_law_spans"] spDraws)
    (D__law_cell : DOk P w K mg base 1 "_law_cell" ["_law_script", "_law_k"] (spCell K)) (D__law_menu : DOk P w K mg base 2 "_law_menu" ["_law_cell_here", "_law_many"] spMenu)
    (D__law_free : DOk P w K mg base 2 "_law_free" ["_law_cell_here", "_law_menu_here", "_law_most"] spFree) (D__law_branch : DOk P w K mg base 2 "_law_branch" ["_law_cell_here", "_law_menu_here"] spBranch)
    (D__law_ladder : DOk P w K mg base 3 "_law_ladder" ["_law_cell_here", "_law_menu_here", "_law_more"] spLadder) (D__law_doubled : DOk P w K mg base 2 "_law_doubled" ["_law_cell_here", "_law_high"] spDoubled)
    (D__law_lookers : DOk P w K mg base 4 "_law_lookers" ["_law_cell_here", "_law_high", "_law_menu_here"] spLookers) (D__law_cover : DOk P w K mg base 4 "_law_cover" ["_law_cell_here", "_law_high", "_law_menu_here"] spCover)
    (D__law_added : DOk P w K mg base 2 "_law_added" ["_law_cell_here", "_law_rows", "_law_menu_here"] spAdded) :
    DOk P w K mg base 5 "_law_world" ["_law_script"] (spWorld K) := by
  refine dok F T.g__law_world sc__law_world (fun vs H Q E h => ?_) (fun _ _ _ _ _ _ us hl => match us, hl with | [_], _ => rfl) (fun cdv A outer s H vs Q E hr h => ?_)
  · obtain ⟨a, ns, rfl, _⟩ := h
    rfl
  obtain ⟨a, ns, rfl, ha, hn, k⟩ := h
  refine ⟨_, (pss_cons (ps_set (i := 1) sc__law_world.nd rfl (Or.inl rfl) (pe_d D__law_draws (hr.mono (by decide)) (by rfl) (pa_cons (pe_d D__law_cell (hr.mono (by decide)) (by rfl) (pa_cons (pv 0) (pa_cons pe_int pa_nil))) (pa_cons (pe_lst (pa_cons pe_int (pa_cons pe_int pa_nil))) pa_nil))))
    (pss_cons (ps_set (i := 2) sc__law_world.nd rfl (Or.inl rfl) (pe_d D__law_menu (hr.mono (by decide)) (by rfl) (pa_cons (pe_d D__law_cell (hr.mono (by decide)) (by rfl) (pa_cons (pv 0) (pa_cons pe_int pa_nil))) (pa_cons (pe_ix ix_list (pe_lst (pa_cons pe_int (pa_cons pe_int (pa_cons pe_int (pa_cons pe_int (pa_cons pe_int (pa_cons pe_int (pa_cons pe_int pa_nil)))))))) (pe_ix ix_list (pv 1) pe_int (fun _ _ => rfl)) (fun _ _ => rfl)) pa_nil))))
    (pss_cons (ps_set (i := 3) sc__law_world.nd rfl (Or.inl rfl) (pe_d D__law_free (hr.mono (by decide)) (by rfl) (pa_cons (pe_d D__law_cell (hr.mono (by decide)) (by rfl) (pa_cons (pv 0) (pa_cons pe_int pa_nil))) (pa_cons (pv 2) (pa_cons pe_int pa_nil)))))
    (pss_cons (ps_set (i := 4) sc__law_world.nd rfl (Or.inl rfl) (pe_d D__law_cell (hr.mono (by decide)) (by rfl) (pa_cons (pv 0) (pa_cons pe_int pa_nil))))
    (pss_cons (ps_set (i := 5) sc__law_world.nd rfl (Or.inl rfl) (pe_d D__law_cell (hr.mono (by decide)) (by rfl) (pa_cons (pv 0) (pa_cons pe_int pa_nil))))
    (pss_cons (ps_if (pt_cmpR op_gt (pe_ix ix_list (pv 1) pe_int (fun _ _ => rfl)) pe_int (nomark _)) (pss_one (ps_ret (pe_d D__law_branch (hr.mono (by decide)) (by rfl) (pa_cons (pv 4) (pa_cons (pv 2) pa_nil))))) pss_nil)
    (pss_cons (ps_if (pt_cmpR op_eq (pe_ix ix_list (pv 1) pe_int (fun _ _ => rfl)) pe_int (nomark _)) (pss_one (ps_ret (pe_d D__law_ladder (hr.mono (by decide)) (by rfl) (pa_cons (pv 4) (pa_cons (pv 2) (pa_cons (pv 5) pa_nil)))))) pss_nil)
    (pss_cons (ps_if (pt_cmpR op_eq (pe_ix ix_list (pv 1) pe_int (fun _ _ => rfl)) pe_int (nomark _)) (pss_one (ps_ret (pe_lst (pa_cons (pe_d D__law_doubled (hr.mono (by decide)) (by rfl) (pa_cons (pv 4) (pa_cons (pv 3) pa_nil))) (pa_cons (pv 3) (pa_cons (pv 2) pa_nil)))))) pss_nil)
    (pss_cons (ps_set (i := 6) sc__law_world.nd rfl (Or.inl rfl) (pe_d D__law_lookers (hr.mono (by decide)) (by rfl) (pa_cons (pv 4) (pa_cons (pv 3) (pa_cons (pv 2) pa_nil)))))
    (C8.pss_cut (ps_if (pt_cmpR op_lt (pe_ix ix_list (pv 1) pe_int (fun _ _ => rfl)) pe_int (nomark _)) (pss_one (ps_set (i := 6) sc__law_world.nd rfl (Or.inl rfl) (pe_d D__law_free (hr.mono (by decide)) (by rfl) (pa_cons (pv 4) (pa_cons (pv 2) (pa_cons pe_int pa_nil)))))) (pss_one (ps_if (pt_cmpR op_lt (pe_ix ix_list (pv 1) pe_int (fun _ _ => rfl)) pe_int (nomark _)) (pss_one (ps_set (i := 6) sc__law_world.nd rfl (Or.inl rfl) (pe_d D__law_cover (hr.mono (by decide)) (by rfl) (pa_cons (pv 4) (pa_cons (pv 3) (pa_cons (pv 2) pa_nil)))))) pss_nil)))
    (C8.pss_cut (ps_if (pt_cmpR op_in_seq (pe_ix ix_list (pv 1) pe_int (fun _ _ => rfl)) (pe_lst (pa_cons pe_int (pa_cons pe_int pa_nil))) (by rfl)) (pss_one (ps_set (i := 6) sc__law_world.nd rfl (Or.inl rfl) (pe_d D__law_added (hr.mono (by decide)) (by rfl) (pa_cons (pv 5) (pa_cons (pv 6) (pa_cons (pv 2) pa_nil)))))) pss_nil)
    (pss_one (ps_ret (pe_lst (pa_cons (pv 6) (pa_cons (pv 3) (pa_cons (pv 2) pa_nil))))))))))))))))), ?_⟩
  refine ⟨_, rfl, a, ns, 0, rfl, ha, hn, ⟨by decide, by decide⟩, fun c0 hc0 => ⟨szk 2 rfl, fun p1 hp1 => ?_⟩⟩
  have s1 : Same H (upd H p1 (.lst ([12, 7].map V.int))) := Same.new1 hp1
  refine ⟨c0, p1, [12, 7], rfl, upd_same, by decide, by decide, hc0, fun dr dp H2 hdp s2 hdr hdw => ?_⟩
  obtain ⟨x0, hx0, b0⟩ := hdw.get (i := 0) rfl
  obtain ⟨x1, hx1, b1⟩ := hdw.get (i := 1) rfl
  have s12 := s1.trans s2
  refine ⟨_, rfl, a, ns, 1, rfl, sqSame ha s12, hn, ⟨by decide, by decide⟩, fun c1 hc1 => ⟨szk 7 rfl, fun nu hnu => ?_⟩⟩
  have s3 : Same H2 (upd H2 nu (.lst (nums7.map V.int))) := Same.new1 hnu
  obtain ⟨n, hn3, hn8, hat⟩ := nums7_at b1
  refine ⟨_, rfl, dp, _, 1, _, rfl, rfl, SqL.of (s3 _ _ hdr), atI_ints (by decide) hx1, nu, _, _, _, rfl, rfl, SqL.of upd_same, hat, c1, n, rfl, hc1, hn3, hn8, fun me dvs ds H4 hme s4 hmv hdP mk => ?_⟩
  have s14 := s12.trans (s3.trans s4)
  have hM : MenuAt H4 (.ref me) ds := ⟨me, dvs, rfl, hmv, hdP⟩
  refine ⟨_, rfl, a, ns, 2, rfl, sqSame ha s14, hn, ⟨by decide, by decide⟩, fun c2 hc2 => ⟨_, rfl, c2, .ref me, ds, rfl, hc2, hM, mk, fun hg hms hi H5 hhg s5 hhv hhP hp => ?_⟩⟩
  obtain ⟨gH, h6, hr3⟩ := hp
  have s15 := s14.trans s5
  have hR : RowsAt H5 (.ref hg) hi := ⟨hg, hms, rfl, hhv, hhP⟩
  have hM5 := hM.mono s5
  have hd5 := s5 _ _ (s4 _ _ (s3 _ _ hdr))
  refine ⟨_, rfl, a, ns, 3, rfl, sqSame ha s15, hn, ⟨by decide, by decide⟩, fun c3 hc3 => ?_⟩
  refine ⟨_, rfl, a, ns, 4, rfl, sqSame ha s15, hn, ⟨by decide, by decide⟩, fun c4 hc4 => ?_⟩
  have ix0 : ∀ {H' : Hp}, Same H5 H' → SqL K H' dp (dr.map V.int) := fun s => SqL.of (s _ _ hd5)
  have fin : ∀ {H' : Hp} {q lv hv mv : _} {lo hi : Rows}, Same H5 H' → H5 q = none → H' q = some (.lst [lv, hv, mv]) → RowsAt H' lv lo → RowsAt H' hv hi → MenuAt H' mv ds → Wld lo hi ds → Q (.ref q) H' := fun s hq e l h m x => k _ _ _ _ _ _ ds _ (fresh_back s15 hq) (s15.trans s) e l h m x
  refine ⟨_, rfl, dp, _, 0, _, rfl, rfl, ix0 (Same.refl _), atI_ints (by decide) hx0, _, _, rfl, rfl, _, rfl, ite2 (fun _ => ?_) (fun _ => ?_)⟩
  · refine ⟨_, rfl, _, rfl, c3, .ref me, ds, rfl, hc3, hM5, mk, fun q lv hv mv lo hi' H6 hq s6 hq6 hl hh hm hL => ?_⟩
    exact fin s6 hq hq6 hl hh hm ⟨mk, hL.good.1, hL.good.2.1, .inr (.inr hL)⟩
  refine ⟨_, rfl, dp, _, 0, _, rfl, rfl, ix0 (Same.refl _), atI_ints (by decide) hx0, rfl, _, rfl, ite2 (fun _ => ?_) (fun _ => ?_)⟩
  · refine ⟨_, rfl, _, rfl, _, rfl, c3, c4, .ref me, ds, rfl, hc3, hc4, hM5, mk, fun q lv hv mv lo hi' H6 hq s6 hq6 hl hh hm hp => ?_⟩
    exact fin s6 hq hq6 hl hh hm ⟨mk, hp.1, hp.2.1, .inr (.inl ⟨hp.2.2.1, hp.2.2.2.1, hp.2.2.2.2⟩)⟩
  refine ⟨_, rfl, dp, _, 0, _, rfl, rfl, ix0 (Same.refl _), atI_ints (by decide) hx0, rfl, _, rfl, ite2 (fun _ => ?_) (fun _ => ?_)⟩
  · refine ⟨_, rfl, _, rfl, c3, .ref hg, hi, ds, rfl, hc3, hR, gH, h6, hr3, fun lw lms lo H6 hlw s6 hlv hlP hp => ?_⟩
    refine ⟨_, rfl, _, rfl, szk 3 rfl, fun q hq => ?_⟩
    have s7 := Same.new1 (o := .lst [V.ref lw, V.ref hg, V.ref me]) hq
    exact fin (s6.trans s7) (fresh_back s6 hq) upd_same (RowsAt.mono ⟨lw, lms, rfl, hlv, hlP⟩ s7) (hR.mono (s6.trans s7)) (hM5.mono (s6.trans s7)) ⟨mk, hp.1, gH, .inl ⟨hp.2, h6⟩⟩
  refine ⟨_, rfl, _, rfl, _, rfl, c3, .ref hg, .ref me, hi, ds, rfl, hc3, hR, gH, h6, hM5, mk, fun lw lms lo H6 hlw s6 hlv hlP hp => ?_⟩
  refine ⟨fun σ H7 => ∃ (l : Addr) (lo : Rows), σ = [some (.ref a), some (.ref dp), some (.ref me), some (.ref hg), some (.int c3), some (.int c4), some (.ref l)] ∧ Same H5 H7 ∧ RowsAt H7 (.ref l) lo ∧ Good ds lo ∧ lo.length ≤ 12, ?_, ?_⟩
  · refine ⟨_, rfl, dp, _, 0, _, rfl, rfl, ix0 s6, atI_ints (by decide) hx0, _, _, rfl, rfl, _, rfl, ite2 (fun _ => ?_) (fun _ => ?_)⟩
    · refine ⟨_, rfl, _, rfl, c3, .ref me, ds, rfl, hc3, hM5.mono s6, mk, fun q ms R H7 hq s7 hqv hqP hp' => ?_⟩
      exact ⟨q, R, rfl, s6.trans s7, ⟨q, ms, rfl, hqv, hqP⟩, hp'.1, by have := hp'.2.1; omega⟩
    refine ⟨_, rfl, dp, _, 0, _, rfl, rfl, ix0 s6, atI_ints (by decide) hx0, _, _, rfl, rfl, _, rfl, ite2 (fun _ => ?_) (fun _ => ?_)⟩
    · refine ⟨_, rfl, _, rfl, _, rfl, c3, .ref hg, .ref me, hi, ds, rfl, hc3, hR.mono s6, gH, h6, hM5.mono s6, mk, fun q ms R H7 hq s7 hqv hqP hp' => ?_⟩
      exact ⟨q, R, rfl, s6.trans s7, ⟨q, ms, rfl, hqv, hqP⟩, hp'.1, by have := hp'.2; omega⟩
    · exact ⟨lw, lo, rfl, s6, ⟨lw, lms, rfl, hlv, hlP⟩, hp.1, by have := hp.2; omega⟩
  rintro σ H7 ⟨l, lo2, rfl, s7, hl7, g7, l7⟩
  refine ⟨fun σ H8 => ∃ (l : Addr) (lo : Rows), σ = [some (.ref a), some (.ref dp), some (.ref me), some (.ref hg), some (.int c3), some (.int c4), some (.ref l)] ∧ Same H5 H8 ∧ RowsAt H8 (.ref l) lo ∧ Good ds lo ∧ lo.length ≤ 12, ?_, ?_⟩
  · refine ⟨_, rfl, dp, _, 0, _, rfl, rfl, ix0 s7, atI_ints (by decide) hx0, szk 2 rfl, fun u hu => ?_⟩
    have s8 := Same.new1 (o := .lst ([4, 7].map V.int)) hu
    refine ⟨u, _, rfl, .inl (SqL.of upd_same), rfl, rfl, _, rfl, ite2 (fun _ => ?_) (fun _ => ?_)⟩
    · refine ⟨_, rfl, _, rfl, _, rfl, c4, .ref l, .ref me, lo2, ds, rfl, hc4, hl7.mono s8, g7, by omega, hM5.mono (s7.trans s8), mk, fun q ms R H9 hq s9 hqv hqP hp' => ?_⟩
      exact ⟨q, R, rfl, s7.trans (s8.trans s9), ⟨q, ms, rfl, hqv, hqP⟩, hp'.1, by rw [hp'.2]; exact l7⟩
    · exact ⟨l, lo2, rfl, s7.trans s8, hl7.mono s8, g7, l7⟩
  rintro σ H8 ⟨l', lo3, rfl, s8, hl8, g8, l8⟩
  refine ⟨_, rfl, _, rfl, _, rfl, szk 3 rfl, fun q hq => ?_⟩
  have s9 := Same.new1 (o := .lst [V.ref l', V.ref hg, V.ref me]) hq
  exact fin (s8.trans s9) (fresh_back s8 hq) upd_same (hl8.mono s9) (hR.mono (s8.trans s9)) (hM5.mono (s8.trans s9)) ⟨mk, g8, gH, .inl ⟨l8, h6⟩⟩
end
end Ct
/-! replies_of, union_of; led_from. -/
namespace Ct
open PySem PySem.Spec PyProof.Rows L2 Nd
open CM (InR Wf Qt Rep row reps Leads)
/-! ### what may change -/
/-- tuples stay; lists that are not among bad stay -/
structure Mut (bad : List Addr) (H H' : Hp) : Prop where
  tup : Tups H H'
  lst : ∀ b vs, b ∉ bad → H b = some (.lst vs) → H' b = some (.lst vs)
def Nb (bad : List Addr) (v : V) : Prop := ∀ b ∈ bad, v ≠ .ref b
theorem Nb.addr {bad : List Addr} {a : Addr} (h : Nb bad (.ref a)) : a ∉ bad := fun m => h a m rfl
theorem Nb.less {bad bad' : List Addr} {v : V} (h : Nb bad v) (s : ∀ b ∈ bad', b ∈ bad) : Nb bad' v := fun b hb => h b (s b hb)
theorem Mut.refl (bad : List Addr) (H : Hp) : Mut bad H H := ⟨Tups.refl H, fun _ _ _ e => e⟩
theorem Mut.trans {bad : List Addr} {H H1 H2 : Hp} (a : Mut bad H H1) (b : Mut bad H1 H2) : Mut bad H H2 := ⟨a.tup.trans b.tup, fun c vs h e => b.lst c vs h (a.lst c vs h e)⟩
theorem Mut.same {bad : List Addr} {H H' : Hp} (s : Same H H') : Mut bad H H' := ⟨Tups.same s, fun _ _ _ e => s _ _ e⟩
theorem Mut.more {bad bad' : List Addr} {H H' : Hp} (h : Mut bad H H') (s : ∀ b ∈ bad, b ∈ bad') : Mut bad' H H' := ⟨h.tup, fun b vs n e => h.lst b vs (fun m => n (s b m)) e⟩
/-- one of bad changes -/
theorem Mut.upd {bad : List Addr} {H : Hp} {D : Addr} {o : HO} (hD : D ∈ bad) (ht : ∀ xs, H D ≠ some (.tup xs)) : Mut bad H (L2.upd H D o) := ⟨Tups.upd ht, fun b vs n e => by
  rw [upd_ne (fun q => n (by rw [q]; exact hD))]
  exact e⟩
/-- a dict changes -/
theorem Mut.dict {κ : Type} {T : KeyTy κ} {w : World} {bad : List Addr} {H : Hp} {D : Addr} {o : HO} {qs : List κ} {f : κ → V} (hd : DM T w H D qs f) : Mut bad H (L2.upd H D o) := ⟨Tups.upd (DM.notTup hd), fun b vs n e => by
  rw [upd_ne (DM.notLst hd e)]
  exact e⟩
/-- an own dict of ints changes -/
theorem Mut.dK {bad : List Addr} {H : Hp} {D : Addr} {o : HO} {kvs : List (Key × V)} (hd : H D = some (.dK kvs)) : Mut bad H (L2.upd H D o) := ⟨Tups.upd fun xs e => (by rw [hd] at e; cases e), fun b vs n e => by
  rw [upd_ne (by rintro rfl; rw [hd] at e; cases e)]
  exact e⟩
theorem IntsAt.mut {bad : List Addr} {H H' : Hp} {v : V} {l : List Int} (h : IntsAt H v l) (m : Mut bad H H') (n : Nb bad v) : IntsAt H' v l := by
  obtain ⟨a, rfl, e⟩ := h
  exact ⟨a, rfl, m.lst _ _ n.addr e⟩
abbrev PrsAt (H : Hp) (v : V) (l : List Pr) : Prop := ListAt PairAt H v l
theorem PrsAt.mut {bad : List Addr} {H H' : Hp} {v : V} {l : List Pr} (h : PrsAt H v l) (m : Mut bad H H') (n : Nb bad v) : PrsAt H' v l := by
  obtain ⟨a, vs, rfl, e, p⟩ := h
  exact ⟨a, vs, rfl, m.lst _ _ n.addr e, Paired.mapP p fun _ _ q => q.mono m.tup⟩
def PrrAt (bad : List Addr) (H : Hp) (v : V) (ls : List (List Pr)) : Prop := ∃ a vs, v = .ref a ∧ Nb bad v ∧ H a = some (.lst vs) ∧ Paired (fun v r => PrsAt H v r ∧ Nb bad v) vs ls
theorem PrrAt.mut {bad : List Addr} {H H' : Hp} {v : V} {ls : List (List Pr)} (h : PrrAt bad H v ls) (m : Mut bad H H') : PrrAt bad H' v ls := by
  obtain ⟨a, vs, rfl, n, e, p⟩ := h
  exact ⟨a, vs, rfl, n, m.lst _ _ n.addr e, Paired.mapP p fun _ _ q => ⟨q.1.mut m q.2, q.2⟩⟩
theorem new_nb {bad : List Addr} {H : Hp} {p : Addr} (hb : ∀ b ∈ bad, H b ≠ none) (hp : H p = none) : Nb bad (.ref p) := fun b hb' e => by
  injection e with e
  subst e
  exact hb _ hb' hp
/-- all but c stays -/
def But (c : Addr) (H H' : Hp) : Prop := ∀ b u, b ≠ c → H b = some u → H' b = some u
theorem But.same {c : Addr} {H0 H H' : Hp} (b : But c H H') (s : Same H0 H) (hc : H0 c = none) : Same H0 H' := fun x u e => b x u (fun q => by rw [q, hc] at e; cases e) (s x u e)
theorem But.mut {κ : Type} {T : KeyTy κ} {w : World} {c : Addr} {bad : List Addr} {H H' : Hp} {qs : List κ} {f : κ → V} (b : But c H H') (hd : DM T w H c qs f) : Mut bad H H' :=
  ⟨fun x xs e => b x _ (fun q => DM.notTup hd xs (by rw [← q]; exact e)) e, fun x vs _ e => b x _ (DM.notLst hd e) e⟩
/-! ### the cache of replies -/
structure Cch (w : World) (bad : List Addr) (H : Hp) (c : Addr) (R : Rows) (ds : List Deed) : Prop where
  ex : ∃ (qs : List (Int × Deed)) (f : Int × Deed → V), DM TD w H c qs f ∧ qs.Nodup ∧ (∀ q ∈ qs, InR R.length q.1 ∧ q.2 ∈ ds) ∧ ∀ q ∈ qs, IntsAt H (f q) (reps hid R q.1 q.2) ∧ Nb bad (f q)
theorem Cch.mut {w : World} {bad : List Addr} {H H' : Hp} {c : Addr} {R : Rows} {ds : List Deed} (h : Cch w bad H c R ds) (e : H' c = H c) (m : Mut bad H H') : Cch w bad H' c R ds := by
  obtain ⟨qs, f, d, n, i, v⟩ := h.ex
  exact ⟨qs, f, d.mono e m.tup, n, i, fun q hq => ⟨(v q hq).1.mut m (v q hq).2, (v q hq).2⟩⟩
theorem Cch.more {w : World} {bad : List Addr} {H : Hp} {c : Addr} {R : Rows} {ds : List Deed} {a : Addr} (h : Cch w bad H c R ds) (ha : H a = none) : Cch w (a :: bad) H c R ds := by
  obtain ⟨qs, f, d, n, i, v⟩ := h.ex
  refine ⟨qs, f, d, n, i, fun q hq => ⟨(v q hq).1, fun b hb => ?_⟩⟩
  rcases List.mem_cons.mp hb with rfl | hb
  · obtain ⟨⟨x, e1, e2⟩, _⟩ := v q hq
    rintro e
    rw [e1] at e
    injection e with e
    subst e
    rw [ha] at e2
    cases e2
  · exact (v q hq).2 b hb
theorem Cch.less {w : World} {bad bad' : List Addr} {H : Hp} {c : Addr} {R : Rows} {ds : List Deed} (h : Cch w bad H c R ds) (s : ∀ b ∈ bad', b ∈ bad) : Cch w bad' H c R ds := by
  obtain ⟨qs, f, d, n, i, v⟩ := h.ex
  exact ⟨qs, f, d, n, i, fun q hq => ⟨(v q hq).1, (v q hq).2.less s⟩⟩
theorem Cch.dict {w : World} {bad : List Addr} {H : Hp} {c : Addr} {R : Rows} {ds : List Deed} (h : Cch w bad H c R ds) : ∃ o, H c = some (dob c o) := by
  obtain ⟨qs, f, d, _⟩ := h.ex
  exact DM.at d
theorem But.mutC {w : World} {c : Addr} {bad bad' : List Addr} {H H' : Hp} {R : Rows} {ds : List Deed} (b : But c H H') (hc : Cch w bad' H c R ds) : Mut bad H H' := by
  obtain ⟨qs, f, d, _⟩ := hc.ex
  exact b.mut d
theorem prod_le {ds : List Deed} {n : Nat} {qs : List (Int × Deed)} (nd : qs.Nodup) (h : ∀ q ∈ qs, InR n q.1 ∧ q.2 ∈ ds) : qs.length ≤ n * ds.length := by
  let K0 := ((List.range n).map Int.ofNat).flatMap fun i => ds.map fun d => (i, d)
  have hl : K0.length = n * ds.length := by
    simp only [K0, List.length_flatMap, List.map_map, List.length_map]
    have : ∀ (l : List Nat), (l.map ((fun _ : Int => ds.length) ∘ Int.ofNat)).sum = l.length * ds.length := by
      intro l
      induction l with
      | nil => simp
      | cons a l ih => rw [List.map_cons, List.sum_cons, ih, List.length_cons, Nat.succ_mul]; simp; omega
    have := this (List.range n)
    rw [List.length_range] at this
    exact this
  rw [← hl]
  refine CM.nodup_sub nd fun q hq => ?_
  obtain ⟨h1, h2⟩ := h q hq
  exact List.mem_flatMap.mpr ⟨q.1, CM.mem_range_int.mpr h1, List.mem_map.mpr ⟨q.2, h2, rfl⟩⟩
section
variable {P : Program} {w : World} {K : PySem.W.Frag} {mg : Str → Option Value} {base : Heap}
def spRepliesOf (w : World) (K : PySem.W.Frag) : Sp := fun vs H Q _ => ∃ (hv : V) (c : Addr) (i : Int) (dv : V) (R : Rows) (ds : List Deed) (d : Deed) (bad : List Addr), vs = [hv, .ref c, .int i, dv] ∧ WebAt K H hv R ∧ Good ds R ∧ R.length ≤ 40 ∧ MenuOk ds ∧
  Cch w bad H c R ds ∧ (∀ b ∈ bad, H b ≠ none) ∧ InR R.length i ∧ DeedAt H dv d ∧ d ∈ ds ∧ hid d = false ∧
  ∀ v H', But c H H' → Cch w bad H' c R ds → IntsAt H' v (reps hid R i d) → Q v H'
theorem sc_replies_of : FnScope (["high", "cache", "at", "deed", "key"] : List Str) ["high", "cache", "at", "deed"] (defScope s_replies_of) := ⟨rfl, rfl, rfl, by decide +kernel, rfl, by decide +kernel, by decide +kernel⟩
theorem ok_repliesOf (F : TF K "replies_of" s_replies_of) (T : Tx K mg) (D_Web_replies : MOk P w K mg base 4 "Web" "replies" ["self", "at", "deed"] (spReplies K)) :
    DOk P w K mg base 5 "replies_of" ["high", "cache", "at", "deed"] (spRepliesOf w K) := by
  refine dok F T.g_replies_of sc_replies_of (fun vs H Q E h => ?_) (fun _ _ _ _ _ _ us hl => match us, hl with | [_, _, _, _], _ => rfl) (fun cdv A outer s H vs Q E hr h => ?_)
  · obtain ⟨hv, c, i, dv, R, ds, d, bad, rfl, _⟩ := h
    rfl
  obtain ⟨hv, c, i, dv, R, ds, d, bad, rfl, hw, g, h40, mk, cc, hb, hi, hda, hdm, hdh, k⟩ := h
  obtain ⟨a, dx, r, rfl, ha, hR⟩ := id hw
  obtain ⟨z, rfl, hz⟩ := id hda
  have hu9 := hu9_of hr
  refine ⟨_, (pss_cons (ps_set (i := 4) sc_replies_of.nd rfl (Or.inl rfl) (pe_tup (pa_cons (pv 2) (pa_cons (pv 3) pa_nil))))
    (C8.pss_cut (ps_if (pt_cmpR (op_notInN hu9) (pv 4) (pv 1) (by rfl)) (pss_one (ps_asg (pe_m D_Web_replies (hr.mono (by decide)) (pv 0) (pa_cons (pv 2) (pa_cons (pv 3) pa_nil))) (pg_sub (pv 1) (pv 4) (set_n hu9)))) pss_nil)
    (pss_one (ps_ret (pe_nget hu9 (pv 1) (pv 4) (fun _ _ => rfl)))))), ?_⟩
  refine ⟨_, rfl, _, rfl, szk 2 rfl, fun p hp => ?_⟩
  have s1 : Same H (upd H p (.tup [.int i, .ref z])) := Same.new1 hp
  obtain ⟨o0, hc0⟩ := cc.dict
  have cc1 := cc.mut (s1 _ _ hc0 |>.trans hc0.symm) (Mut.same s1)
  obtain ⟨qs, f, dm, nd, hqi, hqv⟩ := id cc1.ex
  have hkey : ∀ {H'}, Tups (upd H p (.tup [.int i, .ref z])) H' → IsK H' (.ref p) (TD.enc (i, d)) := fun t => isTD (hda.mono ((Tups.same s1).trans t)) (t _ _ upd_same)
  have hql := prod_le nd hqi
  have hd8 := mk.le
  have hm : R.length * ds.length ≤ 40 * 8 := Nat.mul_le_mul h40 hd8
  refine ⟨fun σ H' => σ = [some (.ref a), some (.ref c), some (.int i), some (.ref z), some (.ref p)] ∧ But c (upd H p (.tup [.int i, .ref z])) H' ∧ ∃ (qs : List (Int × Deed)) (f : Int × Deed → V), DM TD w H' c qs f ∧ qs.Nodup ∧ (∀ q ∈ qs, InR R.length q.1 ∧ q.2 ∈ ds) ∧
    (∀ q ∈ qs, IntsAt H' (f q) (reps hid R q.1 q.2) ∧ Nb bad (f q)) ∧ (i, d) ∈ qs, ?_, ?_⟩
  · refine ⟨_, rfl, _, rfl, c, _, _, rfl, dm, hkey (Tups.refl _), _, rfl, ?_⟩
    rw [mapD_get]
    by_cases hin : (i, d) ∈ qs
    · rw [if_pos hin]
      exact iteF ⟨rfl, fun b u _ e => e, qs, f, dm, nd, hqi, hqv, hin⟩
    · rw [if_neg hin]
      refine iteT ⟨_, rfl, a, dx, _, rfl, s1 _ _ ha, rfl, _, rfl, _, rfl, .ref a, R, i, .ref z, d, rfl, hw.mono s1, g.wf, by omega, g.ok mk, hi, hda.mono (Tups.same s1), mk.ok d hdm, hdh, fun q H2 hq s2 hq2 => ?_⟩
      have e2 : H2 c = (upd H p (.tup [.int i, .ref z])) c := by
        have h0 := s1 _ _ hc0
        rw [s2 _ _ h0, h0]
      have dm2 := dm.mono e2 (Tups.same s2)
      refine ⟨_, rfl, _, rfl, c, _, _, rfl, dm2, hkey (Tups.same s2), szLt (by rw [mapD_len]; omega), fun o' nd' => ⟨rfl, ?_, qs ++ [(i, d)], fset f (i, d) (.ref q), by rw [mapD_put_new hin] at nd'; exact nd', nodup_snoc nd hin, ?_, ?_, List.mem_append_right _ (List.mem_singleton.mpr rfl)⟩⟩
      · intro b u hbc e
        rw [upd_ne hbc]
        exact s2 _ _ e
      · intro x hx
        rw [List.mem_append, List.mem_singleton] at hx
        rcases hx with hx | rfl
        · exact hqi x hx
        · exact ⟨hi, hdm⟩
      · have mm : Mut bad H2 (upd H2 c (dob c o')) := Mut.dict dm2
        have nbq : Nb bad (.ref q) := new_nb (fun b hb' e => by
          cases e3 : H b with
          | none => exact hb b hb' e3
          | some u => rw [s1 _ _ e3] at e; cases e) hq
        intro x hx
        by_cases e : x = (i, d)
        · subst e
          rw [fset_same]
          exact ⟨IntsAt.mut ⟨q, rfl, hq2⟩ mm nbq, nbq⟩
        · rw [fset_ne e]
          rw [List.mem_append, List.mem_singleton] at hx
          obtain ⟨v1, v2⟩ := hqv x (hx.resolve_right e)
          exact ⟨(v1.mono s2).mut mm v2, v2⟩
  rintro σ H' ⟨rfl, but, qs', f', dm', nd', hqi', hqv', hin'⟩
  have bt : Tups (upd H p (.tup [.int i, .ref z])) H' := (but.mut (bad := []) dm).tup
  refine ⟨_, rfl, _, rfl, c, _, _, f' (i, d), rfl, dm', hkey bt, by rw [mapD_get, if_pos hin'], ?_⟩
  exact k _ H' (fun b u hbc e => but b u hbc (s1 _ _ e)) ⟨qs', f', dm', nd', hqi', hqv'⟩ (hqv' _ hin').1
/-- all that here leads to, in order -/
noncomputable def uni (R : Rows) (here : List Int) (d : Deed) : List Int := by
  classical
  exact ((List.range R.length).map Int.ofNat).filter fun k => decide (∃ i ∈ here, Rep hid R i d k)
theorem mem_uni {R : Rows} (w : Wf R) {here : List Int} {d : Deed} {k : Int} : k ∈ uni R here d ↔ ∃ i ∈ here, Rep hid R i d k := by
  classical
  unfold uni
  rw [List.mem_filter, CM.mem_range_int]
  constructor
  · exact fun h => of_decide_eq_true h.2
  · exact fun ⟨i, hi, h⟩ => ⟨w.rep h, decide_eq_true ⟨i, hi, h⟩⟩
theorem uni_sorted (R : Rows) (here : List Int) (d : Deed) : (uni R here d).Pairwise (· < ·) := by
  classical
  unfold uni
  exact List.Pairwise.filter _ (CM.range_lt _)
def IntsT (H : Hp) (v : V) (l : List Int) : Prop := ∃ a, v = .ref a ∧ H a = some (.tup (l.map V.int))
theorem IntsT.mono {H H' : Hp} {v : V} {l : List Int} (h : IntsT H v l) (t : Tups H H') : IntsT H' v l := let ⟨a, e, q⟩ := h; ⟨a, e, t _ _ q⟩
def spUnionOf (w : World) (K : PySem.W.Frag) : Sp := fun vs H Q _ => ∃ (hv : V) (c : Addr) (tv dv : V) (R : Rows) (ds : List Deed) (here : List Int) (d : Deed) (bad : List Addr), vs = [hv, .ref c, tv, dv] ∧ WebAt K H hv R ∧ Good ds R ∧ R.length ≤ 40 ∧ MenuOk ds ∧
  Cch w bad H c R ds ∧ (∀ b ∈ bad, H b ≠ none) ∧ IntsT H tv here ∧ (∀ i ∈ here, InR R.length i) ∧ DeedAt H dv d ∧ d ∈ ds ∧ hid d = false ∧
  ∀ v H', But c H H' → Cch w bad H' c R ds → IntsT H' v (uni R here d) → Q v H'
theorem uni_sort {R : Rows} (w : Wf R) {here : List Int} {d : Deed} {l m : List Int} (hp : m.Perm l) (hs : m.Pairwise (· ≤ ·)) (hn : l.Nodup) (h2 : ∀ k, k ∈ l ↔ ∃ i ∈ here, Rep hid R i d k) : m = uni R here d :=
  CM.sorted_ext (CM.lt_of_le_nodup hs (hp.nodup_iff.mpr hn)) (uni_sorted R here d) fun x => by rw [hp.mem_iff, h2, mem_uni w]
theorem sc_union_of : FnScope (["high", "cache", "here", "deed", "found", "at", "reply"] : List Str) ["high", "cache", "here", "deed"] (defScope s_union_of) := ⟨rfl, rfl, rfl, by decide +kernel, rfl, by decide +kernel, by decide +kernel⟩
theorem ok_unionOf (F : TF K "union_of" s_union_of) (T : Tx K mg) (D_replies_of : DOk P w K mg base 5 "replies_of" ["high", "cache", "at", "deed"] (spRepliesOf w K)) :
    DOk P w K mg base 6 "union_of" ["high", "cache", "here", "deed"] (spUnionOf w K) := by
  refine dok F T.g_union_of sc_union_of (fun vs H Q E h => ?_) (fun _ _ _ _ _ _ us hl => match us, hl with | [_, _, _, _], _ => rfl) (fun cdv A outer s H vs Q E hr h => ?_)
  · obtain ⟨hv, c, tv, dv, R, ds, here, d, bad, rfl, _⟩ := h
    rfl
  obtain ⟨hv, c, tv, dv, R, ds, here, d, bad, rfl, hw, g, h40, mk, cc, hb, ⟨t, rfl, ht⟩, hin, hda, hdm, hdh, k⟩ := h
  have hu := hu_of hr
  have wf := g.wf
  refine ⟨_, (pss_cons (ps_set (i := 4) sc_union_of.nd rfl (Or.inl rfl) pe_dnewK)
    (pss_cons (ps_for PassesOwn.never rfl (pi_tup (pv 2)) (pg_name (i := 5) sc_union_of.nd rfl (Or.inl rfl)) (pss_one (ps_for PassesOwn.never rfl (pi_list (pe_d D_replies_of (hr.mono (by decide)) (by rfl) (pa_cons (pv 0) (pa_cons (pv 1) (pa_cons (pv 5) (pa_cons (pv 3) pa_nil)))))) (pg_name (i := 6) sc_union_of.nd rfl (Or.inl rfl)) (pss_one (ps_asg pe_bl (pg_sub (pv 4) (pv 6) (set_dict hu)))))))
    (pss_one (ps_ret (pe_callTy call_tuple_of (by rfl) T.f_tuple (by decide +kernel) (pa_cons (pe_callB cr_sortedI (by rfl) T.f_sorted (by decide +kernel) (pa_cons (pe_callTy (call_list_dK rfl) (by rfl) T.f_list (by decide +kernel) (pa_cons (pv 4) pa_nil)) pa_nil)) pa_nil)))))), ?_⟩
  intro p hp
  have s1 : Same H (upd H p (.dK [])) := Same.new1 hp
  obtain ⟨o0, hc0⟩ := cc.dict
  have hpc : p ≠ c := by rintro rfl; rw [hc0] at hp; cases hp
  have cc1 := cc.mut (s1 _ _ hc0 |>.trans hc0.symm) (Mut.same s1)
  obtain ⟨hva, dx, r, rfl, hha, _⟩ := id hw
  -- what stays through it
  let St := fun (H1 : Hp) (out : List Int) => But c H H1 ∧ Tups H H1 ∧ WebAt K H1 (.ref hva) R ∧ Cch w bad H1 c R ds ∧ (∀ b ∈ bad, H1 b ≠ none) ∧ H1 p = some (.dK (tagK out)) ∧ out.Nodup ∧ (∀ k ∈ out, InR R.length k)
  refine ⟨_, rfl, t, rfl, ⟨_, SqT.of (s1 _ _ ht)⟩, ?_⟩
  refine for_tup (xs := here.map V.int) (Pv := fun j σ H1 => ∃ (o5 o6 : Option V) (out : List Int), σ = [some (.ref hva), some (.ref c), some (.ref t), some dv, some (.ref p), o5, o6] ∧ St H1 out ∧ ∀ k, k ∈ out ↔ ∃ i ∈ here.take j, Rep hid R i d k)
    ⟨none, none, [], rfl, ⟨fun b u _ e => s1 _ _ e, Tups.same s1, hw.mono s1, cc1, fun b hb' e => hb b hb' (fresh_back s1 e), upd_same, List.nodup_nil, fun k h => absurd h List.not_mem_nil⟩, fun k => by simp⟩ ?_ ?_ ?_
  · rintro j σ H1 _ ⟨o5, o6, out, rfl, ⟨but, tt, _⟩, _⟩
    exact SqT.of (tt _ _ ht)
  · rintro j x σ H1 hx ⟨o5, o6, out, rfl, ⟨but, tt, hw1, c1, hb1, hp1, nd, hr1⟩, hmem⟩
    obtain ⟨i, hi, rfl⟩ := map_get hx
    have hir := hin i (List.mem_of_getElem? hi)
    refine ⟨_, rfl, _, rfl, _, rfl, _, rfl, .ref hva, c, i, dv, R, ds, d, bad, rfl, hw1, g, h40, mk, c1, hb1, hir, hda.mono tt, hdm, hdh, fun v H2 b2 c2 hv2 => ?_⟩
    obtain ⟨y, rfl, hy⟩ := hv2
    have m2 : Mut [] H1 H2 := b2.mutC c1
    have hp2 := b2 _ _ hpc hp1
    refine ⟨y, rfl, ⟨_, SqL.of hy⟩, ?_⟩
    have htk : here.take (j + 1) = here.take j ++ [i] := by rw [List.take_add_one, hi]; rfl
    obtain ⟨hva', dx', r', e', hha', hRR⟩ := id hw1
    injection e' with e'
    subst e'
    refine for_list (xs := (reps hid R i d).map V.int) (Pv := fun l σ H3 => ∃ (o6 : Option V) (out : List Int), σ = [some (.ref hva), some (.ref c), some (.ref t), some dv, some (.ref p), some (.int i), o6] ∧ St H3 out ∧ H3 y = some (.lst ((reps hid R i d).map V.int)) ∧
      ∀ k, k ∈ out ↔ (∃ i ∈ here.take j, Rep hid R i d k) ∨ k ∈ (reps hid R i d).take l) ⟨o6, out, rfl, ⟨fun b u hbc e => b2 b u hbc (but b u hbc e), tt.trans m2.tup, ?_, c2, ?_, hp2, nd, hr1⟩, hy, fun k => by rw [hmem]; simp⟩ ?_ ?_ ?_
    · obtain ⟨ra, rs, rfl, hra, hrP⟩ := hRR
      have nc : ∀ {a : Addr} {o : HO}, H1 a = some o → (∀ x, o ≠ dob c x) → a ≠ c := fun e n q => by
        obtain ⟨o1, ho1⟩ := c1.dict
        rw [q, ho1] at e
        exact n o1 (Option.some.inj e).symm
      refine ⟨hva, dx', _, rfl, b2 _ _ (nc hha' (fun x e => by cases e)) hha', ra, rs, rfl, m2.lst _ _ List.not_mem_nil hra, Paired.mapP hrP fun v l q => ?_⟩
      obtain ⟨qa, qs, rfl, hqa, hqP⟩ := q
      exact ⟨qa, qs, rfl, m2.lst _ _ List.not_mem_nil hqa, moves_all hqP m2.tup⟩
    · intro b hb' e
      by_cases hbc : b = c
      · obtain ⟨o2, ho2⟩ := c2.dict
        rw [hbc, ho2] at e
        cases e
      · cases e1 : H1 b with
        | none => exact hb1 b hb' e1
        | some u =>
          rw [b2 b u hbc e1] at e
          cases e
    · rintro l σ H3 _ ⟨o6, out, rfl, _, hy3, _⟩
      exact SqL.of hy3
    · rintro l x σ H3 hx ⟨o6, out, rfl, ⟨but3, tt3, hw3, c3, hb3, hp3, nd3, hr3⟩, hy3, hmem3⟩
      obtain ⟨n, hn, rfl⟩ := map_get hx
      have hnr : InR R.length n := wf.rep ((CM.mem_reps wf).mp (List.mem_of_getElem? hn))
      have hol := CM.nodup_le (n := R.length) nd3 hr3
      have hnt : (reps hid R i d).take (l + 1) = (reps hid R i d).take l ++ [n] := by rw [List.take_add_one, hn]; rfl
      have yp : y ≠ p := by rintro rfl; rw [hp3] at hy3; cases hy3
      have new : ∀ kvs, St (upd H3 p (.dK kvs)) out → True := fun _ _ => trivial
      have keep : ∀ (out' : List Int), out'.Nodup → (∀ k ∈ out', InR R.length k) → St (upd H3 p (.dK (tagK out'))) out' := fun out' n1 n2 => by
        have mm : Mut bad H3 (upd H3 p (.dK (tagK out'))) := Mut.dK hp3
        obtain ⟨o3, ho3⟩ := c3.dict
        refine ⟨fun b u hbc e => ?_, tt3.trans mm.tup, ?_, c3.mut (upd_ne (Ne.symm hpc)) mm, fun b hb' e => hb3 b hb' (upd_nil e), upd_same, n1, n2⟩
        · rw [upd_ne (by rintro rfl; rw [hp] at e; cases e)]
          exact but3 b u hbc e
        · obtain ⟨qa, qdx, qr, eq1, hq1, ra, rs, rfl, hra, hrP⟩ := hw3
          injection eq1 with eq1
          subst eq1
          have m0 : Mut [] H3 (upd H3 p (.dK (tagK out'))) := Mut.dK hp3
          refine ⟨hva, qdx, _, rfl, by rw [upd_ne (by rintro rfl; rw [hp3] at hq1; cases hq1)]; exact hq1, ra, rs, rfl, m0.lst _ _ List.not_mem_nil hra, Paired.mapP hrP fun v l q => ?_⟩
          obtain ⟨qa, qs, rfl, hqa, hqP⟩ := q
          exact ⟨qa, qs, rfl, m0.lst _ _ List.not_mem_nil hqa, moves_all hqP m0.tup⟩
      refine ⟨_, rfl, _, rfl, p, _, rfl, DPut.k (k := .inl n) hp3 (szLt (by rw [tag_len]; omega)), ?_⟩
      by_cases hno : n ∈ out
      · rw [tag_old hno]
        refine ⟨_, out, rfl, keep out nd3 hr3, by rw [upd_ne yp]; exact hy3, fun k => ?_⟩
        rw [hmem3, hnt, List.mem_append, List.mem_singleton]
        constructor
        · rintro (h | h)
          · exact .inl h
          · exact .inr (.inl h)
        · rintro (h | h | rfl)
          · exact .inl h
          · exact .inr h
          · exact (hmem3 k).mp hno
      · rw [tag_new hno]
        refine ⟨_, out ++ [n], rfl, keep _ (nodup_snoc nd3 hno) (fun k hk => ?_), by rw [upd_ne yp]; exact hy3, fun k => ?_⟩
        · rw [List.mem_append, List.mem_singleton] at hk
          rcases hk with hk | rfl
          · exact hr3 k hk
          · exact hnr
        · rw [hnt, List.mem_append, List.mem_append, List.mem_singleton, hmem3, or_assoc]
    · rintro σ H3 ⟨o6, out, rfl, st3, hy3, hmem3⟩
      refine ⟨_, _, out, rfl, st3, fun k => ?_⟩
      rw [hmem3, htk, List.length_map, List.take_length, CM.mem_reps wf]
      constructor
      · rintro (⟨i', hi', h⟩ | h)
        · exact ⟨i', List.mem_append_left _ hi', h⟩
        · exact ⟨i, List.mem_append_right _ (List.mem_singleton.mpr rfl), h⟩
      · rintro ⟨i', hi', h⟩
        rw [List.mem_append, List.mem_singleton] at hi'
        rcases hi' with hi' | rfl
        · exact .inl ⟨i', hi', h⟩
        · exact .inr h
  · rintro σ H1 ⟨o5, o6, out, rfl, ⟨but, tt, hw1, c1, hb1, hp1, nd, hr1⟩, hmem⟩
    rw [List.length_map, List.take_length] at hmem
    refine ⟨_, rfl, p, _, rfl, hp1, fun l hl => ?_⟩
    have s2 : Same H1 (upd H1 l (.lst ((tagK out).map fun kv => kV kv.1))) := Same.new1 hl
    refine ⟨l, out, rfl, SqL.of (by rw [upd_same, tag_keys]), fun ns' q hperm hs hq => ?_⟩
    have s3 := Same.new1 (o := .lst (ns'.map V.int)) hq
    have e := uni_sort wf hperm hs nd hmem
    subst e
    refine ⟨q, _, rfl, .inl ⟨SqL.of upd_same, fun t' ht' => ?_⟩⟩
    have s4 := Same.new1 (o := .tup ((uni R here d).map V.int)) ht'
    have s24 := s2.trans (s3.trans s4)
    obtain ⟨o2, ho2⟩ := c1.dict
    exact k _ _ (fun b u hbc e => s24 _ _ (but b u hbc e)) (c1.mut (by rw [s24 _ _ ho2, ho2]) (Mut.same s24)) ⟨t', rfl, upd_same⟩
end
end Ct
/-! led_from. -/
namespace Ct
open PySem PySem.Spec PyProof.Rows L2 Nd
open CM (InR Wf Qt Rep row reps Leads)
/-- the pairs that a move of low leads to -/
noncomputable def leadM (HI : Rows) (up : Int) (m : Move) : List Pr := if hid m.1 = true then [(m.2, up)] else (reps hid HI up m.1).map fun r => (m.2, r)
noncomputable def leadF (LO HI : Rows) (p : Pr) : List (List Pr) := (row LO p.1).map (leadM HI p.2)
/-- a bound of the pairs -/
structure Cls (LO HI : Rows) (S : List Pr) : Prop where
  z : (0, 0) ∈ S
  cl : ∀ p ∈ S, ∀ r ∈ leadF LO HI p, ∀ x ∈ r, x ∈ S
  le : S.length ≤ 999
  rng : ∀ p ∈ S, InR LO.length p.1 ∧ InR HI.length p.2
/-- what the search holds -/
structure LSt (w : World) (H : Hp) (c ld q : Addr) (LO HI : Rows) (ds : List Deed) (S : List Pr) (bad : List Addr) (k : Nat) (p0 : Option Pr) (H1 : Hp) (qs : List Pr) (f : Pr → V) (qv : List V) : Prop where
  s : Same H H1
  cc : Cch w bad H1 c HI ds
  dm : DM TP w H1 ld qs f
  hq : H1 q = some (.lst qv)
  qP : Paired (PairAt H1) qv qs
  nd : qs.Nodup
  sub : ∀ p ∈ qs, p ∈ S
  z : (0, 0) ∈ qs
  le : k ≤ qs.length
  at_ : qs[k]? = p0 ∨ p0 = none
  done : ∀ (j : Nat) (p : Pr), j < k → qs[j]? = some p → PrrAt bad H1 (f p) (leadF LO HI p) ∧ ∀ r ∈ leadF LO HI p, ∀ x ∈ r, x ∈ qs
section
variable {w : World} {H H1 H2 : Hp} {c ld q : Addr} {LO HI : Rows} {ds : List Deed} {S : List Pr} {bad : List Addr} {k : Nat} {p0 : Option Pr} {qs : List Pr} {f : Pr → V} {qv : List V}
theorem PrrAt.more {H : Hp} {v : V} {ls : List (List Pr)} {m : Addr} (h : PrrAt bad H v ls) (hm : H m = none) : PrrAt (m :: bad) H v ls := by
  obtain ⟨a, vs, rfl, n, e, p⟩ := h
  have ne : ∀ {a : Addr} {vs : List V}, H a = some (.lst vs) → Nb bad (.ref a) → Nb (m :: bad) (.ref a) := fun e n b hb => by
    rcases List.mem_cons.mp hb with rfl | hb
    · intro x
      injection x with x
      subst x
      rw [hm] at e
      cases e
    · exact n b hb
  refine ⟨a, vs, rfl, ne e n, e, Paired.mapP p fun v r q => ⟨q.1, ?_⟩⟩
  obtain ⟨b, us, rfl, eb, _⟩ := q.1
  exact ne eb q.2
theorem PrrAt.less {H : Hp} {v : V} {ls : List (List Pr)} {bad' : List Addr} (h : PrrAt bad H v ls) (s : ∀ b ∈ bad', b ∈ bad) : PrrAt bad' H v ls := by
  obtain ⟨a, vs, rfl, n, e, p⟩ := h
  exact ⟨a, vs, rfl, n.less s, e, Paired.mapP p fun v r q => ⟨q.1, q.2.less s⟩⟩
/-- new objects -/
theorem LSt.grow (h : LSt w H c ld q LO HI ds S bad k p0 H1 qs f qv) (s2 : Same H1 H2) : LSt w H c ld q LO HI ds S bad k p0 H2 qs f qv := by
  obtain ⟨o1, e1⟩ := h.cc.dict
  obtain ⟨o2, e2⟩ := DM.at h.dm
  exact ⟨h.s.trans s2, h.cc.mut (by rw [s2 _ _ e1, e1]) (Mut.same s2), h.dm.mono (by rw [s2 _ _ e2, e2]) (Tups.same s2), s2 _ _ h.hq, Paired.mapP h.qP fun _ _ x => x.mono (Tups.same s2), h.nd, h.sub, h.z, h.le, h.at_, fun j p hj e => ⟨(h.done j p hj e).1.mut (Mut.same s2), (h.done j p hj e).2⟩⟩
/-- an object that none of it is -/
theorem LSt.set (h : LSt w H c ld q LO HI ds S bad k p0 H1 qs f qv) {D : Addr} {o : HO} {vs : List V} (hD : H1 D = some (.lst vs)) (hb : D ∈ bad) (hq : D ≠ q) (h0 : H D = none) : LSt w H c ld q LO HI ds S bad k p0 (upd H1 D o) qs f qv := by
  have nt := not_tup hD
  have m : Mut bad H1 (upd H1 D o) := Mut.upd hb nt
  obtain ⟨o1, e1⟩ := h.cc.dict
  obtain ⟨o2, e2⟩ := DM.at h.dm
  have n1 : c ≠ D := by rintro rfl; rw [hD] at e1; cases e1
  have n2 : ld ≠ D := by rintro rfl; rw [hD] at e2; cases e2
  exact ⟨Same.mut h.s h0, h.cc.mut (upd_ne n1) m, h.dm.mono (upd_ne n2) m.tup, by rw [upd_ne (Ne.symm hq)]; exact h.hq, Paired.mapP h.qP fun _ _ x => x.mono m.tup, h.nd, h.sub, h.z, h.le, h.at_, fun j p hj e => ⟨(h.done j p hj e).1.mut m, (h.done j p hj e).2⟩⟩
theorem LSt.more (h : LSt w H c ld q LO HI ds S bad k p0 H1 qs f qv) {m : Addr} (hm : H1 m = none) : LSt w H c ld q LO HI ds S (m :: bad) k p0 H1 qs f qv :=
  { h with cc := h.cc.more hm, done := fun j p hj e => ⟨(h.done j p hj e).1.more hm, (h.done j p hj e).2⟩ }
/-- the cache has changed -/
theorem LSt.but (h : LSt w H c ld q LO HI ds S bad k p0 H1 qs f qv) (hc : H c = none) (hlc : ld ≠ c) (b : But c H1 H2) (cc : Cch w bad H2 c HI ds) : LSt w H c ld q LO HI ds S bad k p0 H2 qs f qv := by
  have m : Mut bad H1 H2 := b.mutC h.cc
  obtain ⟨o2, e2⟩ := DM.at h.dm
  have nq : q ≠ c := by
    rintro rfl
    obtain ⟨o1, e1⟩ := h.cc.dict
    rw [h.hq] at e1
    cases e1
  exact ⟨b.same h.s hc, cc, h.dm.mono (by rw [b _ _ hlc e2, e2]) m.tup, b _ _ nq h.hq, Paired.mapP h.qP fun _ _ x => x.mono m.tup, h.nd, h.sub, h.z, h.le, h.at_, fun j p hj e => ⟨(h.done j p hj e).1.mut m, (h.done j p hj e).2⟩⟩
end
theorem snoc_get {α : Type} {l : List α} {x y : α} {j : Nat} (h : (l ++ [x])[j]? = some y) (hj : j < l.length) : l[j]? = some y := by
  rw [List.getElem?_append_left hj] at h
  exact h
theorem get_snoc {α : Type} {l : List α} {x y : α} {j : Nat} (h : l[j]? = some y) : (l ++ [x])[j]? = some y := by
  rw [List.getElem?_append_left (List.getElem?_eq_some_iff.mp h).1]
  exact h
/-- [(n, r) for r in rs] -/
theorem lc_pairs {K : PySem.W.Frag} {σ : L2.St} {H : Hp} {D y : Addr} {l : List Int} {n : Int} {j b : Nat} {Qd : Hp → Prop} (hy : H y = some (.lst (l.map V.int))) (hl : l.length ≤ 1000) (hD : H D = none)
    (k : ∀ H' vs, Same H H' → H' D = some (.lst vs) → Paired (PairAt H') vs (l.map fun r => (n, r)) → Qd H')
    (w0 : ∀ x, ((wipe σ [b]).set b (some x))[j]? = some (some (.int n)) := by intro _; rfl)
    (w1 : ∀ x, wipe ((wipe σ [b]).set b (some x)) [b] = wipe σ [b] := by intro _; rfl) (w2 : ∀ x, ((wipe σ [b]).set b (some x))[b]? = some (some x) := by intro _; rfl) :
    ∃ W : Nat → Nat → Hp → Prop, (∃ m, W 0 m (upd H D (.lst []))) ∧ ∀ i m H, W i m H → ((Itl K y).stop i H ∧ Qd H) ∨ ((Itl K y).go i H ∧ ∃ Nx : Hp → Prop, (∀ H', Nx H' → ∃ m', m' < m ∧ W (i + 1) m' H') ∧
      ∀ x H', (Itl K y).yld i H x H' → gName b x (wipe σ [b]) H' fun σ2 H2 => wipe σ2 [b] = wipe σ [b] ∧ tYes σ2 H2 fun c H3 =>
        if c = true then tTup (tCons (tVar j) (tCons (tVar b) tNil)) σ2 H3 fun y H4 => ∃ acc, H4 D = some (.lst acc) ∧ acc.length < sizeLine ∧ Nx (upd H4 D (.lst (acc ++ [y]))) else Nx H3) := by
  refine lc_list (xs := l.map V.int) (Pv := fun i H1 => ∃ vs, Same H H1 ∧ H1 D = some (.lst vs) ∧ Paired (PairAt H1) vs ((l.map fun r => (n, r)).take i)) ⟨[], Same.new1 hD, upd_same, by rw [List.take_zero]; exact .nil⟩ ?_ ?_ ?_
  · rintro i H1 _ ⟨vs, s1, _⟩
    exact SqL.of (s1 _ _ hy)
  · rintro i x H1 hx ⟨vs, s1, h1, hP⟩
    obtain ⟨r, hr, rfl⟩ := map_get hx
    have hi := (List.getElem?_eq_some_iff.mp hr).1
    have hlen : vs.length ≤ i := by
      have := paired_len hP
      rw [List.length_take] at this
      omega
    refine ⟨w1 _, _, w0 _, _, w2 _, szk 2 rfl, fun p hp => ?_⟩
    have s2 : Same H1 (upd H1 p (.tup [.int n, .int r])) := Same.new1 hp
    have h2 := s2 _ _ h1
    refine ⟨vs, h2, szLt (by omega), vs ++ [.ref p], Same.mut (s1.trans s2) hD, upd_same, ?_⟩
    rw [List.take_add_one, List.getElem?_map, hr]
    have tt : Tups (upd H1 p (.tup [.int n, .int r])) (upd (upd H1 p (.tup [.int n, .int r])) D (.lst (vs ++ [.ref p]))) := Tups.upd (not_tup h2)
    exact paired_snoc (Paired.mapP hP fun _ _ q => (q.mono (Tups.same s2)).mono tt) ⟨p, rfl, tt _ _ upd_same⟩
  · rintro H1 ⟨vs, s1, h1, hP⟩
    rw [List.length_map, ← List.length_map (as := l) (fun r => (n, r)), List.take_length] at hP
    exact k H1 vs s1 h1 hP
section
variable {P : Program} {w : World} {K : PySem.W.Frag} {mg : Str → Option Value} {base : Heap}
def spLed (w : World) (K : PySem.W.Frag) : Sp := fun vs H Q _ => ∃ (lv hv : V) (LO HI : Rows) (ds : List Deed) (S : List Pr), vs = [lv, hv] ∧ WebAt K H lv LO ∧ WebAt K H hv HI ∧ Good ds LO ∧ Good ds HI ∧ LO.length ≤ 40 ∧ HI.length ≤ 40 ∧ MenuOk ds ∧ Cls LO HI S ∧
  ∀ a qs f H', H a = none → Same H H' → DM TP w H' a qs f → (∀ p ∈ qs, PrrAt [] H' (f p) (leadF LO HI p)) → Leads qs (leadF LO HI) → (0, 0) ∈ qs → (∀ p ∈ qs, p ∈ S) → Q (.ref a) H'
theorem sc_led_from : FnScope (["low", "high", "cache", "leads", "queue", "k", "at", "upper", "rows", "deed", "after", "row", "pair", "reply"] : List Str) ["low", "high"] (defScope s_led_from) := ⟨rfl, rfl, rfl, by decide +kernel, rfl, by decide +kernel, by decide +kernel⟩
theorem ok_led (F : TF K "led_from" s_led_from) (T : Tx K mg) (D_replies_of : DOk P w K mg base 5 "replies_of" ["high", "cache", "at", "deed"] (spRepliesOf w K)) (D_Web_moves : MOk P w K mg base 3 "Web" "moves" ["self", "at"] (spMoves K)) :
    DOk P w K mg base 6 "led_from" ["low", "high"] (spLed w K) := by
  refine dok F T.g_led_from sc_led_from (fun vs H Q E h => ?_) (fun _ _ _ _ _ _ us hl => match us, hl with | [_, _], _ => rfl) (fun cdv A outer s H vs Q E hr h => ?_)
  · obtain ⟨lv, hv, LO, HI, ds, S, rfl, _⟩ := h
    rfl
  obtain ⟨lv, hv, LO, HI, ds, S, rfl, hL, hH, gL, gH, hl40, hh40, mk, cls, k⟩ := h
  have hu9 := hu9_of hr
  have wfH := gH.wf
  obtain ⟨la, ldx, lr, rfl, hla, _⟩ := id hL
  obtain ⟨ha, hdx, hr', rfl, hha, _⟩ := id hH
  refine ⟨_, (pss_cons (ps_set (i := 2) sc_led_from.nd rfl (Or.inl rfl) pe_nnew)
    (pss_cons (ps_set (i := 3) sc_led_from.nd rfl (Or.inl rfl) (pe_none hu9 (pe_tup (pa_cons pe_int (pa_cons pe_int pa_nil))) (pe_lst pa_nil)))
    (pss_cons (ps_set (i := 4) sc_led_from.nd rfl (Or.inl rfl) (pe_lst (pa_cons (pe_tup (pa_cons pe_int (pa_cons pe_int pa_nil))) pa_nil)))
    (pss_cons (ps_set (i := 5) sc_led_from.nd rfl (Or.inl rfl) pe_int)
    (pss_cons (ps_while PassesOwn.never (pt_cmpR op_lt (pv 5) (pe_callB call_len_seq (by rfl) T.f_len (by decide +kernel) (pa_cons (pv 4) pa_nil)) (nomark _)) (pss_cons (ps_asg (pe_ix ix_list (pv 4) (pv 5) (fun _ _ => rfl)) (pg_tup rfl (pgs_cons (pg_name (i := 6) sc_led_from.nd rfl (Or.inl rfl)) (pgs_cons (pg_name (i := 7) sc_led_from.nd rfl (Or.inl rfl)) pgs_nil))))
    (pss_cons (ps_set (i := 8) sc_led_from.nd rfl (Or.inl rfl) (pe_lst pa_nil))
    (pss_cons (ps_for PassesOwn.never rfl (pi_list (pe_m D_Web_moves (hr.mono (by decide)) (pv 0) (pa_cons (pv 6) pa_nil))) (pg_tup rfl (pgs_cons (pg_name (i := 9) sc_led_from.nd rfl (Or.inl rfl)) (pgs_cons (pg_name (i := 10) sc_led_from.nd rfl (Or.inr rfl)) pgs_nil))) (pss_cons (ps_set (i := 11) sc_led_from.nd rfl (Or.inl rfl) (pe_lst (pa_cons (pe_tup (pa_cons (pv 10) (pa_cons (pv 7) pa_nil))) pa_nil)))
    (C8.pss_cut (ps_if (pt_cmpR op_ne (pe_ix ix_tup (pv 9) pe_int (fun _ _ => rfl)) pe_str (nomark _)) (pss_one (ps_setLc (i := 11) (own := [("reply", 13)]) rfl sc_led_from.nd rfl rfl (sw_true rfl rfl rfl (by decide +kernel)) (pi_list (pe_d D_replies_of (hr.mono (by decide)) (by rfl) (pa_cons (pv 1) (pa_cons (pv 2) (pa_cons (pv 7) (pa_cons (pv 9) pa_nil)))))) (blkOk_by (N := (["low", "high", "cache", "leads", "queue", "k", "at", "upper", "rows", "deed", "after", "row", "pair", "reply"] : List Str)) (sc := defScope s_led_from) (by decide +kernel)) (fun _ _ _ _ _ => (pg_name (i := 13) sc_led_from.nd rfl (Or.inl rfl))) (fun _ _ _ _ _ => pts_nil) (fun _ _ _ _ _ => (pe_tup (pa_cons (pv 10) (pa_cons (pv 13) pa_nil)))))) pss_nil)
    (pss_cons (ps_expr (pe_bm PySem.F.plainAttrs_list PySem.F.slot_list_append PySem.F.type_list_append mt_append (pv 8) (pa_cons (pv 11) pa_nil)))
    (pss_one (ps_for PassesOwn.never rfl (pi_list (pv 11)) (pg_name (i := 12) sc_led_from.nd rfl (Or.inl rfl)) (pss_one (ps_if (pt_cmpR (op_notInN hu9) (pv 12) (pv 3) (by rfl)) (pss_cons (ps_if (pt_cmpR op_ge (pe_callB call_lenN (by rfl) T.f_len (by decide +kernel) (pa_cons (pv 3) pa_nil)) (pe_glob (v := .int 20000) rfl T.i_MOST_games.choose_spec ⟨_, rfl⟩) (nomark _)) (pss_one ps_never) pss_nil)
    (pss_cons (ps_asg (pe_lst pa_nil) (pg_sub (pv 3) (pv 12) (set_n hu9)))
    (pss_one (ps_expr (pe_bm PySem.F.plainAttrs_list PySem.F.slot_list_append PySem.F.type_list_append mt_append (pv 4) (pa_cons (pv 12) pa_nil)))))) pss_nil))))))))
    (pss_cons (ps_asg (pv 8) (pg_sub (pv 3) (pe_tup (pa_cons (pv 6) (pa_cons (pv 7) pa_nil))) (set_n hu9)))
    (pss_one (ps_aug (i := 5) sc_led_from.nd rfl (Or.inl rfl) pe_int ip_add)))))))
    (pss_one (ps_ret (pv 3)))))))), ?_⟩
  intro c oc hc ndc
  have s1 : Same H (upd H c (dob c oc)) := Same.new1 hc
  intro ld ol hld ndl
  have s2 : Same (upd H c (dob c oc)) (upd (upd H c (dob c oc)) ld (dob ld ol)) := Same.new1 hld
  have hld0 : H ld = none := fresh_back s1 hld
  have hlc : ld ≠ c := by rintro rfl; rw [upd_same] at hld; cases hld
  refine ⟨szk 2 rfl, fun t1 ht1 => ⟨Nat.zero_le _, fun e0 he0 => ?_⟩⟩
  have s3 := Same.new1 (o := .tup [V.int 0, V.int 0]) ht1
  have s4 := Same.new1 (o := .lst []) he0
  have s34 := s3.trans s4
  have e3 := s34 _ _ (upd_same (H := upd H c (dob c oc)) (a := ld) (o := dob ld ol))
  have e3c := s34 _ _ (s2 _ _ (upd_same (H := H) (a := c) (o := dob c oc)))
  have hzk : PairAt _ (.ref t1) (0, 0) := ⟨t1, rfl, s4 _ _ (upd_same (a := t1) (o := .tup [V.int 0, V.int 0]))⟩
  have ndl' := ndl.mono (e3.trans (upd_same (H := upd H c (dob c oc)) (a := ld) (o := dob ld ol)).symm) (Tups.same s34)
  have ndc' := ndc.mono (e3c.trans (upd_same (H := H) (a := c) (o := dob c oc)).symm) ((Tups.same s2).trans (Tups.same s34))
  refine ⟨TP.enc (0, 0), ndl', hzk.isP, fun o' nd' => ?_⟩
  have c4 : Same H _ := s1.trans (s2.trans s34)
  have hX : Mut [] _ (upd _ ld (dob ld o')) := Mut.dict (κ := Pr) (T := TP) (w := w) (qs := []) (f := fun _ => .non) (o := dob ld o') ⟨ol, ndl'⟩
  have c5 : Same H _ := Same.mut (o := dob ld o') c4 hld0
  have dmc : DM TD w _ c [] fun _ => V.non := ⟨oc, NDat.mono ndc' (upd_ne (Ne.symm hlc)) hX.tup⟩
  have dml : DM TP w _ ld [(0, 0)] fun _ => V.ref e0 := nd'
  generalize (upd _ ld (dob ld o')) = H5 at hX c5 dmc dml
  refine ⟨szk 2 rfl, fun t2 ht2 => ⟨szk 1 rfl, fun q hq => ?_⟩⟩
  have s6 : Same H5 (upd H5 t2 (.tup [.int 0, .int 0])) := Same.new1 ht2
  have s7 : Same (upd H5 t2 (.tup [.int 0, .int 0])) (upd (upd H5 t2 (.tup [.int 0, .int 0])) q (.lst [.ref t2])) := Same.new1 hq
  have s67 := s6.trans s7
  have hq0 : H q = none := fresh_back (c5.trans s6) hq
  have I0 : LSt w H c ld q LO HI ds S [q] 0 none (upd (upd H5 t2 (.tup [.int 0, .int 0])) q (.lst [.ref t2])) [(0, 0)] (fun _ => .ref e0) [.ref t2] := by
    obtain ⟨o1, e1⟩ := DM.at dmc
    obtain ⟨o2, e2⟩ := DM.at dml
    exact ⟨c5.trans s67, ⟨[], _, dmc.mono (by rw [s67 _ _ e1, e1]) (Tups.same s67), List.nodup_nil, fun q h => absurd h List.not_mem_nil, fun q h => absurd h List.not_mem_nil⟩, dml.mono (by rw [s67 _ _ e2, e2]) (Tups.same s67), upd_same, .cons ⟨t2, rfl, s7 _ _ upd_same⟩ .nil, by simp, fun p hp => by rw [List.mem_singleton] at hp; rw [hp]; exact cls.z, List.mem_singleton.mpr rfl, Nat.zero_le _, .inr rfl, fun j p hj => absurd hj (Nat.not_lt_zero _)⟩
  refine ⟨fun m σ H1 => ∃ (k : Nat) (qs : List Pr) (f : Pr → V) (qv : List V) (o6 o7 o8 o9 o10 o11 o12 : Option V), m + k = S.length ∧ σ = [some (.ref la), some (.ref ha), some (.ref c), some (.ref ld), some (.ref q), some (.int (k : Nat)), o6, o7, o8, o9, o10, o11, o12, none] ∧
    LSt w H c ld q LO HI ds S [q] k none H1 qs f qv, ⟨S.length, 0, _, _, _, none, none, none, none, none, none, none, by omega, rfl, I0⟩, ?_⟩
  rintro m σ H1 ⟨kk, qs, f, qv, o6, o7, o8, o9, o10, o11, o12, hm, rfl, I⟩
  have hql := paired_len I.qP
  refine ⟨_, rfl, _, rfl, q, _, rfl, .inl (SqL.of I.hq), _, _, rfl, rfl, _, rfl, ite2 (fun hlt => ?_) (fun hge => ?_)⟩
  · have hlt : (kk : Int) < ((qv.length : Nat) : Int) := of_decide_eq_true hlt
    have hkq : kk < qs.length := by omega
    have hp : qs[kk]? = some qs[kk] := List.getElem?_eq_getElem hkq
    generalize qs[kk] = p at hp
    have hpS := I.sub p (List.mem_of_getElem? hp)
    obtain ⟨hpl, hph⟩ := cls.rng p hpS
    have hSl := CM.nodup_sub I.nd I.sub
    obtain ⟨pv, hpv, pa, rfl, hpa⟩ := paired_getR I.qP hp
    refine ⟨_, fun _ _ h => h, ?_⟩
    refine ⟨_, rfl, _, rfl, q, _, _, _, rfl, rfl, SqL.of I.hq, atI_of (by omega) (by rw [show ((kk : Nat) : Int).toNat = kk by omega]; exact hpv), pa, _, rfl, SqT.of hpa, rfl, _, _, rfl, _, _, rfl, rfl, ?_⟩
    refine ⟨Nat.zero_le _, fun r hr1 => ?_⟩
    have s8 : Same H1 (upd H1 r (.lst [])) := Same.new1 hr1
    have hrq : r ≠ q := by rintro rfl; rw [I.hq] at hr1; cases hr1
    have hr0 : H r = none := fresh_back I.s hr1
    have I1 := (I.more hr1).grow s8
    have I1 : LSt w H c ld q LO HI ds S [r, q] kk (some p) (upd H1 r (.lst [])) qs f qv := { I1 with at_ := .inl hp }
    refine ⟨_, rfl, la, ldx, _, rfl, I1.s _ _ hla, rfl, _, rfl, .ref la, LO, p.1, rfl, hL.mono I1.s, hpl, fun mp ms H3 hmp s9 hms hMP => ?_⟩
    have I2 := I1.grow s9
    have hmr : mp ≠ r := by rintro rfl; rw [upd_same] at hmp; cases hmp
    have hmq : mp ≠ q := by rintro rfl; rw [I1.hq] at hmp; cases hmp
    have hr3 : H3 r = some (.lst []) := s9 _ _ upd_same
    have hmp0 : ∀ {H' : Hp} {bad : List Addr}, (∀ b ∈ bad, b = r ∨ b = q) → Mut bad H3 H' → H' mp = some (.lst ms) := fun hb m => m.lst _ _ (fun hin => by rcases hb _ hin with rfl | rfl; exact hmr rfl; exact hmq rfl) hms
    refine ⟨mp, rfl, ⟨_, SqL.of hms⟩, ?_⟩
    -- a turn's state: i moves are done
    let St := fun (i : Nat) (H4 : Hp) (qs : List Pr) => Mut [r, q] H3 H4 ∧ ∃ (f : Pr → V) (qv rv : List V), LSt w H c ld q LO HI ds S [r, q] kk (some p) H4 qs f qv ∧ H4 r = some (.lst rv) ∧ Paired (fun v l => PrsAt H4 v l ∧ Nb [r, q] v) rv ((leadF LO HI p).take i) ∧
      ∀ l ∈ (leadF LO HI p).take i, ∀ x ∈ l, x ∈ qs
    refine for_list (xs := ms) (Pv := fun i σ H4 => ∃ (qs : List Pr) (o9 o10 o11 o12 : Option V), σ = [some (.ref la), some (.ref ha), some (.ref c), some (.ref ld), some (.ref q), some (.int (kk : Nat)), some (.int p.1), some (.int p.2), some (.ref r), o9, o10, o11, o12, none] ∧ St i H4 qs)
      ⟨qs, _, _, _, _, rfl, Mut.refl _ _, f, qv, [], I2, hr3, by rw [List.take_zero]; exact .nil, fun l h => by rw [List.take_zero] at h; exact absurd h List.not_mem_nil⟩ ?_ ?_ ?_
    · rintro i σ H4 _ ⟨qs, o9, o10, o11, o12, rfl, mm, _⟩
      exact SqL.of (hmp0 (by simp) mm)
    · rintro i x σ H4 hx ⟨qs, o9, o10, o11, o12, rfl, mm, f, qv, rv, I3, hr4, hRP, hin⟩
      have hi := (List.getElem?_eq_some_iff.mp hx).1
      have hml := paired_len hMP
      have hmv : (row LO p.1)[i]? = some ((row LO p.1)[i]'(by omega)) := List.getElem?_eq_getElem _
      generalize ((row LO p.1)[i]'_) = mv at hmv
      obtain ⟨x', hx', hMv0⟩ := paired_getR hMP hmv
      rw [hx] at hx'
      obtain rfl := Option.some.inj hx'
      have hMv := hMv0.mono mm.tup
      obtain ⟨ms', hms1, hms2⟩ := row_get hmv
      have hdm := ((gL.gd ms' hms1).2 mv hms2).1
      have hdok := mk.ok _ hdm
      obtain ⟨t, u, rfl, ht, hda⟩ := hMv
      obtain ⟨z, rfl, hz⟩ := id hda
      have hlf : (leadF LO HI p)[i]? = some (leadM HI p.2 mv) := by unfold leadF; rw [List.getElem?_map, hmv]; rfl
      have hltk : (leadF LO HI p).take (i + 1) = (leadF LO HI p).take i ++ [leadM HI p.2 mv] := by rw [List.take_add_one, hlf]; rfl
      have hlS : ∀ x ∈ leadM HI p.2 mv, x ∈ S := cls.cl p hpS _ (List.mem_of_getElem? hlf)
      refine ⟨t, _, rfl, SqT.of ht, rfl, _, _, rfl, _, _, rfl, rfl, ?_⟩
      refine ⟨_, rfl, _, rfl, szk 2 rfl, fun t3 ht3 => ⟨szk 1 rfl, fun w0 hw0 => ?_⟩⟩
      have s10 := Same.new1 (o := .tup [V.int mv.2, V.int p.2]) ht3
      have s11 := Same.new1 (o := .lst [V.ref t3]) hw0
      have s1011 := s10.trans s11
      have badN : ∀ {H' : Hp}, (H' r = some (.lst rv)) → (∃ qv, H' q = some (.lst qv)) → ∀ b ∈ [r, q], H' b ≠ none := fun h1 h2 b hb => by
        simp only [List.mem_cons, List.not_mem_nil, or_false] at hb
        obtain ⟨qv, h2⟩ := h2
        rcases hb with rfl | rfl
        · rw [h1]; exact fun e => by cases e
        · rw [h2]; exact fun e => by cases e
      -- the row that it leads to
      refine ⟨fun σ H6 => ∃ (rw_ : Addr), σ = [some (.ref la), some (.ref ha), some (.ref c), some (.ref ld), some (.ref q), some (.int (kk : Nat)), some (.int p.1), some (.int p.2), some (.ref r), some (.ref z), some (.int mv.2), some (.ref rw_), o12, none] ∧
        Mut [r, q] H3 H6 ∧ LSt w H c ld q LO HI ds S [r, q] kk (some p) H6 qs f qv ∧ H6 r = some (.lst rv) ∧ Paired (fun v l => PrsAt H6 v l ∧ Nb [r, q] v) rv ((leadF LO HI p).take i) ∧ PrsAt H6 (.ref rw_) (leadM HI p.2 mv) ∧ Nb [r, q] (.ref rw_), ?_, ?_⟩
      · refine ⟨_, rfl, z, _, 1, _, rfl, rfl, SqT.of (s1011 _ _ hz), rfl, rfl, _, rfl, ?_⟩
        rw [← hid_eq]
        cases hh : hid mv.1 with
        | true =>
          refine iteF ⟨w0, rfl, mm.trans (Mut.same s1011), I3.grow s1011, s1011 _ _ hr4, Paired.mapP hRP fun _ _ q => ⟨q.1.mut (Mut.same s1011) q.2, q.2⟩, ?_, new_nb (badN (s10 _ _ hr4) ⟨_, s10 _ _ I3.hq⟩) hw0⟩
          unfold leadM
          rw [if_pos hh]
          exact ⟨w0, _, rfl, upd_same, .cons ⟨t3, rfl, s11 _ _ upd_same⟩ .nil⟩
        | false =>
          have I4 := I3.grow s1011
          have hr5 := s1011 _ _ hr4
          refine iteT ⟨_, rfl, _, rfl, _, rfl, _, rfl, .ref ha, c, p.2, .ref z, HI, ds, mv.1, [r, q], rfl, hH.mono I4.s, gH, hh40, mk, I4.cc, badN hr5 ⟨_, I4.hq⟩, hph, hda.mono (Tups.same s1011), hdm, hh, fun v H6 b6 cc6 hv6 => ?_⟩
          obtain ⟨y, rfl, hy⟩ := hv6
          have m6 : Mut [r, q] _ H6 := b6.mutC I4.cc
          have I5 := I4.but hc hlc b6 cc6
          have hrc : r ≠ c := by
            obtain ⟨o1, e1⟩ := I4.cc.dict
            rintro rfl
            rw [hr5] at e1
            cases e1
          have hr6 := b6 _ _ hrc hr5
          refine ⟨y, rfl, ⟨_, SqL.of hy⟩, fun D hD => ?_⟩
          have hrl : (reps hid HI p.2 mv.1).length ≤ 40 := by
            have h1 : (reps hid HI p.2 mv.1).Nodup := (CM.reps_sorted HI p.2 mv.1).imp fun h => by omega
            have h2 := CM.nodup_le (n := HI.length) h1 fun x hx => wfH.rep ((CM.mem_reps wfH).mp hx)
            omega
          refine lc_pairs (j := 10) (b := 13) (n := mv.2) hy (by omega) hD fun H7 vs s12 hv7 hvP => ?_
          have m67 := m6.trans (Mut.same s12)
          refine ⟨D, rfl, (mm.trans (Mut.same s1011)).trans m67, I5.grow s12, s12 _ _ hr6, Paired.mapP hRP fun _ _ q => ⟨(q.1.mut (Mut.same s1011) q.2).mut m67 q.2, q.2⟩, ?_, new_nb (badN hr6 ⟨_, I5.hq⟩) hD⟩
          unfold leadM
          rw [if_neg (by rw [hh]; decide)]
          exact ⟨D, vs, rfl, hv7, hvP⟩
      rintro σ H6 ⟨rw_, rfl, m6, I4, hr6, hRP6, hrow, nrow⟩
      have hrvl := paired_len hRP6
      have hrl2 : rv.length ≤ 100 := by
        have := row_len gL.gd mk.le hms1
        have h2 : (row LO p.1).length ≤ 8 := by
          have : row LO p.1 ∈ LO := by
            unfold row
            rw [List.getD_eq_getElem?_getD, List.getElem?_eq_getElem (by have := hpl.1; have := hpl.2; omega)]
            exact List.getElem_mem _
          exact row_len gL.gd mk.le this
        rw [List.length_take] at hrvl
        have h3 : (leadF LO HI p).length = (row LO p.1).length := List.length_map ..
        omega
      refine ⟨_, rfl, tyL hr6, _, rfl, r, _, _, rfl, rfl, hr6, szLt (by omega), ?_⟩
      have m7 : Mut [r, q] H6 (upd H6 r (.lst (rv ++ [.ref rw_]))) := Mut.upd (by simp) (not_tup hr6)
      have I5 := I4.set (o := .lst (rv ++ [.ref rw_])) hr6 (by simp) hrq hr0
      have hrow7 := hrow.mut m7 nrow
      have hRP7 : Paired (fun v l => PrsAt (upd H6 r (.lst (rv ++ [.ref rw_]))) v l ∧ Nb [r, q] v) (rv ++ [.ref rw_]) ((leadF LO HI p).take (i + 1)) := by
        rw [hltk]
        exact paired_snoc (Paired.mapP hRP6 fun _ _ q => ⟨q.1.mut m7 q.2, q.2⟩) ⟨hrow7, nrow⟩
      obtain ⟨rw', wv, erw, hwv, hwP⟩ := id hrow7
      injection erw with erw
      subst erw
      have hwl := paired_len hwP
      refine ⟨_, rfl, rw_, rfl, ⟨_, SqL.of hwv⟩, ?_⟩
      refine for_list (xs := wv) (Pv := fun j σ H8 => ∃ (qs : List Pr) (f : Pr → V) (qv : List V) (o12 : Option V), σ = [some (.ref la), some (.ref ha), some (.ref c), some (.ref ld), some (.ref q), some (.int (kk : Nat)), some (.int p.1), some (.int p.2), some (.ref r), some (.ref z), some (.int mv.2), some (.ref rw_), o12, none] ∧
        Mut [q] (upd H6 r (.lst (rv ++ [.ref rw_]))) H8 ∧ LSt w H c ld q LO HI ds S [r, q] kk (some p) H8 qs f qv ∧ (∀ l ∈ (leadF LO HI p).take i, ∀ x ∈ l, x ∈ qs) ∧ ∀ x ∈ (leadM HI p.2 mv).take j, x ∈ qs) ⟨qs, f, qv, _, rfl, Mut.refl _ _, I5, hin, fun x h => by rw [List.take_zero] at h; exact absurd h List.not_mem_nil⟩ ?_ ?_ ?_
      · rintro j σ H8 _ ⟨qs, f, qv, o12, rfl, m8, _⟩
        exact SqL.of (m8.lst _ _ (nrow.less (bad' := [q]) (by simp)).addr hwv)
      · rintro j x σ H8 hx ⟨qs, f, qv, o12, rfl, m8, I6, hin6, hin7⟩
        have hj := (List.getElem?_eq_some_iff.mp hx).1
        have hxm : (leadM HI p.2 mv)[j]? = some ((leadM HI p.2 mv)[j]'(by omega)) := List.getElem?_eq_getElem _
        generalize ((leadM HI p.2 mv)[j]'_) = xp at hxm
        obtain ⟨x', hx', hxp0⟩ := paired_getR hwP hxm
        rw [hx] at hx'
        obtain rfl := Option.some.inj hx'
        have hxp := hxp0.mono m8.tup
        have hxS := hlS xp (List.mem_of_getElem? hxm)
        have htk : (leadM HI p.2 mv).take (j + 1) = (leadM HI p.2 mv).take j ++ [xp] := by rw [List.take_add_one, hxm]; rfl
        have hql6 := paired_len I6.qP
        have hqS6 := CM.nodup_sub I6.nd I6.sub
        have hS9 := cls.le
        obtain ⟨xa, rfl, hxa⟩ := id hxp
        refine ⟨_, rfl, _, rfl, ld, _, _, rfl, I6.dm, hxp.isP, _, rfl, ?_⟩
        rw [mapD_get]
        by_cases hxin : xp ∈ qs
        · rw [if_pos hxin]
          refine iteF ⟨qs, f, qv, _, rfl, m8, I6, hin6, fun x hx => ?_⟩
          rw [htk, List.mem_append, List.mem_singleton] at hx
          rcases hx with hx | rfl
          · exact hin7 x hx
          · exact hxin
        · rw [if_neg hxin]
          have hq999 : qs.length < 999 := by
            have := CM.nodup_sub (l := qs ++ [xp]) (m := S) (nodup_snoc I6.nd hxin) fun y hy => by
              rw [List.mem_append, List.mem_singleton] at hy
              rcases hy with hy | rfl
              · exact I6.sub y hy
              · exact hxS
            rw [List.length_append, List.length_singleton] at this
            omega
          refine iteT ⟨_, rfl, ld, _, rfl, I6.dm, _, _, rfl, rfl, _, rfl, ?_⟩
          rw [mapD_len, decide_eq_false (by omega)]
          refine iteF ⟨Nat.zero_le _, fun e hee => ?_⟩
          have s13 := Same.new1 (o := .lst []) hee
          have I7 := I6.grow s13
          refine ⟨_, rfl, _, rfl, ld, _, _, rfl, I7.dm, (hxp.mono (Tups.same s13)).isP, szLt (by rw [mapD_len]; omega), fun o' nd' => ?_⟩
          have mD : Mut [r, q] (upd H8 e (.lst [])) (upd (upd H8 e (.lst [])) ld (dob ld o')) := Mut.dict I7.dm
          have mD0 : Mut [q] (upd H8 e (.lst [])) (upd (upd H8 e (.lst [])) ld (dob ld o')) := Mut.dict I7.dm
          have hql : q ≠ ld := DM.notLst I7.dm I7.hq
          have hq9 : (upd (upd H8 e (.lst [])) ld (dob ld o')) q = some (.lst qv) := by rw [upd_ne hql]; exact I7.hq
          have hxp9 := (hxp.mono (Tups.same s13)).mono mD.tup
          refine ⟨_, rfl, tyL hq9, _, rfl, q, _, _, rfl, rfl, hq9, szLt (by omega), ?_⟩
          have mQ : Mut [r, q] (upd (upd H8 e (.lst [])) ld (dob ld o')) (upd (upd (upd H8 e (.lst [])) ld (dob ld o')) q (.lst (qv ++ [.ref xa]))) := Mut.upd (by simp) (not_tup hq9)
          have mQ0 : Mut [q] (upd (upd H8 e (.lst [])) ld (dob ld o')) (upd (upd (upd H8 e (.lst [])) ld (dob ld o')) q (.lst (qv ++ [.ref xa]))) := Mut.upd (by simp) (not_tup hq9)
          have mDQ := mD.trans mQ
          refine ⟨qs ++ [xp], fset f xp (.ref e), qv ++ [.ref xa], _, rfl, m8.trans ((Mut.same s13).trans (mD0.trans mQ0)), ⟨Same.mut (Same.mut I7.s hld0) hq0, ?_, ?_, upd_same, ?_, nodup_snoc I6.nd hxin, ?_, List.mem_append_left _ I6.z, ?_, ?_, ?_⟩, ?_, ?_⟩
          · have hcq : c ≠ q := by
              obtain ⟨o1, e1⟩ := I7.cc.dict
              rintro rfl
              rw [I7.hq] at e1
              cases e1
            exact I7.cc.mut (by rw [upd_ne hcq, upd_ne (Ne.symm hlc)]) mDQ
          · have := nd'
            rw [mapD_put_new hxin] at this
            exact DM.mono (T := TP) this (upd_ne (Ne.symm hql)) mQ.tup
          · exact paired_snoc (Paired.mapP I7.qP fun _ _ y => y.mono mDQ.tup) (hxp9.mono mQ.tup)
          · intro y hy
            rw [List.mem_append, List.mem_singleton] at hy
            rcases hy with hy | rfl
            · exact I6.sub y hy
            · exact hxS
          · rw [List.length_append]
            have := I6.le
            omega
          · rcases I6.at_ with h | h
            · exact .inl (get_snoc h)
            · cases h
          · intro j' p' hj' e'
            have e'' := snoc_get e' (by have := I6.le; omega)
            have hne : p' ≠ xp := by rintro rfl; exact hxin (List.mem_of_getElem? e'')
            rw [fset_ne hne]
            obtain ⟨d1, d2⟩ := I7.done j' p' hj' e''
            exact ⟨d1.mut mDQ, fun r hr x hx => List.mem_append_left _ (d2 r hr x hx)⟩
          · exact fun l hl x hx => List.mem_append_left _ (hin6 l hl x hx)
          · intro y hy
            rw [htk, List.mem_append, List.mem_singleton] at hy
            rcases hy with hy | rfl
            · exact List.mem_append_left _ (hin7 y hy)
            · exact List.mem_append_right _ (List.mem_singleton.mpr rfl)
      · rintro σ H8 ⟨qs, f, qv, o12, rfl, m8, I6, hin6, hin7⟩
        rw [hwl, List.take_length] at hin7
        have hr8 : H8 r = some (.lst (rv ++ [.ref rw_])) := m8.lst _ _ (by simp [hrq]) upd_same
        refine ⟨qs, _, _, _, _, rfl, m6.trans (m7.trans (m8.more (by simp))), f, qv, _, I6, hr8, Paired.mapP hRP7 fun _ _ y => ⟨y.1.mut (m8.more (bad' := [r, q]) (by simp)) y.2, y.2⟩, ?_⟩
        intro l hl x hx
        rw [hltk, List.mem_append, List.mem_singleton] at hl
        rcases hl with hl | rfl
        · exact hin6 l hl x hx
        · exact hin7 x hx
    · rintro σ H4 ⟨qs, o9, o10, o11, o12, rfl, mm, f, qv, rv, I3, hr4, hRP, hin⟩
      have hml := paired_len hMP
      have hfull : (leadF LO HI p).take ms.length = leadF LO HI p := List.take_of_length_le (by rw [hml]; unfold leadF; rw [List.length_map]; exact Nat.le_refl _)
      rw [hfull] at hRP hin
      have hp4 : qs[kk]? = some p := by
        rcases I3.at_ with h | h
        · exact h
        · cases h
      have hpm := List.mem_of_getElem? hp4
      have hkl := (List.getElem?_eq_some_iff.mp hp4).1
      have hqS := CM.nodup_sub I3.nd I3.sub
      have hS9 := cls.le
      refine ⟨_, rfl, _, rfl, _, rfl, _, rfl, szk 2 rfl, fun t4 ht4 => ?_⟩
      have s14 := Same.new1 (o := .tup [V.int p.1, V.int p.2]) ht4
      have I4 := I3.grow s14
      have hkey : PairAt (upd H4 t4 (.tup [.int p.1, .int p.2])) (.ref t4) p := ⟨t4, rfl, upd_same⟩
      refine ⟨ld, _, _, rfl, I4.dm, hkey.isP, szLt (by rw [mapD_len]; omega), fun o' nd' => ?_⟩
      have mD : Mut [q] (upd H4 t4 (.tup [.int p.1, .int p.2])) (upd (upd H4 t4 (.tup [.int p.1, .int p.2])) ld (dob ld o')) := Mut.dict I4.dm
      have mD2 : Mut [r, q] (upd H4 t4 (.tup [.int p.1, .int p.2])) (upd (upd H4 t4 (.tup [.int p.1, .int p.2])) ld (dob ld o')) := Mut.dict I4.dm
      have hql2 : q ≠ ld := DM.notLst I4.dm I4.hq
      have hrl2 : r ≠ ld := DM.notLst I4.dm (s14 _ _ hr4)
      have hcl : c ≠ ld := Ne.symm hlc
      refine ⟨_, rfl, _, _, rfl, rfl, m - 1, by omega, kk + 1, qs, fset f p (.ref r), qv, _, _, _, _, _, _, _, by omega, rfl, ⟨Same.mut I4.s hld0, ?_, ?_, ?_, Paired.mapP I4.qP fun _ _ y => y.mono mD.tup, I4.nd, I4.sub, I4.z, by omega, .inr rfl, ?_⟩⟩
      · exact (I4.cc.less (bad' := [q]) (by simp)).mut (upd_ne hcl) mD
      · have := nd'
        rw [mapD_put_old hpm] at this
        exact this
      · rw [upd_ne hql2]
        exact I4.hq
      · intro j' p' hj' e'
        by_cases e : p' = p
        · subst e
          rw [fset_same]
          refine ⟨⟨r, rv, rfl, fun b hb => by rw [List.mem_singleton] at hb; subst hb; exact fun e => hrq (V.ref.inj e), by rw [upd_ne hrl2]; exact s14 _ _ hr4, Paired.mapP hRP fun v l y => ⟨(y.1.mut (Mut.same s14) y.2).mut mD2 y.2, y.2.less (by simp)⟩⟩, hin⟩
        · rw [fset_ne e]
          have hjk : j' < kk := by
            rcases Nat.lt_or_ge j' kk with h | h
            · exact h
            · have : j' = kk := by omega
              subst this
              rw [hp4] at e'
              exact absurd (Option.some.inj e').symm e
          obtain ⟨d1, d2⟩ := I4.done j' p' hjk e'
          exact ⟨(d1.less (bad' := [q]) (by simp)).mut mD, d2⟩
  · have hge : ¬ (kk : Int) < ((qv.length : Nat) : Int) := of_decide_eq_false (by simpa using hge)
    have hkk : kk = qs.length := by have := I.le; omega
    refine ⟨_, rfl, k ld qs f H1 hld0 I.s I.dm (fun p hp => ?_) ⟨I.nd, fun p hp r hr x hx => ?_⟩ I.z I.sub⟩
    · obtain ⟨j, hj⟩ := List.getElem?_of_mem hp
      exact (I.done j p (by have := (List.getElem?_eq_some_iff.mp hj).1; omega) hj).1.less (by simp)
    · obtain ⟨j, hj⟩ := List.getElem?_of_mem hp
      exact (I.done j p (by have := (List.getElem?_eq_some_iff.mp hj).1; omega) hj).2 r hr x hx
end
end Ct
/-! rounds_of. -/
namespace Ct
open PySem PySem.Spec PyProof.Rows L2 Nd
open CM (Leads alf entA entP entF entR En Rnd Lft Dwn told fail0 zer fput)
theorem szB {n : Nat} (h : n < 16000000) : n < sizeLine := Nat.lt_of_lt_of_le h (by decide)
def TPn : KeyTy (Pr × Nat) where
  enc q := .tup [pairN q.1, .num (q.2 : Nat)]
  inj a b h := by
    simp only [NestedKey.tup.injEq, List.cons.injEq, NestedKey.num.injEq, and_true] at h
    exact Prod.ext (pairN_inj h.1) (by have := h.2; omega)
  deep a := by simp only [pairN, NestedKey.depth, NestedKey.depthAll]; decide
def PlaceAt (H : Hp) (v : V) (x : Pr × Nat) : Prop := ∃ a u, v = .ref a ∧ H a = some (.tup [u, .int (x.2 : Nat)]) ∧ PairAt H u x.1
theorem PlaceAt.mono {H H' : Hp} {v : V} {x : Pr × Nat} (h : PlaceAt H v x) (t : Tups H H') : PlaceAt H' v x := let ⟨a, u, e, q, p⟩ := h; ⟨a, u, e, t _ _ q, p.mono t⟩
theorem PlaceAt.is {H : Hp} {v : V} {x : Pr × Nat} (h : PlaceAt H v x) : IsK H v (TPn.enc x) := by
  obtain ⟨a, u, rfl, e, p⟩ := h
  exact ⟨a, rfl, .tup e (.cons p.key (.cons (.num _) .nil)), TPn.deep x⟩
theorem key_pair {H : Hp} {q : Addr} {p : Pr} (h : KeyAt H (.ref q) (TP.enc p)) : PairAt H (.ref q) p := by
  obtain ⟨p1, p2⟩ := p
  have h' : KeyAt H (.ref q) (.tup [.num p1, .num p2]) := h
  cases h' with
  | tup e ha =>
    cases ha with
    | cons h1 ha =>
      cases ha with
      | cons h2 ha =>
        cases ha
        cases h1
        cases h2
        exact ⟨q, rfl, e⟩
section
variable {w : World} {d : Addr} {o : Obj} {kvs : List (NK × V)}
theorem walk_keysN : Walk (Itkn w d o kvs) kvs.length (fun H => NDat w H d o kvs) (fun i H x H' => H' = H ∧ ∃ k v q, kvs[i]? = some (k, v) ∧ x = .ref q ∧ KeyAt H (.ref q) k) :=
  ⟨fun _ _ hi q => ⟨q, hi⟩, fun _ q => ⟨q, Nat.le_refl _⟩, fun _ _ _ _ _ _ y => y⟩
theorem walk_itemsN : Walk (Itin w d o kvs) kvs.length (fun H => NDat w H d o kvs) (fun i H x H' => ∃ T k v q, kvs[i]? = some (k, v) ∧ x = .ref T ∧ KeyAt H (.ref q) k ∧ H T = none ∧ H' = upd H T (.tup [.ref q, v])) :=
  ⟨fun _ _ hi q => ⟨q, hi⟩, fun _ q => ⟨q, Nat.le_refl _⟩, fun _ _ _ _ _ _ y => y⟩
end
theorem mapD_at {κ : Type} {T : KeyTy κ} {qs : List κ} {f : κ → V} {i : Nat} {k : NK} {v : V} (h : (mapD T qs f)[i]? = some (k, v)) : ∃ q, qs[i]? = some q ∧ k = T.enc q ∧ v = f q := by
  unfold mapD at h
  rw [List.getElem?_map] at h
  cases e : qs[i]? with
  | none => rw [e] at h; cases h
  | some q =>
    rw [e] at h
    have := Option.some.inj h
    exact ⟨q, rfl, (congrArg Prod.fst this).symm, (congrArg Prod.snd this).symm⟩
theorem DM.congr {κ : Type} {T : KeyTy κ} {w : World} {H : Hp} {a : Addr} {qs : List κ} {f g : κ → V} (h : DM T w H a qs f) (e : ∀ x ∈ qs, f x = g x) : DM T w H a qs g := by
  have : mapD T qs f = mapD T qs g := List.map_congr_left fun x hx => by rw [e x hx]
  unfold DM
  rw [← this]
  exact h
theorem mem_take_of_nodup {α : Type} {l : List α} {i : Nat} {x : α} (n : l.Nodup) (h : l[i]? = some x) : x ∉ l.take i := fun m => by
  obtain ⟨j, hj⟩ := List.getElem?_of_mem m
  rw [List.getElem?_take] at hj
  split at hj
  · rename_i hji
    have := nodup_inj n hj h
    omega
  · cases hj
theorem take_snoc {α : Type} {l : List α} {i : Nat} {x : α} (h : l[i]? = some x) : l.take (i + 1) = l.take i ++ [x] := by rw [List.take_add_one, h]; rfl
/-- the rounds: none below 0, each is won by a move all of whose pairs are nearer -/
structure RdOk (qs : List Pr) (rows : Pr → List (List Pr)) (ρ : Pr → Int) : Prop where
  rng : ∀ p ∈ qs, 0 ≤ ρ p ∧ ρ p ≤ (qs.length : Int)
  fall : ∀ p ∈ qs, 0 < ρ p → ∃ r ∈ rows p, ∀ q ∈ r, 0 < ρ q ∧ ρ q < ρ p
section
variable {P : Program} {w : World} {K : PySem.W.Frag} {mg : Str → Option Value} {base : Heap}
def spRounds (w : World) : Sp := fun vs H Q _ => ∃ (ld : Addr) (qs : List Pr) (g : Pr → V) (rows : Pr → List (List Pr)), vs = [.ref ld] ∧ DM TP w H ld qs g ∧ (∀ p ∈ qs, PrrAt [] H (g p) (rows p)) ∧ Leads qs rows ∧ qs.length ≤ 999 ∧ (∀ p ∈ qs, (rows p).length ≤ 8 ∧ ∀ r ∈ rows p, r.length ≤ 40) ∧
  ∀ a ρ H', H a = none → Same H H' → DM TP w H' a qs (fun p => .int (ρ p)) → RdOk qs rows ρ → Q (.ref a) H'
/-- the lists of places, each its own -/
structure Abv (H0 : Hp) (qs : List Pr) (av : Pr → V) (E : List (En Pr)) (H : Hp) : Prop where
  at_ : ∀ p ∈ qs, ∃ a vs, av p = .ref a ∧ H a = some (.lst vs) ∧ Paired (PlaceAt H) vs (alf E p) ∧ H0 a = none
  inj : ∀ p ∈ qs, ∀ p' ∈ qs, p ≠ p' → av p ≠ av p'
theorem Abv.mut {H0 H H' : Hp} {qs : List Pr} {av : Pr → V} {E : List (En Pr)} (h : Abv H0 qs av E H) (m : Mut [] H H') : Abv H0 qs av E H' :=
  ⟨fun p hp => let ⟨a, vs, e, h1, h2, h3⟩ := h.at_ p hp; ⟨a, vs, e, m.lst _ _ List.not_mem_nil h1, Paired.mapP h2 fun _ _ x => x.mono m.tup, h3⟩, h.inj⟩
theorem rows_dp {K : PySem.W.Frag} {bad : List Addr} {H : Hp} {v : V} {ls : List (List Pr)} (h : PrrAt bad H v ls) : Dp K H v (.list (ls.map fun r => .list (r.map pairD))) := by
  obtain ⟨a, vs, rfl, _, e, p⟩ := h
  refine .lst (SqL.of e) (dpAll_map (F := fun v r => PrsAt H v r ∧ Nb bad v) (fun v r q => ?_) p)
  exact ListAt.dp q.1 fun _ _ x => x.dp
theorem rows_shaped (ls : List (List Pr)) : SeqAt.shaped (.list (ls.map fun r => PyData.list (r.map pairD))) = true := by
  refine Ly.shaped (n := 3) (ly_list fun d hd => ?_) (by decide)
  obtain ⟨r, _, rfl⟩ := List.mem_map.mp hd
  refine ly_list fun d hd => ?_
  obtain ⟨p, _, rfl⟩ := List.mem_map.mp hd
  exact ly_pair p
theorem any_empty (ls : List (List Pr)) : ((ls.map fun r => PyData.list (r.map pairD)).any fun z => PyData.eqv z (.list [])) = decide ([] ∈ ls) := by
  rw [List.any_map]
  induction ls with
  | nil => rfl
  | cons r ls ih =>
    rw [List.any_cons, ih]
    cases r with
    | nil => simp [PyData.eqv, PyData.eqvAll]
    | cons p r => simp [PyData.eqv, PyData.eqvAll]
theorem fail0_le (qs : List Pr) (rows : Pr → List (List Pr)) : (fail0 qs rows).length ≤ qs.length := List.length_filter_le _ _
theorem fail0_pos {qs : List Pr} {rows : Pr → List (List Pr)} {p : Pr} (h : [] ∈ rows p) : fail0 (qs ++ [p]) rows = fail0 qs rows ++ [p] := by
  unfold fail0
  rw [List.filter_append]
  congr 1
  simp [h]
theorem fail0_neg {qs : List Pr} {rows : Pr → List (List Pr)} {p : Pr} (h : ¬ [] ∈ rows p) : fail0 (qs ++ [p]) rows = fail0 qs rows := by
  unfold fail0
  rw [List.filter_append]
  simp [h]
theorem told_nil (ρ : Pr → Int) (n : Int) : told ρ n [] = ρ := by
  funext p
  unfold told
  rw [if_neg List.not_mem_nil]
theorem told_snoc (ρ : Pr → Int) (n : Int) (l : List Pr) (p y : Pr) : told ρ n (l ++ [p]) y = if y = p then n else told ρ n l y := by
  unfold told
  by_cases e : y = p
  · rw [if_pos e, if_pos (by rw [e]; simp)]
  · rw [if_neg e]
    by_cases h : y ∈ l
    · rw [if_pos h, if_pos (List.mem_append_left _ h)]
    · rw [if_neg h, if_neg (by simp [h, e])]
theorem sc_rounds_of : FnScope (["leads", "rounds", "above", "left", "pair", "rows", "index", "row", "reached", "failing", "number", "later", "place"] : List Str) ["leads"] (defScope s_rounds_of) := ⟨rfl, rfl, rfl, by decide +kernel, rfl, by decide +kernel, by decide +kernel⟩
theorem ok_rounds (F : TF K "rounds_of" s_rounds_of) (T : Tx K mg) : DOk P w K mg base 1 "rounds_of" ["leads"] (spRounds w) := by
  refine dok F T.g_rounds_of sc_rounds_of (fun vs H Q E h => ?_) (fun _ _ _ _ _ _ us hl => match us, hl with | [_], _ => rfl) (fun cdv A outer s H vs Q E hr h => ?_)
  · obtain ⟨ld, qs, g, rows, rfl, _⟩ := h
    rfl
  obtain ⟨ld, qs, g, rows, rfl, dmL, hg, L, hq9, hsz, k⟩ := h
  have hu9 := hu9_of hr
  have hu65 := hu65_of hr
  obtain ⟨oL, ndL⟩ := id dmL
  have hldL := ndL.1
  have ndLs : ∀ {H'}, Same H H' → NDat w H' ld oL (mapD TP qs g) := fun s => ndL.mono (by rw [s _ _ hldL, hldL]) (Tups.same s)
  have kl : (mapD TP qs g).length = qs.length := mapD_len _ _ _
  refine ⟨_, (pss_cons (ps_set (i := 1) sc_rounds_of.nd rfl (Or.inl rfl) pe_nnew)
    (pss_cons (ps_set (i := 2) sc_rounds_of.nd rfl (Or.inl rfl) pe_nnew)
    (pss_cons (ps_set (i := 3) sc_rounds_of.nd rfl (Or.inl rfl) pe_nnew)
    (pss_cons (ps_for PassesOwn.never rfl (pi_keysN (pv 0)) (pg_name (i := 4) sc_rounds_of.nd rfl (Or.inl rfl)) (pss_cons (ps_asg pe_int (pg_sub (pv 1) (pv 4) (set_n hu9)))
    (pss_one (ps_asg (pe_lst pa_nil) (pg_sub (pv 2) (pv 4) (set_n hu9))))))
    (pss_cons (ps_for PassesOwn.never rfl (pi_itemsN (pv 0)) (pg_tup rfl (pgs_cons (pg_name (i := 4) sc_rounds_of.nd rfl (Or.inl rfl)) (pgs_cons (pg_name (i := 5) sc_rounds_of.nd rfl (Or.inl rfl)) pgs_nil))) (pss_one (ps_for PassesOwn.never rfl (pi_enum rfl T.f_enumerate (pa_cons (pv 5) pa_nil)) (pg_tup rfl (pgs_cons (pg_name (i := 6) sc_rounds_of.nd rfl (Or.inl rfl)) (pgs_cons (pg_name (i := 7) sc_rounds_of.nd rfl (Or.inl rfl)) pgs_nil))) (pss_cons (ps_asg (pe_callB call_len_seq (by rfl) T.f_len (by decide +kernel) (pa_cons (pv 7) pa_nil)) (pg_sub (pv 3) (pe_tup (pa_cons (pv 4) (pa_cons (pv 6) pa_nil))) (set_n hu9)))
    (pss_one (ps_for PassesOwn.never rfl (pi_list (pv 7)) (pg_name (i := 8) sc_rounds_of.nd rfl (Or.inl rfl)) (pss_one (ps_expr (pe_bm PySem.F.plainAttrs_list PySem.F.slot_list_append PySem.F.type_list_append mt_append (pe_nget hu9 (pv 2) (pv 8) (fun _ _ => rfl)) (pa_cons (pe_tup (pa_cons (pv 4) (pa_cons (pv 6) pa_nil))) pa_nil))))))))))
    (pss_cons (ps_setLc (i := 9) (own := [("pair", 4), ("rows", 5)]) rfl sc_rounds_of.nd rfl rfl (sw_true rfl rfl rfl (by decide +kernel)) (pi_itemsN (pv 0)) (blkOk_by (N := (["leads", "rounds", "above", "left", "pair", "rows", "index", "row", "reached", "failing", "number", "later", "place"] : List Str)) (sc := defScope s_rounds_of) (by decide +kernel)) (fun _ _ _ _ _ => (pg_tupK (n := 2) (K := K) rfl (pgs_cons (pg_name (i := 4) sc_rounds_of.nd rfl (Or.inl rfl)) (pgs_cons (pg_name (i := 5) sc_rounds_of.nd rfl (Or.inl rfl)) pgs_nil)))) (fun _ _ _ _ _ => (pts_one (pt_cmpR (op_inDK (K := K) hu65) (pe_lst pa_nil) (pv 5) (by rfl)))) (fun _ _ _ _ _ => (pv 4)))
    (pss_cons (ps_set (i := 10) sc_rounds_of.nd rfl (Or.inl rfl) pe_int)
    (pss_cons (ps_while PassesOwn.never (pt_cmpR op_gt (pe_callB call_len_seq (by rfl) T.f_len (by decide +kernel) (pa_cons (pv 9) pa_nil)) pe_int (nomark _)) (pss_cons (ps_for PassesOwn.never rfl (pi_list (pv 9)) (pg_name (i := 4) sc_rounds_of.nd rfl (Or.inl rfl)) (pss_one (ps_asg (pv 10) (pg_sub (pv 1) (pv 4) (set_n hu9)))))
    (pss_cons (ps_set (i := 11) sc_rounds_of.nd rfl (Or.inl rfl) pe_nnew)
    (pss_cons (ps_for PassesOwn.never rfl (pi_list (pv 9)) (pg_name (i := 4) sc_rounds_of.nd rfl (Or.inl rfl)) (pss_one (ps_for PassesOwn.never rfl (pi_list (pe_nget hu9 (pv 2) (pv 4) (fun _ _ => rfl))) (pg_name (i := 12) sc_rounds_of.nd rfl (Or.inl rfl)) (pss_cons (ps_augS (pv 3) (pv 12) (get_n hu9) pe_int ip_sub (set_n hu9))
    (pss_one (ps_if (PW.pt (pw_and (pt_cmpR op_eq (pe_nget hu9 (pv 3) (pv 12) (fun _ _ => rfl)) pe_int (nomark _)) (pw_and1 (pt_cmpR op_eq (pe_nget hu9 (pv 1) (pe_ix ix_tup (pv 12) pe_int (fun _ _ => rfl)) (fun _ _ => rfl)) pe_int (nomark _))))) (pss_one (ps_asg pe_bl (pg_sub (pv 11) (pe_ix ix_tup (pv 12) pe_int (fun _ _ => rfl)) (set_n hu9)))) pss_nil))))))
    (pss_cons (ps_set (i := 9) sc_rounds_of.nd rfl (Or.inl rfl) (pe_callTy (call_listN rfl) (by rfl) T.f_list (by decide +kernel) (pa_cons (pv 11) pa_nil)))
    (pss_one (ps_aug (i := 10) sc_rounds_of.nd rfl (Or.inl rfl) pe_int ip_add)))))))
    (pss_one (ps_ret (pv 1))))))))))), ?_⟩
  intro rd o1 hrd nd1
  have s1 : Same H (upd H rd (dob rd o1)) := Same.new1 hrd
  intro ab o2 hab nd2
  have s2 : Same (upd H rd (dob rd o1)) (upd (upd H rd (dob rd o1)) ab (dob ab o2)) := Same.new1 hab
  intro lf o3 hlf nd3
  have s3 : Same (upd (upd H rd (dob rd o1)) ab (dob ab o2)) (upd (upd (upd H rd (dob rd o1)) ab (dob ab o2)) lf (dob lf o3)) := Same.new1 hlf
  have hab0 : H ab = none := fresh_back s1 hab
  have hlf0 : H lf = none := fresh_back (s1.trans s2) hlf
  have e_ra : rd ≠ ab := by rintro rfl; rw [upd_same] at hab; cases hab
  have e_rl : rd ≠ lf := by rintro rfl; rw [s2 _ _ upd_same] at hlf; cases hlf
  have e_al : ab ≠ lf := by rintro rfl; rw [upd_same] at hlf; cases hlf
  have hrd0 := hrd
  have c3 : Same H (upd (upd (upd H rd (dob rd o1)) ab (dob ab o2)) lf (dob lf o3)) := s1.trans (s2.trans s3)
  have dmr : DM TP w (upd (upd (upd H rd (dob rd o1)) ab (dob ab o2)) lf (dob lf o3)) rd [] fun _ => V.int 0 := ⟨o1, nd1.mono (by rw [(s2.trans s3) _ _ upd_same, upd_same]) (Tups.same (s2.trans s3))⟩
  have dma : DM TP w (upd (upd (upd H rd (dob rd o1)) ab (dob ab o2)) lf (dob lf o3)) ab [] fun _ => V.non := ⟨o2, nd2.mono (by rw [s3 _ _ upd_same, upd_same]) (Tups.same s3)⟩
  have dml : DM TPn w (upd (upd (upd H rd (dob rd o1)) ab (dob ab o2)) lf (dob lf o3)) lf [] fun _ => V.non := ⟨o3, nd3⟩
  generalize (upd (upd (upd H rd (dob rd o1)) ab (dob ab o2)) lf (dob lf o3)) = H3 at c3 dmr dma dml
  refine ⟨_, rfl, ld, oL, mapD TP qs g, rfl, ndLs c3, ?_⟩
  -- all pairs, with nothing yet
  refine for_it walk_keysN (Pv := fun i σ H1 => ∃ (o4 : Option V) (av : Pr → V), σ = [some (.ref ld), some (.ref rd), some (.ref ab), some (.ref lf), o4, none, none, none, none, none, none, none, none] ∧ Same H H1 ∧ DM TP w H1 rd (qs.take i) (fun _ => .int 0) ∧
    DM TP w H1 ab (qs.take i) av ∧ Abv H (qs.take i) av [] H1 ∧ DM TPn w H1 lf [] fun _ => .non) ⟨none, _, rfl, c3, by rw [List.take_zero]; exact dmr, by rw [List.take_zero]; exact dma, by rw [List.take_zero]; exact ⟨fun p h => absurd h List.not_mem_nil, fun p h => absurd h List.not_mem_nil⟩, dml⟩ ?_ ?_ ?_
  · rintro i σ H1 _ ⟨o4, av, rfl, s4, _⟩
    exact ndLs s4
  · rintro i x σ H1o H1 hi ⟨o4, av, rfl, s4, d1, d2, A1, d3⟩ ⟨rfl, kk, v, q, hkv, rfl, hkey⟩
    rw [kl] at hi
    obtain ⟨p, hp, rfl, rfl⟩ := mapD_at hkv
    have hpa := key_pair hkey
    have hnt := mem_take_of_nodup L.nd hp
    have htl : (qs.take i).length ≤ 999 := by rw [List.length_take]; omega
    refine ⟨_, rfl, _, rfl, rd, _, _, rfl, d1, hpa.isP, szLt (by rw [mapD_len]; omega), fun o' nd' => ?_⟩
    have m1 : Mut [] H1 (upd H1 rd (dob rd o')) := Mut.dict d1
    refine ⟨Nat.zero_le _, fun e he => ?_⟩
    have s5 := Same.new1 (o := .lst []) he
    have he1 : H1 e = none := upd_nil he
    have d2' : DM TP w (upd (upd H1 rd (dob rd o')) e (.lst [])) ab (qs.take i) av := (d2.mono (upd_ne (Ne.symm e_ra)) m1.tup).mono (by
      obtain ⟨o, ho⟩ := DM.at (d2.mono (upd_ne (Ne.symm e_ra)) m1.tup)
      rw [s5 _ _ ho, ho]) (Tups.same s5)
    refine ⟨_, rfl, _, rfl, ab, _, _, rfl, d2', ((hpa.mono m1.tup).mono (Tups.same s5)).isP, szLt (by rw [mapD_len]; omega), fun o'' nd'' => ?_⟩
    have m2 : Mut [] (upd (upd H1 rd (dob rd o')) e (.lst [])) (upd (upd (upd H1 rd (dob rd o')) e (.lst [])) ab (dob ab o'')) := Mut.dict d2'
    have mm := m1.trans ((Mut.same s5).trans m2)
    have d1n : DM TP w (upd H1 rd (dob rd o')) rd (qs.take i ++ [p]) (fset (fun _ => .int 0) p (.int 0)) := by rw [mapD_put_new hnt] at nd'; exact nd'
    refine ⟨_, fset av p (.ref e), rfl, Same.mut (Same.new (Same.mut s4 hrd0) he) hab0, ?_, ?_, ⟨fun p' hp' => ?_, fun p1 h1 p2 h2 hne => ?_⟩, ?_⟩
    · rw [take_snoc hp]
      refine DM.congr ((d1n.mono (by
        obtain ⟨o, ho⟩ := DM.at d1n
        rw [s5 _ _ ho, ho]) (Tups.same s5)).mono (upd_ne e_ra) m2.tup) fun x _ => ?_
      unfold fset
      split <;> rfl
    · rw [take_snoc hp]
      rw [mapD_put_new hnt] at nd''
      exact nd''
    · rw [take_snoc hp, List.mem_append, List.mem_singleton] at hp'
      by_cases e1 : p' = p
      · subst e1
        exact ⟨e, [], fset_same _ _ _, m2.lst _ _ List.not_mem_nil upd_same, .nil, fresh_back s4 he1⟩
      · obtain ⟨a, vs, h1, h2, h3, h4⟩ := A1.at_ p' (hp'.resolve_right e1)
        exact ⟨a, vs, by rw [fset_ne e1]; exact h1, mm.lst _ _ List.not_mem_nil h2, Paired.mapP h3 fun _ _ x => x.mono mm.tup, h4⟩
    · rw [take_snoc hp, List.mem_append, List.mem_singleton] at h1 h2
      have old : ∀ p', p' ∈ qs.take i → fset av p (.ref e) p' ≠ .ref e := fun p' hp' => by
        have hne : p' ≠ p := by rintro rfl; exact hnt hp'
        rw [fset_ne hne]
        obtain ⟨a, vs, h1, h2, _⟩ := A1.at_ p' hp'
        rw [h1]
        intro x
        injection x with x
        subst x
        rw [he1] at h2
        cases h2
      rcases h1 with h1 | rfl
      · rcases h2 with h2 | rfl
        · rw [fset_ne (by rintro rfl; exact hnt h1), fset_ne (by rintro rfl; exact hnt h2)]
          exact A1.inj p1 h1 p2 h2 hne
        · rw [fset_same]
          exact old p1 h1
      · rcases h2 with h2 | rfl
        · rw [fset_same]
          exact fun x => old p2 h2 x.symm
        · exact absurd rfl hne
    · refine DM.mono (T := TPn) d3 ?_ mm.tup
      obtain ⟨o, ho⟩ := DM.at d3
      rw [upd_ne (Ne.symm e_al), s5 _ _ (by rw [upd_ne (Ne.symm e_rl)]; exact ho), ho]
  rintro σ H1 ⟨o4, av, rfl, s4, d1, d2, A1, d3⟩
  rw [kl, List.take_length] at d1 d2 A1
  -- the entries
  let B := fun (E : List (En Pr)) (n : Nat) (Done : Pr × Nat → Prop) (H2 : Hp) => Same H H2 ∧ DM TP w H2 rd qs (fun _ => .int 0) ∧ DM TP w H2 ab qs av ∧ Abv H qs av E H2 ∧ ∃ (ks : List (Pr × Nat)) (lv : Pr × Nat → V), DM TPn w H2 lf ks lv ∧ ks.length ≤ n ∧
    (∀ x ∈ ks, ∃ r, (rows x.1)[x.2]? = some r ∧ lv x = .int (r.length : Nat)) ∧ ∀ x, Done x → x ∈ ks
  have Bgrow : ∀ {E n D H2 H3}, B E n D H2 → Same H2 H3 → B E n D H3 := fun {E n D H2 H3} b s => by
    obtain ⟨b1, b2, b3, b4, ks, lv, b5, b6⟩ := b
    have on : ∀ {κ : Type} {T : KeyTy κ} {a : Addr} {qs : List κ} {f : κ → V}, DM T w H2 a qs f → DM T w H3 a qs f := fun d => by
      obtain ⟨o, ho⟩ := DM.at d
      exact d.mono (by rw [s _ _ ho, ho]) (Tups.same s)
    exact ⟨b1.trans s, on b2, on b3, b4.mut (Mut.same s), ks, lv, on b5, b6⟩
  refine ⟨_, rfl, ld, oL, mapD TP qs g, rfl, ndLs s4, ?_⟩
  refine for_it walk_itemsN (Pv := fun i σ H2 => ∃ (o4 o5 o6 o7 o8 : Option V), σ = [some (.ref ld), some (.ref rd), some (.ref ab), some (.ref lf), o4, o5, o6, o7, o8, none, none, none, none] ∧ (entA rows (qs.take i)).length ≤ i * 320 ∧ B (entA rows (qs.take i)) (i * 8) (fun x => x.1 ∈ qs.take i ∧ x.2 < (rows x.1).length) H2)
    ⟨_, _, _, _, _, rfl, Nat.zero_le _, s4, d1, d2, by rw [List.take_zero]; exact A1, [], _, d3, Nat.zero_le _, fun x h => absurd h List.not_mem_nil, fun x h => by rw [List.take_zero] at h; exact absurd h.1 List.not_mem_nil⟩ ?_ ?_ ?_
  · rintro i σ H2 _ ⟨o4, o5, o6, o7, o8, rfl, _, b1, _⟩
    exact ndLs b1
  · rintro i x σ H2 _ hi ⟨o4, o5, o6, o7, o8, rfl, hE, b⟩ ⟨T0, kk, v, q, hkv, rfl, hkey, hT0, rfl⟩
    rw [kl] at hi
    obtain ⟨p, hp, rfl, rfl⟩ := mapD_at hkv
    have hpm := List.mem_of_getElem? hp
    have s5 := Same.new1 (o := .tup [V.ref q, g p]) hT0
    have hpa := (key_pair hkey).mono (Tups.same s5)
    have b := Bgrow b s5
    obtain ⟨ga, gv, ega, _, hga, hgP⟩ := hg p hpm
    have hgl := paired_len hgP
    have hsp := hsz p hpm
    have hT0' : (upd H2 T0 (.tup [.ref q, g p])) T0 = some (.tup [.ref q, g p]) := upd_same
    generalize (upd H2 T0 (.tup [.ref q, g p])) = H2' at hpa b hT0' s5
    refine ⟨T0, _, rfl, SqT.of hT0', rfl, _, _, rfl, _, _, rfl, rfl, ?_⟩
    rw [ega]
    refine ⟨_, rfl, ga, gv, rfl, SqL.of (b.1 _ _ hga), ?_⟩
    refine for_it (walk_enum (xs := gv)) (Pv := fun j σ H3 => ∃ (o6 o7 o8 : Option V), σ = [some (.ref ld), some (.ref rd), some (.ref ab), some (.ref lf), some (.ref q), some (.ref ga), o6, o7, o8, none, none, none, none] ∧ Tups H2' H3 ∧ (entA rows (qs.take i) ++ entF p 0 ((rows p).take j)).length ≤ i * 320 + j * 40 ∧
      B (entA rows (qs.take i) ++ entF p 0 ((rows p).take j)) (i * 8 + j) (fun x => (x.1 ∈ qs.take i ∧ x.2 < (rows x.1).length) ∨ (x.1 = p ∧ x.2 < j)) H3)
      ⟨_, _, _, rfl, Tups.refl _, by rw [List.take_zero]; simpa [entF] using hE, ?_⟩ ?_ ?_ ?_
    · rw [List.take_zero]
      obtain ⟨b1, b2, b3, b4, ks, lv, b5, b6, b7, b8⟩ := b
      refine ⟨b1, b2, b3, by simpa [entF] using b4, ks, lv, b5, b6, b7, fun x hx => ?_⟩
      rcases hx with hx | ⟨_, hx⟩
      · exact b8 x hx
      · exact absurd hx (Nat.not_lt_zero _)
    · rintro j σ H3 _ ⟨o6, o7, o8, rfl, _, _, b1, _⟩
      exact SqL.of (b1 _ _ hga)
    · rintro j x σ H3 _ hj ⟨o6, o7, o8, rfl, t3, hE3, b⟩ ⟨T1, xi, xr, rfl, hT1, rfl, hxi, hxr⟩
      obtain rfl := Option.some.inj hxi
      have hrj : (rows p)[j]? = some ((rows p)[j]'(by omega)) := List.getElem?_eq_getElem _
      generalize ((rows p)[j]'_) = r at hrj
      have hrm := List.mem_of_getElem? hrj
      obtain ⟨xr', hxr', hrP0, _⟩ := paired_getR hgP hrj
      have hxr : gv[j]? = some xr := hxr
      rw [hxr] at hxr'
      obtain rfl := Option.some.inj hxr'
      obtain ⟨ra, rv, rfl, hra, hrP⟩ := hrP0
      have hrl := paired_len hrP
      have hr40 := hsp.2 r hrm
      have s6 := Same.new1 (o := .tup [V.int (j : Nat), V.ref ra]) hT1
      have b := Bgrow b s6
      have t6 := t3.trans (Tups.same s6)
      have hT1' : (upd H3 T1 (.tup [.int (j : Nat), .ref ra])) T1 = some (.tup [.int (j : Nat), .ref ra]) := upd_same
      generalize (upd H3 T1 (.tup [.int (j : Nat), .ref ra])) = H4 at b t6 hT1' s6
      refine ⟨T1, _, rfl, SqT.of hT1', rfl, _, _, rfl, _, _, rfl, rfl, ?_⟩
      obtain ⟨b1, b2, b3, b4, ks, lv, b5, b6, b7, b8⟩ := b
      refine ⟨_, rfl, ra, _, rfl, .inl (SqL.of (b1 _ _ hra)), _, rfl, _, rfl, _, rfl, szk 2 rfl, fun t2 ht2 => ?_⟩
      have s7 := Same.new1 (o := .tup [V.ref q, V.int (j : Nat)]) ht2
      have hpl : PlaceAt (upd H4 t2 (.tup [.ref q, .int (j : Nat)])) (.ref t2) (p, j) := ⟨t2, .ref q, rfl, upd_same, (hpa.mono t6).mono (Tups.same s7)⟩
      have on7 : ∀ {κ : Type} {T : KeyTy κ} {a : Addr} {qs : List κ} {f : κ → V}, DM T w H4 a qs f → DM T w (upd H4 t2 (.tup [.ref q, .int (j : Nat)])) a qs f := fun d => by
        obtain ⟨o, ho⟩ := DM.at d
        exact d.mono (by rw [s7 _ _ ho, ho]) (Tups.same s7)
      refine ⟨lf, _, _, rfl, on7 b5, hpl.is, szLt (by rw [mapD_len]; omega), fun o' nd' => ?_⟩
      have m7 : Mut [] (upd H4 t2 (.tup [.ref q, .int (j : Nat)])) (upd (upd H4 t2 (.tup [.ref q, .int (j : Nat)])) lf (dob lf o')) := Mut.dict (on7 b5)
      have B7 : B (entA rows (qs.take i) ++ entF p 0 ((rows p).take j) ++ entR p j (r.take 0)) (i * 8 + j + 1) (fun x => (x.1 ∈ qs.take i ∧ x.2 < (rows x.1).length) ∨ (x.1 = p ∧ x.2 < j + 1)) (upd (upd H4 t2 (.tup [.ref q, .int (j : Nat)])) lf (dob lf o')) := by
        refine ⟨Same.mut (b1.trans s7) hlf0, (on7 b2).mono (upd_ne e_rl) m7.tup, (on7 b3).mono (upd_ne e_al) m7.tup, ?_, ?_⟩
        · rw [List.take_zero, show entR p j ([] : List Pr) = [] from rfl, List.append_nil]
          exact (b4.mut (Mut.same s7)).mut m7
        · have val : ∀ (ks' : List (Pr × Nat)), (∀ x ∈ ks', x ∈ ks ∨ x = (p, j)) → ∀ x ∈ ks', ∃ r, (rows x.1)[x.2]? = some r ∧ fset lv (p, j) (.int (rv.length : Nat)) x = .int (r.length : Nat) := fun ks' hks x hx => by
            by_cases e : x = (p, j)
            · subst e
              exact ⟨r, hrj, by rw [fset_same, hrl]⟩
            · rw [fset_ne e]
              exact b7 x ((hks x hx).resolve_right e)
          by_cases hin : (p, j) ∈ ks
          · refine ⟨ks, fset lv (p, j) (.int (rv.length : Nat)), by rw [mapD_put_old hin] at nd'; exact nd', by omega, val ks fun x h => .inl h, fun x hx => ?_⟩
            rcases hx with hx | ⟨h1, h2⟩
            · exact b8 x (.inl hx)
            · by_cases e : x.2 = j
              · have : x = (p, j) := Prod.ext h1 e
                rw [this]
                exact hin
              · exact b8 x (.inr ⟨h1, by omega⟩)
          · refine ⟨ks ++ [(p, j)], fset lv (p, j) (.int (rv.length : Nat)), by rw [mapD_put_new hin] at nd'; exact nd', by rw [List.length_append, List.length_singleton]; omega, val _ fun x h => by simpa using h, fun x hx => ?_⟩
            rw [List.mem_append, List.mem_singleton]
            rcases hx with hx | ⟨h1, h2⟩
            · exact .inl (b8 x (.inl hx))
            · by_cases e : x.2 = j
              · exact .inr (Prod.ext h1 e)
              · exact .inl (b8 x (.inr ⟨h1, by omega⟩))
      have t7 := t6.trans ((Tups.same s7).trans m7.tup)
      have hra7 := B7.1 _ _ hra
      generalize (upd (upd H4 t2 (.tup [.ref q, .int (j : Nat)])) lf (dob lf o')) = H5 at B7 t7 hra7
      refine ⟨_, rfl, ra, rfl, ⟨_, SqL.of hra7⟩, ?_⟩
      refine for_list (xs := rv) (Pv := fun l σ H6 => ∃ (o8 : Option V), σ = [some (.ref ld), some (.ref rd), some (.ref ab), some (.ref lf), some (.ref q), some (.ref ga), some (.int (j : Nat)), some (.ref ra), o8, none, none, none, none] ∧ Tups H2' H6 ∧
        B (entA rows (qs.take i) ++ entF p 0 ((rows p).take j) ++ entR p j (r.take l)) (i * 8 + j + 1) (fun x => (x.1 ∈ qs.take i ∧ x.2 < (rows x.1).length) ∨ (x.1 = p ∧ x.2 < j + 1)) H6) ⟨_, rfl, t7, B7⟩ ?_ ?_ ?_
      · rintro l σ H6 _ ⟨o8, rfl, _, b1, _⟩
        exact SqL.of (b1 _ _ hra)
      · rintro l x σ H6 hx ⟨o8, rfl, t6', c1, c2, c3', c4, ks', lv', c5, c6, c7, c8⟩
        have hl := (List.getElem?_eq_some_iff.mp hx).1
        have hxl : r[l]? = some (r[l]'(by omega)) := List.getElem?_eq_getElem _
        generalize (r[l]'_) = xp at hxl
        obtain ⟨x', hx', hxp0⟩ := paired_getR hrP hxl
        rw [hx] at hx'
        obtain rfl := Option.some.inj hx'
        have hxp := hxp0.mono (Tups.same c1)
        have hxq : xp ∈ qs := L.cl p hpm r hrm xp (List.mem_of_getElem? hxl)
        obtain ⟨aa, avs, eaa, haa, haP, haH⟩ := c4.at_ xp hxq
        obtain ⟨xa, rfl, hxa⟩ := id hxp
        refine ⟨_, rfl, _, rfl, ab, _, _, av xp, rfl, c3', hxp.isP, by rw [mapD_get, if_pos hxq], ?_⟩
        rw [eaa]
        refine ⟨tyL haa, _, rfl, _, rfl, szk 2 rfl, fun t8 ht8 => ?_⟩
        have s8 := Same.new1 (o := .tup [V.ref q, V.int (j : Nat)]) ht8
        have haa8 := s8 _ _ haa
        have hal := paired_len haP
        have hal2 := CM.alf_len (entA rows (qs.take i) ++ entF p 0 ((rows p).take j) ++ entR p j (r.take l)) xp
        have hEl : (entA rows (qs.take i) ++ entF p 0 ((rows p).take j) ++ entR p j (r.take l)).length ≤ i * 320 + j * 40 + 40 := by
          rw [List.length_append, CM.entR_len, List.length_take]
          omega
        refine ⟨aa, _, _, rfl, rfl, haa8, szB (by omega), ?_⟩
        have nt := not_tup haa8
        have tt : Tups (upd H6 t8 (.tup [.ref q, .int (j : Nat)])) (upd (upd H6 t8 (.tup [.ref q, .int (j : Nat)])) aa (.lst (avs ++ [.ref t8]))) := Tups.upd nt
        have t68 := (Tups.same s8).trans tt
        have on8 : ∀ {κ : Type} {T : KeyTy κ} {a : Addr} {qs : List κ} {f : κ → V}, DM T w H6 a qs f → DM T w (upd (upd H6 t8 (.tup [.ref q, .int (j : Nat)])) aa (.lst (avs ++ [.ref t8]))) a qs f := fun d => by
          obtain ⟨o, ho⟩ := DM.at d
          exact d.mono (by rw [upd_ne (by rintro rfl; rw [haa] at ho; cases ho), s8 _ _ ho, ho]) t68
        have hE' : entA rows (qs.take i) ++ entF p 0 ((rows p).take j) ++ entR p j (r.take (l + 1)) = (entA rows (qs.take i) ++ entF p 0 ((rows p).take j) ++ entR p j (r.take l)) ++ [(xp, (p, j))] := by
          rw [take_snoc hxl]
          simp [entR]
        refine ⟨_, rfl, t6'.trans t68, Same.mut (c1.trans s8) haH, on8 c2, on8 c3', ⟨fun p' hp' => ?_, c4.inj⟩, ks', lv', on8 c5, c6, c7, c8⟩
        rw [hE', CM.alf_snoc]
        by_cases e : p' = xp
        · subst e
          rw [if_pos rfl]
          exact ⟨aa, _, eaa, upd_same, paired_snoc (Paired.mapP haP fun _ _ y => y.mono t68) ⟨t8, .ref q, rfl, tt _ _ upd_same, (hpa.mono t6').mono t68⟩, haH⟩
        · rw [if_neg e]
          obtain ⟨a', vs', e1, e2, e3, e4⟩ := c4.at_ p' hp'
          have hne : a' ≠ aa := fun e5 => c4.inj p' hp' xp hxq e (by rw [e1, eaa, e5])
          exact ⟨a', vs', e1, by rw [upd_ne hne]; exact s8 _ _ e2, Paired.mapP e3 fun _ _ y => y.mono t68, e4⟩
      · rintro σ H6 ⟨o8, rfl, t6', b⟩
        rw [hrl, List.take_length] at b
        have hE' : entA rows (qs.take i) ++ entF p 0 ((rows p).take (j + 1)) = entA rows (qs.take i) ++ entF p 0 ((rows p).take j) ++ entR p j r := by
          rw [take_snoc hrj, CM.entF_snoc, List.length_take, Nat.min_eq_left (by omega), Nat.zero_add, List.append_assoc]
        refine ⟨_, _, _, rfl, t6', ?_, ?_⟩
        · rw [hE', List.length_append, CM.entR_len]
          omega
        · rw [hE']
          exact b
    · rintro σ H3 ⟨o6, o7, o8, rfl, t3, hE3, b⟩
      have hfull : entA rows (qs.take i) ++ entF p 0 ((rows p).take gv.length) = entA rows (qs.take (i + 1)) := by
        rw [hgl, List.take_length, take_snoc hp, CM.entA_snoc]
        rfl
      rw [hfull] at b hE3
      obtain ⟨b1, b2, b3, b4, ks, lv, b5, b6, b7, b8⟩ := b
      refine ⟨_, _, _, _, _, rfl, by omega, b1, b2, b3, b4, ks, lv, b5, by omega, b7, fun x hx => b8 x ?_⟩
      rw [take_snoc hp, List.mem_append, List.mem_singleton] at hx
      rcases hx with ⟨h1 | h1, h2⟩
      · exact .inl ⟨h1, h2⟩
      · exact .inr ⟨h1, by rw [hgl, ← h1]; exact h2⟩
  rintro σ H2 ⟨o4', o5, o6, o7, o8, rfl, hE, b1, b2, b3, b4, ks, lv, b5, b6, b7, b8⟩
  rw [kl, List.take_length] at b4 b8 hE
  rw [kl] at b6
  -- those that fail at once
  refine ⟨_, rfl, ld, oL, mapD TP qs g, rfl, ndLs b1, fun fd hfd => ?_⟩
  refine lc_it walk_itemsN (Pv := fun i H3 => ∃ fv, Same H2 H3 ∧ H3 fd = some (.lst fv) ∧ Paired (PairAt H3) fv (fail0 (qs.take i) rows)) ⟨[], Same.new1 hfd, upd_same, by rw [List.take_zero]; exact .nil⟩ ?_ ?_ ?_
  · rintro i H3 _ ⟨fv, s5, _⟩
    exact ndLs (b1.trans s5)
  · rintro i x H3 _ hi ⟨fv, s5, hf3, hfP⟩ ⟨T0, kk, v, q, hkv, rfl, hkey, hT0, rfl⟩
    rw [kl] at hi
    obtain ⟨p, hp, rfl, rfl⟩ := mapD_at hkv
    have hpm := List.mem_of_getElem? hp
    have s6 := Same.new1 (o := .tup [V.ref q, g p]) hT0
    have hpa := (key_pair hkey).mono (Tups.same s6)
    refine ⟨T0, _, rfl, SqT.of upd_same, rfl, _, _, rfl, _, _, rfl, rfl, rfl, ?_⟩
    refine ⟨Nat.zero_le _, fun e he => ⟨_, rfl, ?_⟩⟩
    have s7 := Same.new1 (o := .lst []) he
    have s67 := s6.trans s7
    refine ⟨.list [], _, .lst (SqL.of upd_same) .nil, rows_dp ((hg p hpm).mut (Mut.same (b1.trans (s5.trans s67)))), (ly_ints []).shaped (by decide), rows_shaped _, _, rfl, ?_⟩
    rw [any_empty]
    have hfl : fv.length ≤ 999 := by
      have h1 := paired_len hfP
      have h2 := fail0_le (qs.take i) rows
      rw [List.length_take] at h2
      omega
    have hfP7 := Paired.mapP hfP fun _ _ y => y.mono (Tups.same s67)
    by_cases hem : [] ∈ rows p
    · rw [decide_eq_true hem]
      have hf7 := s67 _ _ hf3
      have tt : Tups (upd (upd H3 T0 (.tup [.ref q, g p])) e (.lst [])) (upd (upd (upd H3 T0 (.tup [.ref q, g p])) e (.lst [])) fd (.lst (fv ++ [.ref q]))) := Tups.upd (not_tup hf7)
      refine iteT ⟨_, rfl, fv, hf7, szLt (by omega), fv ++ [.ref q], Same.mut (s5.trans s67) hfd, upd_same, ?_⟩
      rw [take_snoc hp, fail0_pos hem]
      exact paired_snoc (Paired.mapP hfP7 fun _ _ y => y.mono tt) ((hpa.mono (Tups.same s7)).mono tt)
    · rw [decide_eq_false hem]
      refine iteF ⟨fv, s5.trans s67, s67 _ _ hf3, ?_⟩
      rw [take_snoc hp, fail0_neg hem]
      exact hfP7
  rintro H3 ⟨fv, s5, hf3, hfP⟩
  rw [kl, List.take_length] at hfP
  have hfP : Paired (PairAt H3) fv (fail0 qs rows) := hfP
  -- round by round
  let lf0 : Pr × Nat → Int := fun x => match lv x with | .int n => n | _ => 0
  let Core := fun (ρ : Pr → Int) (lfv : Pr × Nat → Int) (H4 : Hp) => Same H H4 ∧ DM TP w H4 rd qs (fun p => .int (ρ p)) ∧ DM TP w H4 ab qs av ∧ Abv H qs av (entA rows qs) H4 ∧ DM TPn w H4 lf ks (fun x => .int (lfv x))
  have grow : ∀ {ρ lfv H4 H5}, Core ρ lfv H4 → Same H4 H5 → Core ρ lfv H5 := fun {ρ lfv H4 H5} ⟨c1, c2, c3, c4, c5⟩ s => by
    have on : ∀ {κ : Type} {T : KeyTy κ} {a : Addr} {qs : List κ} {f : κ → V}, DM T w H4 a qs f → DM T w H5 a qs f := fun d => by
      obtain ⟨o, ho⟩ := DM.at d
      exact d.mono (by rw [s _ _ ho, ho]) (Tups.same s)
    exact ⟨c1.trans s, on c2, on c3, c4.mut (Mut.same s), on c5⟩
  have core0 : Core (fun _ => 0) lf0 H3 := by
    have on : ∀ {κ : Type} {T : KeyTy κ} {a : Addr} {qs : List κ} {f : κ → V}, DM T w H2 a qs f → DM T w H3 a qs f := fun d => by
      obtain ⟨o, ho⟩ := DM.at d
      exact d.mono (by rw [s5 _ _ ho, ho]) (Tups.same s5)
    refine ⟨b1.trans s5, on b2, on b3, b4.mut (Mut.same s5), DM.congr (on b5) fun x hx => ?_⟩
    obtain ⟨r, _, h2⟩ := b7 x hx
    show lv x = .int (lf0 x)
    simp only [lf0, h2]
  have lft0 : Lft qs rows (fun _ => 0) lf0 := Lft.start qs rows fun p hp i r hr => by
    have hx := b8 (p, i) ⟨hp, (List.getElem?_eq_some_iff.mp hr).1⟩
    obtain ⟨r', h1, h2⟩ := b7 _ hx
    rw [hr] at h1
    obtain rfl := Option.some.inj h1
    simp only [lf0, h2]
  refine ⟨fun m σ H4 => ∃ (ρ : Pr → Int) (n : Int) (fl : List Pr) (lfv : Pr × Nat → Int) (fd : Addr) (fv : List V) (o4 o5 o6 o7 o8 o11 o12 : Option V), m = zer qs ρ ∧ σ = [some (.ref ld), some (.ref rd), some (.ref ab), some (.ref lf), o4, o5, o6, o7, o8, some (.ref fd), some (.int n), o11, o12] ∧
    Core ρ lfv H4 ∧ H4 fd = some (.lst fv) ∧ Paired (PairAt H4) fv fl ∧ Rnd qs rows ρ n fl ∧ Lft qs rows ρ lfv, ⟨_, _, 1, _, _, fd, fv, _, _, _, _, _, _, _, rfl, rfl, core0, hf3, hfP, Rnd.start L, lft0⟩, ?_⟩
  rintro m σ H4 ⟨ρ, n, fl, lfv, fd, fv, o4, o5, o6, o7, o8, o11, o12, rfl, rfl, core, hf4, hfP4, R, Lf⟩
  have hfl := paired_len hfP4
  refine ⟨_, rfl, fd, _, rfl, .inl (SqL.of hf4), _, _, rfl, rfl, _, rfl, ite2 (fun hlt => ?_) (fun hge => ?_)⟩
  · have hlt : (0 : Int) < ((fv.length : Nat) : Int) := of_decide_eq_true hlt
    have hne : fl ≠ [] := by
      rintro rfl
      rw [hfl] at hlt
      exact absurd hlt (by decide)
    refine ⟨_, fun _ _ h => h, ?_⟩
    refine ⟨_, rfl, fd, rfl, ⟨_, SqL.of hf4⟩, ?_⟩
    refine for_list (xs := fv) (Pv := fun i σ H5 => ∃ (o4 : Option V), σ = [some (.ref ld), some (.ref rd), some (.ref ab), some (.ref lf), o4, o5, o6, o7, o8, some (.ref fd), some (.int n), o11, o12] ∧ Mut [] H4 H5 ∧ Core (told ρ n (fl.take i)) lfv H5)
      ⟨_, rfl, Mut.refl _ _, by rw [List.take_zero, told_nil]; exact core⟩ ?_ ?_ ?_
    · rintro i σ H5 _ ⟨o4, rfl, mm, _⟩
      exact SqL.of (mm.lst _ _ List.not_mem_nil hf4)
    · rintro i x σ H5 hx ⟨o4, rfl, mm, c1, c2, c3', c4, c5⟩
      have hi := (List.getElem?_eq_some_iff.mp hx).1
      have hp : fl[i]? = some (fl[i]'(by omega)) := List.getElem?_eq_getElem _
      generalize (fl[i]'_) = p at hp
      obtain ⟨x', hx', hpa0⟩ := paired_getR hfP4 hp
      rw [hx] at hx'
      obtain rfl := Option.some.inj hx'
      have hpq := R.fq p (List.mem_of_getElem? hp)
      refine ⟨_, rfl, _, rfl, _, rfl, rd, _, _, rfl, c2, (hpa0.mono mm.tup).isP, szLt (by rw [mapD_len]; omega), fun o' nd' => ?_⟩
      have m1 : Mut [] H5 (upd H5 rd (dob rd o')) := Mut.dict c2
      refine ⟨_, rfl, mm.trans m1, Same.mut c1 hrd0, ?_, c3'.mono (upd_ne (Ne.symm e_ra)) m1.tup, c4.mut m1, c5.mono (upd_ne (Ne.symm e_rl)) m1.tup⟩
      rw [mapD_put_old hpq] at nd'
      refine DM.congr (T := TP) nd' fun y _ => ?_
      show fset _ p (.int n) y = .int (told ρ n (fl.take (i + 1)) y)
      rw [take_snoc hp, told_snoc]
      unfold fset
      split <;> rfl
    rintro σ H5 ⟨o4, rfl, mm, core5⟩
    rw [hfl, List.take_length] at core5
    have hf5 := mm.lst _ _ List.not_mem_nil hf4
    have hfP5 := Paired.mapP hfP4 fun _ _ y => y.mono mm.tup
    intro la ola hla ndla
    have s6 := Same.new1 (o := dob la ola) hla
    have hla0 : H la = none := fresh_back core5.1 hla
    have core6 := grow core5 s6
    have e_l1 : la ≠ rd := by obtain ⟨o, ho⟩ := DM.at core5.2.1; rintro rfl; rw [hla] at ho; cases ho
    have e_l2 : la ≠ ab := by obtain ⟨o, ho⟩ := DM.at core5.2.2.1; rintro rfl; rw [hla] at ho; cases ho
    have e_l3 : la ≠ lf := by obtain ⟨o, ho⟩ := DM.at core5.2.2.2.2; rintro rfl; rw [hla] at ho; cases ho
    have dmla : DM TP w (upd H5 la (dob la ola)) la [] fun _ => V.bl true := ⟨ola, ndla⟩
    have hf6 := s6 _ _ hf5
    have hfP6 := Paired.mapP hfP5 fun _ _ y => y.mono (Tups.same s6)
    generalize (upd H5 la (dob la ola)) = H6 at core6 dmla hf6 hfP6
    refine ⟨_, rfl, fd, rfl, ⟨_, SqL.of hf6⟩, ?_⟩
    let D2 := fun (Lx : List (Pr × Nat)) (H7 : Hp) => Mut [] H6 H7 ∧ ∃ (lfv' : Pr × Nat → Int) (lts : List Pr), Core (told ρ n fl) lfv' H7 ∧ DM TP w H7 la lts (fun _ => .bl true) ∧ Dwn qs rows (told ρ n fl) lfv Lx lfv' lts
    refine for_list (xs := fv) (Pv := fun i σ H7 => ∃ (o4 o12 : Option V), σ = [some (.ref ld), some (.ref rd), some (.ref ab), some (.ref lf), o4, o5, o6, o7, o8, some (.ref fd), some (.int n), some (.ref la), o12] ∧ D2 ((fl.take i).flatMap (alf (entA rows qs))) H7)
      ⟨_, _, rfl, Mut.refl _ _, lfv, [], core6, dmla, by rw [List.take_zero]; exact Dwn.start _ _ _ _⟩ ?_ ?_ ?_
    · rintro i σ H7 _ ⟨o4, o12, rfl, m7, _⟩
      exact SqL.of (m7.lst _ _ List.not_mem_nil hf6)
    · rintro i x σ H7 hx ⟨o4, o12, rfl, m7, lfv', lts, core7, dm7, dw⟩
      have hi := (List.getElem?_eq_some_iff.mp hx).1
      have hp : fl[i]? = some (fl[i]'(by omega)) := List.getElem?_eq_getElem _
      generalize (fl[i]'_) = p at hp
      obtain ⟨x', hx', hpa0⟩ := paired_getR hfP6 hp
      rw [hx] at hx'
      obtain rfl := Option.some.inj hx'
      have hpq := R.fq p (List.mem_of_getElem? hp)
      obtain ⟨aa, avs, eaa, haa, haP, _⟩ := core7.2.2.2.1.at_ p hpq
      refine ⟨_, rfl, _, rfl, ab, _, _, av p, rfl, core7.2.2.1, (hpa0.mono m7.tup).isP, by rw [mapD_get, if_pos hpq], aa, eaa, ⟨_, SqL.of haa⟩, ?_⟩
      refine for_list (xs := avs) (Pv := fun j σ H8 => ∃ (o12 : Option V), σ = [some (.ref ld), some (.ref rd), some (.ref ab), some (.ref lf), some x, o5, o6, o7, o8, some (.ref fd), some (.int n), some (.ref la), o12] ∧ Mut [] H7 H8 ∧ D2 ((fl.take i).flatMap (alf (entA rows qs)) ++ (alf (entA rows qs) p).take j) H8)
        ⟨_, rfl, Mut.refl _ _, m7, lfv', lts, core7, dm7, by rw [List.take_zero, List.append_nil]; exact dw⟩ ?_ ?_ ?_
      · rintro j σ H8 _ ⟨o12, rfl, m8, _⟩
        exact SqL.of (m8.lst _ _ List.not_mem_nil haa)
      · rintro j v σ H8 hv ⟨o12, rfl, m8, m68, lfv', lts, ⟨c1, c2, c3', c4, c5⟩, dm8, dw⟩
        have hj := (List.getElem?_eq_some_iff.mp hv).1
        have hal := paired_len haP
        have hpl : (alf (entA rows qs) p)[j]? = some ((alf (entA rows qs) p)[j]'(by omega)) := List.getElem?_eq_getElem _
        generalize ((alf (entA rows qs) p)[j]'_) = xp at hpl
        obtain ⟨v', hv', hpl0⟩ := paired_getR haP hpl
        rw [hv] at hv'
        obtain rfl := Option.some.inj hv'
        obtain ⟨hxq, r, hxr, _⟩ := CM.alf_mem (List.mem_of_getElem? hpl)
        have hxk : xp ∈ ks := b8 xp ⟨hxq, (List.getElem?_eq_some_iff.mp hxr).1⟩
        have hpl8 := hpl0.mono m8.tup
        refine ⟨_, rfl, _, rfl, lf, _, _, _, rfl, c5, hpl8.is, by rw [mapD_get, if_pos hxk], _, _, rfl, rfl, lf, _, _, rfl, c5, hpl8.is, szLt (by rw [mapD_len]; omega), fun o' nd' => ?_⟩
        have m9 : Mut [] H8 (upd H8 lf (dob lf o')) := Mut.dict c5
        have c5' : DM TPn w (upd H8 lf (dob lf o')) lf ks (fun x => .int (fput lfv' xp (lfv' xp - 1) x)) := by
          rw [mapD_put_old hxk] at nd'
          refine DM.congr (T := TPn) nd' fun y _ => ?_
          unfold fset fput
          split <;> rfl
        have c2' : DM TP w (upd H8 lf (dob lf o')) rd qs (fun p => .int (told ρ n fl p)) := c2.mono (upd_ne e_rl) m9.tup
        have core9 : Core (told ρ n fl) (fput lfv' xp (lfv' xp - 1)) (upd H8 lf (dob lf o')) := ⟨Same.mut c1 hlf0, c2', c3'.mono (upd_ne e_al) m9.tup, c4.mut m9, c5'⟩
        have dm9 : DM TP w (upd H8 lf (dob lf o')) la lts (fun _ => .bl true) := dm8.mono (upd_ne e_l3) m9.tup
        have dw9 := dw.step xp
        have hpl9 := hpl8.mono m9.tup
        have m89 := m8.trans m9
        have m69 := m68.trans m9
        have hL : (fl.take i).flatMap (alf (entA rows qs)) ++ (alf (entA rows qs) p).take (j + 1) = (fl.take i).flatMap (alf (entA rows qs)) ++ (alf (entA rows qs) p).take j ++ [xp] := by rw [take_snoc hpl, List.append_assoc]
        generalize (upd H8 lf (dob lf o')) = H9 at core9 dm9 hpl9 m89 m69 c5' c2'
        have skip : ∃ (o12 : Option V), [some (.ref ld), some (.ref rd), some (.ref ab), some (.ref lf), some x, o5, o6, o7, o8, some (.ref fd), some (.int n), some (.ref la), some v] = [some (.ref ld), some (.ref rd), some (.ref ab), some (.ref lf), some x, o5, o6, o7, o8, some (.ref fd), some (.int n), some (.ref la), o12] ∧ Mut [] H7 H9 ∧
            D2 ((fl.take i).flatMap (alf (entA rows qs)) ++ (alf (entA rows qs) p).take (j + 1)) H9 := ⟨_, rfl, m89, m69, _, lts, core9, dm9, by rw [hL]; exact dw9⟩
        refine ⟨_, rfl, _, rfl, lf, _, _, _, rfl, c5', hpl9.is, by rw [mapD_get, if_pos hxk], rfl, _, rfl, ite2 (fun h0 => ?_) (fun _ => iteF skip)⟩
        have h0 : fput lfv' xp (lfv' xp - 1) xp = 0 := V.int.inj (of_decide_eq_true h0)
        obtain ⟨ta, tu, rfl, hta, htu⟩ := id hpl9
        refine ⟨_, rfl, _, rfl, ta, _, 0, _, rfl, rfl, SqT.of hta, rfl, rd, _, _, _, rfl, c2', htu.isP, by rw [mapD_get, if_pos hxq], rfl, _, rfl, ite2 (fun h1 => ?_) (fun _ => skip)⟩
        have h1 : told ρ n fl xp.1 = 0 := V.int.inj (of_decide_eq_true h1)
        have hlts : lts.length ≤ 999 := by
          have := CM.nodup_sub dw.nd fun y hy => (dw.mem y hy).1
          omega
        refine ⟨_, rfl, _, rfl, ta, _, 0, _, rfl, rfl, SqT.of hta, rfl, la, _, _, rfl, dm9, htu.isP, szLt (by rw [mapD_len]; omega), fun o'' nd'' => ?_⟩
        have m10 : Mut [] H9 (upd H9 la (dob la o'')) := Mut.dict dm9
        obtain ⟨x1, x2, x3, x4, x5⟩ := core9
        have core10 : Core (told ρ n fl) (fput lfv' xp (lfv' xp - 1)) (upd H9 la (dob la o'')) := ⟨Same.mut x1 hla0, x2.mono (upd_ne (Ne.symm e_l1)) m10.tup, x3.mono (upd_ne (Ne.symm e_l2)) m10.tup, x4.mut m10, x5.mono (upd_ne (Ne.symm e_l3)) m10.tup⟩
        refine ⟨_, rfl, m89.trans m10, m69.trans m10, _, (if xp.1 ∈ lts then lts else lts ++ [xp.1]), core10, ?_, ?_⟩
        · by_cases hin : xp.1 ∈ lts
          · rw [if_pos hin]
            rw [mapD_put_old hin] at nd''
            refine DM.congr (T := TP) nd'' fun y _ => ?_
            unfold fset
            split <;> rfl
          · rw [if_neg hin]
            rw [mapD_put_new hin] at nd''
            refine DM.congr (T := TP) nd'' fun y _ => ?_
            unfold fset
            split <;> rfl
        · rw [hL]
          by_cases hin : xp.1 ∈ lts
          · rw [if_pos hin]
            exact dw9
          · rw [if_neg hin]
            exact dw9.put (p := xp.1) (i := xp.2) hxq hxr h1 h0 hin
      · rintro σ H8 ⟨o12, rfl, m8, m68, lfv', lts, core8, dm8, dw⟩
        have hal := paired_len haP
        rw [hal, List.take_length] at dw
        refine ⟨_, _, rfl, m68, lfv', lts, core8, dm8, ?_⟩
        rw [take_snoc hp, List.flatMap_append, List.flatMap_singleton]
        exact dw
    rintro σ H7 ⟨o4', o12', rfl, m7, lfv', lts, core7, dm7, dw⟩
    rw [hfl, List.take_length] at dw
    obtain ⟨R', Lf'⟩ := Rnd.next L R Lf hne dw
    refine ⟨_, rfl, la, _, rfl, dm7, fun nl bs hnl hbs => ?_⟩
    have s8 := Same.new1 (o := .lst (bs.map V.ref)) hnl
    refine ⟨_, rfl, _, _, rfl, rfl, ?_⟩
    refine ⟨zer qs (told ρ n fl), CM.zer_lt R hne, told ρ n fl, n + 1, lts, lfv', nl, _, _, _, _, _, _, _, _, rfl, rfl, grow core7 s8, upd_same, ?_, R', Lf'⟩
    have hbs' : Paired (PairAt H7) (bs.map V.ref) lts := by
      clear dw dm7 R' Lf'
      unfold mapD at hbs
      revert hbs
      clear hnl s8
      induction lts generalizing bs with
      | nil => intro h; cases h; exact .nil
      | cons p lts ih =>
        intro h
        cases h with
        | cons h1 h2 => exact .cons (key_pair h1) (ih _ h2)
    exact Paired.mapP hbs' fun _ _ y => y.mono (Tups.same s8)
  · have hge : ¬ (0 : Int) < ((fv.length : Nat) : Int) := of_decide_eq_false (by simpa using hge)
    exact ⟨_, rfl, k rd ρ H4 hrd0 core.1 core.2.1 ⟨fun p hp => ⟨(R.nn p hp).1, R.le hp⟩, R.fall⟩⟩
end
end Ct
/-! sets_of. -/
namespace Ct
open PySem PySem.Spec PyProof.Rows L2 Nd
open CM (InR Wf Qt Rep row reps)
abbrev Way := Int × List Int
def WayAt (H : Hp) (v : V) (x : Way) : Prop := ∃ a u, v = .ref a ∧ H a = some (.tup [.int x.1, u]) ∧ IntsT H u x.2
theorem WayAt.mono {H H' : Hp} {v : V} {x : Way} (h : WayAt H v x) (t : Tups H H') : WayAt H' v x := let ⟨a, u, e, q, p⟩ := h; ⟨a, u, e, t _ _ q, p.mono t⟩
theorem keyAll_nums {H : Hp} : ∀ l : List Int, KeyAll H (l.map V.int) (l.map NestedKey.num)
  | [] => .nil
  | i :: l => .cons (.num i) (keyAll_nums l)
theorem WayAt.is {H : Hp} {v : V} {x : Way} (h : WayAt H v x) : IsK H v (TW.enc x) := by
  obtain ⟨a, u, rfl, e, b, rfl, e2⟩ := h
  exact ⟨a, rfl, .tup e (.cons (.num _) (.cons (.tup e2 (keyAll_nums _)) .nil)), TW.deep x⟩
/-- a bound of the ways -/
structure Clw (LO HI : Rows) (W : List Way) : Prop where
  z : (0, [0]) ∈ W
  cl : ∀ x ∈ W, ∀ m ∈ row LO x.1, (hid m.1 = true → (m.2, x.2) ∈ W) ∧ (hid m.1 = false → uni HI x.2 m.1 ≠ [] → (m.2, uni HI x.2 m.1) ∈ W)
  le : W.length < 20000
  rng : ∀ x ∈ W, InR LO.length x.1 ∧ ∀ i ∈ x.2, InR HI.length i
structure WSt (w : World) (H : Hp) (c wy q : Addr) (LO HI : Rows) (ds : List Deed) (W : List Way) (H1 : Hp) (qs : List Way) (f : Way → V) (qv : List V) : Prop where
  s : Same H H1
  cc : Cch w [q] H1 c HI ds
  dm : DM TW w H1 wy qs f
  hq : H1 q = some (.lst qv)
  qP : Paired (WayAt H1) qv qs
  nd : qs.Nodup
  sub : ∀ p ∈ qs, p ∈ W
section
variable {w : World} {H H1 H2 : Hp} {c wy q : Addr} {LO HI : Rows} {ds : List Deed} {W : List Way} {qs : List Way} {f : Way → V} {qv : List V}
theorem WSt.grow (h : WSt w H c wy q LO HI ds W H1 qs f qv) (s2 : Same H1 H2) : WSt w H c wy q LO HI ds W H2 qs f qv := by
  obtain ⟨o1, e1⟩ := h.cc.dict
  obtain ⟨o2, e2⟩ := DM.at h.dm
  exact ⟨h.s.trans s2, h.cc.mut (by rw [s2 _ _ e1, e1]) (Mut.same s2), h.dm.mono (by rw [s2 _ _ e2, e2]) (Tups.same s2), s2 _ _ h.hq, Paired.mapP h.qP fun _ _ x => x.mono (Tups.same s2), h.nd, h.sub⟩
theorem WSt.but (h : WSt w H c wy q LO HI ds W H1 qs f qv) (hc : H c = none) (hlc : wy ≠ c) (b : But c H1 H2) (cc : Cch w [q] H2 c HI ds) : WSt w H c wy q LO HI ds W H2 qs f qv := by
  have m : Mut [q] H1 H2 := b.mutC h.cc
  obtain ⟨o2, e2⟩ := DM.at h.dm
  have nq : q ≠ c := by
    rintro rfl
    obtain ⟨o1, e1⟩ := h.cc.dict
    rw [h.hq] at e1
    cases e1
  exact ⟨b.same h.s hc, cc, h.dm.mono (by rw [b _ _ hlc e2, e2]) m.tup, b _ _ nq h.hq, Paired.mapP h.qP fun _ _ x => x.mono m.tup, h.nd, h.sub⟩
end
section
variable {P : Program} {w : World} {K : PySem.W.Frag} {mg : Str → Option Value} {base : Heap}
def spSets (w : World) (K : PySem.W.Frag) : Sp := fun vs H Q _ => ∃ (lv hv : V) (LO HI : Rows) (ds : List Deed) (W : List Way), vs = [lv, hv, .int 20000] ∧ WebAt K H lv LO ∧ WebAt K H hv HI ∧ Good ds LO ∧ Good ds HI ∧ LO.length ≤ 40 ∧ HI.length ≤ 40 ∧ MenuOk ds ∧ Clw LO HI W ∧
  ∀ p wv gv H', H p = none → Same H H' → H' p = some (.tup [wv, gv]) → Q (.ref p) H'
theorem sc_sets_of : FnScope (["low", "high", "most", "cache", "ways", "queue", "gap", "k", "at", "here", "deed", "after", "there"] : List Str) ["low", "high", "most"] (defScope s_sets_of) := ⟨rfl, rfl, rfl, by decide +kernel, rfl, by decide +kernel, by decide +kernel⟩
theorem ok_sets (F : TF K "sets_of" s_sets_of) (T : Tx K mg) (D_union_of : DOk P w K mg base 6 "union_of" ["high", "cache", "here", "deed"] (spUnionOf w K)) (D_Web_moves : MOk P w K mg base 3 "Web" "moves" ["self", "at"] (spMoves K)) :
    DOk P w K mg base 7 "sets_of" ["low", "high", "most"] (spSets w K) := by
  refine dok F T.g_sets_of sc_sets_of (fun vs H Q E h => ?_) (fun _ _ _ _ _ _ us hl => match us, hl with | [_, _, _], _ => rfl) (fun cdv A outer s H vs Q E hr h => ?_)
  · obtain ⟨lv, hv, LO, HI, ds, W, rfl, _⟩ := h
    rfl
  obtain ⟨lv, hv, LO, HI, ds, W, rfl, hL, hH, gL, gH, hl40, hh40, mk, cls, k⟩ := h
  have hu9 := hu9_of hr
  have wfH := gH.wf
  obtain ⟨la, ldx, lr, rfl, hla, _⟩ := id hL
  obtain ⟨ha, hdx, hr', rfl, hha, _⟩ := id hH
  refine ⟨_, (pss_cons (ps_set (i := 3) sc_sets_of.nd rfl (Or.inl rfl) pe_nnew)
    (pss_cons (ps_set (i := 4) sc_sets_of.nd rfl (Or.inl rfl) (pe_none hu9 (pe_tup (pa_cons pe_int (pa_cons (pe_tup (pa_cons pe_int pa_nil)) pa_nil))) pe_non))
    (pss_cons (ps_set (i := 5) sc_sets_of.nd rfl (Or.inl rfl) (pe_lst (pa_cons (pe_tup (pa_cons pe_int (pa_cons (pe_tup (pa_cons pe_int pa_nil)) pa_nil))) pa_nil)))
    (pss_cons (ps_set (i := 6) sc_sets_of.nd rfl (Or.inl rfl) pe_non)
    (pss_cons (ps_set (i := 7) sc_sets_of.nd rfl (Or.inl rfl) pe_int)
    (pss_cons (ps_while PassesOwn.never (pt_cmpR op_lt (pv 7) (pe_callB call_len_seq (by rfl) T.f_len (by decide +kernel) (pa_cons (pv 5) pa_nil)) (nomark _)) (pss_cons (ps_asg (pe_ix ix_list (pv 5) (pv 7) (fun _ _ => rfl)) (pg_tup rfl (pgs_cons (pg_name (i := 8) sc_sets_of.nd rfl (Or.inl rfl)) (pgs_cons (pg_name (i := 9) sc_sets_of.nd rfl (Or.inl rfl)) pgs_nil))))
    (pss_cons (ps_for PassesOwn.never rfl (pi_list (pe_m D_Web_moves (hr.mono (by decide)) (pv 0) (pa_cons (pv 8) pa_nil))) (pg_tup rfl (pgs_cons (pg_name (i := 10) sc_sets_of.nd rfl (Or.inl rfl)) (pgs_cons (pg_name (i := 11) sc_sets_of.nd rfl (Or.inl rfl)) pgs_nil))) (pss_cons (ps_set (i := 12) sc_sets_of.nd rfl (Or.inl rfl) (pv 9))
    (C8.pss_cut (ps_if (pt_cmpR op_ne (pe_ix ix_tup (pv 10) pe_int (fun _ _ => rfl)) pe_str (nomark _)) (pss_one (ps_set (i := 12) sc_sets_of.nd rfl (Or.inl rfl) (pe_d D_union_of (hr.mono (by decide)) (by rfl) (pa_cons (pv 1) (pa_cons (pv 3) (pa_cons (pv 9) (pa_cons (pv 10) pa_nil))))))) pss_nil)
    (pss_one (ps_if (pt_cmpR op_eq (pe_callB call_len_seq (by rfl) T.f_len (by decide +kernel) (pa_cons (pv 12) pa_nil)) pe_int (nomark _)) (pss_one (ps_if (pt_cmpR op_isN (pv 6) pe_non (nomark _)) (pss_one (ps_set (i := 6) sc_sets_of.nd rfl (Or.inl rfl) (pe_tup (pa_cons (pe_ix ix_list (pv 5) (pv 7) (fun _ _ => rfl)) (pa_cons (pv 10) pa_nil))))) pss_nil)) (pss_one (ps_if (pt_cmpR (op_notInN hu9) (pe_tup (pa_cons (pv 11) (pa_cons (pv 12) pa_nil))) (pv 4) (by rfl)) (pss_cons (ps_if (pt_cmpR op_eq (pe_callB call_lenN (by rfl) T.f_len (by decide +kernel) (pa_cons (pv 4) pa_nil)) (pv 2) (nomark _)) (pss_one ps_never) pss_nil)
    (pss_cons (ps_asg (pe_tup (pa_cons (pe_ix ix_list (pv 5) (pv 7) (fun _ _ => rfl)) (pa_cons (pv 10) pa_nil))) (pg_sub (pv 4) (pe_tup (pa_cons (pv 11) (pa_cons (pv 12) pa_nil))) (set_n hu9)))
    (pss_one (ps_expr (pe_bm PySem.F.plainAttrs_list PySem.F.slot_list_append PySem.F.type_list_append mt_append (pv 5) (pa_cons (pe_tup (pa_cons (pv 11) (pa_cons (pv 12) pa_nil))) pa_nil)))))) pss_nil)))))))
    (pss_one (ps_aug (i := 7) sc_sets_of.nd rfl (Or.inl rfl) pe_int ip_add)))))
    (pss_one (ps_ret (pe_tup (pa_cons (pv 4) (pa_cons (pv 6) pa_nil))))))))))), ?_⟩
  intro c oc hc ndc
  have s1 : Same H (upd H c (dob c oc)) := Same.new1 hc
  intro ld ol hld ndl
  have s2 : Same (upd H c (dob c oc)) (upd (upd H c (dob c oc)) ld (dob ld ol)) := Same.new1 hld
  have hld0 : H ld = none := fresh_back s1 hld
  have hlc : ld ≠ c := by rintro rfl; rw [upd_same] at hld; cases hld
  refine ⟨szk 1 rfl, fun t1 ht1 => ⟨szk 2 rfl, fun t2 ht2 => ?_⟩⟩
  have s3 := Same.new1 (o := .tup [V.int 0]) ht1
  have s4 := Same.new1 (o := .tup [V.int 0, V.ref t1]) ht2
  have s34 := s3.trans s4
  have e3 := s34 _ _ (upd_same (H := upd H c (dob c oc)) (a := ld) (o := dob ld ol))
  have e3c := s34 _ _ (s2 _ _ (upd_same (H := H) (a := c) (o := dob c oc)))
  have hzk : WayAt _ (.ref t2) (0, [0]) := ⟨t2, .ref t1, rfl, upd_same, t1, rfl, s4 _ _ (upd_same (a := t1) (o := .tup [V.int 0]))⟩
  have ndl' := ndl.mono (e3.trans (upd_same (H := upd H c (dob c oc)) (a := ld) (o := dob ld ol)).symm) (Tups.same s34)
  have ndc' := ndc.mono (e3c.trans (upd_same (H := H) (a := c) (o := dob c oc)).symm) ((Tups.same s2).trans (Tups.same s34))
  refine ⟨TW.enc (0, [0]), ndl', hzk.is, fun o' nd' => ?_⟩
  have c4 : Same H _ := s1.trans (s2.trans s34)
  have hX : Mut [] _ (upd _ ld (dob ld o')) := Mut.dict (κ := Way) (T := TW) (w := w) (qs := []) (f := fun _ => .non) (o := dob ld o') ⟨ol, ndl'⟩
  have c5 : Same H _ := Same.mut (o := dob ld o') c4 hld0
  have dmc : DM TD w _ c [] fun _ => V.non := ⟨oc, NDat.mono ndc' (upd_ne (Ne.symm hlc)) hX.tup⟩
  have dml : DM TW w _ ld [(0, [0])] fun _ => V.non := nd'
  generalize (upd _ ld (dob ld o')) = H5 at hX c5 dmc dml
  refine ⟨szk 1 rfl, fun t3 ht3 => ⟨szk 2 rfl, fun t4 ht4 => ⟨szk 1 rfl, fun q hq => ?_⟩⟩⟩
  have s6 := Same.new1 (o := .tup [V.int 0]) ht3
  have s6' := Same.new1 (o := .tup [V.int 0, V.ref t3]) ht4
  have s7 := Same.new1 (o := .lst [V.ref t4]) hq
  have s67 := s6.trans (s6'.trans s7)
  have hq0 : H q = none := fresh_back (c5.trans (s6.trans s6')) hq
  have I0 : WSt w H c ld q LO HI ds W (upd (upd (upd H5 t3 (.tup [.int 0])) t4 (.tup [.int 0, .ref t3])) q (.lst [.ref t4])) [(0, [0])] (fun _ => .non) [.ref t4] := by
    obtain ⟨o1, e1⟩ := DM.at dmc
    obtain ⟨o2, e2⟩ := DM.at dml
    exact ⟨c5.trans s67, ⟨[], _, dmc.mono (by rw [s67 _ _ e1, e1]) (Tups.same s67), List.nodup_nil, fun q h => absurd h List.not_mem_nil, fun q h => absurd h List.not_mem_nil⟩, dml.mono (by rw [s67 _ _ e2, e2]) (Tups.same s67), upd_same, .cons ⟨t4, .ref t3, rfl, s7 _ _ upd_same, t3, rfl, (s6'.trans s7) _ _ upd_same⟩ .nil, by simp, fun p hp => by rw [List.mem_singleton] at hp; rw [hp]; exact cls.z⟩
  refine ⟨fun m σ H1 => ∃ (k : Nat) (qs : List Way) (f : Way → V) (qv : List V) (gap : V) (o7 o8 o9 o10 o11 : Option V), m + k = W.length ∧ k ≤ qs.length ∧ σ = [some (.ref la), some (.ref ha), some (.int 20000), some (.ref c), some (.ref ld), some (.ref q), some gap, some (.int (k : Nat)), o7, o8, o9, o10, o11] ∧
    WSt w H c ld q LO HI ds W H1 qs f qv, ⟨W.length, 0, _, _, _, .non, none, none, none, none, none, by omega, Nat.zero_le _, rfl, I0⟩, ?_⟩
  rintro m σ H1 ⟨kk, qs, f, qv, gap, o7, o8, o9, o10, o11, hm, hkq, rfl, I⟩
  have hql := paired_len I.qP
  refine ⟨_, rfl, _, rfl, q, _, rfl, .inl (SqL.of I.hq), _, _, rfl, rfl, _, rfl, ite2 (fun hlt => ?_) (fun hge => ?_)⟩
  · have hlt : (kk : Int) < ((qv.length : Nat) : Int) := of_decide_eq_true hlt
    have hp : qs[kk]? = some (qs[kk]'(by omega)) := List.getElem?_eq_getElem _
    generalize (qs[kk]'_) = p at hp
    have hpS := I.sub p (List.mem_of_getElem? hp)
    obtain ⟨hpl, hph⟩ := cls.rng p hpS
    obtain ⟨pv, hpv, pa, hu, rfl, hpa, hhere⟩ := paired_getR I.qP hp
    have hat : ∀ {qv' : List V}, qv'[kk]? = some (.ref pa) → atI qv' ((kk : Nat) : Int) = some (.ref pa) := fun h => atI_of (by omega) (by rw [show ((kk : Nat) : Int).toNat = kk by omega]; exact h)
    refine ⟨_, fun _ _ h => h, ?_⟩
    refine ⟨_, rfl, _, rfl, q, _, _, _, rfl, rfl, SqL.of I.hq, hat hpv, pa, _, rfl, SqT.of hpa, rfl, _, _, rfl, _, _, rfl, rfl, ?_⟩
    refine ⟨_, rfl, la, ldx, _, rfl, I.s _ _ hla, rfl, _, rfl, .ref la, LO, p.1, rfl, hL.mono I.s, hpl, fun mp ms H3 hmp s9 hms hMP => ?_⟩
    have hmq : mp ≠ q := by rintro rfl; rw [I.hq] at hmp; cases hmp
    have I2 := I.grow s9
    refine ⟨mp, rfl, ⟨_, SqL.of hms⟩, ?_⟩
    refine for_list (xs := ms) (Pv := fun i σ H4 => ∃ (qs : List Way) (f : Way → V) (qv : List V) (gap : V) (o9 o10 o11 : Option V), kk < qs.length ∧ qv[kk]? = some (.ref pa) ∧ σ = [some (.ref la), some (.ref ha), some (.int 20000), some (.ref c), some (.ref ld), some (.ref q), some gap, some (.int (kk : Nat)), some (.int p.1), some hu, o9, o10, o11] ∧
      Mut [q] H3 H4 ∧ WSt w H c ld q LO HI ds W H4 qs f qv) ⟨qs, f, qv, gap, _, _, _, by omega, hpv, rfl, Mut.refl _ _, I2⟩ ?_ ?_ ?_
    · rintro i σ H4 _ ⟨qs, f, qv, gap, o9, o10, o11, _, _, rfl, mm, _⟩
      exact SqL.of (mm.lst _ _ (by simp [hmq]) hms)
    · rintro i x σ H4 hx ⟨qs, f, qv, gap, o9, o10, o11, hkl, hpv', rfl, mm, I3⟩
      have hi := (List.getElem?_eq_some_iff.mp hx).1
      have hml := paired_len hMP
      have hmv : (row LO p.1)[i]? = some ((row LO p.1)[i]'(by omega)) := List.getElem?_eq_getElem _
      generalize ((row LO p.1)[i]'_) = mv at hmv
      obtain ⟨x', hx', hMv0⟩ := paired_getR hMP hmv
      rw [hx] at hx'
      obtain rfl := Option.some.inj hx'
      have hMv := hMv0.mono mm.tup
      obtain ⟨ms', hms1, hms2⟩ := row_get hmv
      have hdm := ((gL.gd ms' hms1).2 mv hms2).1
      obtain ⟨cl1, cl2⟩ := cls.cl p hpS mv (List.mem_of_getElem? hmv)
      obtain ⟨t, u, rfl, ht, hda⟩ := hMv
      obtain ⟨z, rfl, hz⟩ := id hda
      have hhere4 := hhere.mono ((Tups.same s9).trans mm.tup)
      refine ⟨t, _, rfl, SqT.of ht, rfl, _, _, rfl, _, _, rfl, rfl, ?_⟩
      refine ⟨_, rfl, ?_⟩
      -- where it leads
      refine ⟨fun σ H5 => ∃ (th : V) (l : List Int), σ = [some (.ref la), some (.ref ha), some (.int 20000), some (.ref c), some (.ref ld), some (.ref q), some gap, some (.int (kk : Nat)), some (.int p.1), some hu, some (.ref z), some (.int mv.2), some th] ∧
        Mut [q] H3 H5 ∧ WSt w H c ld q LO HI ds W H5 qs f qv ∧ IntsT H5 th l ∧ (l ≠ [] → (mv.2, l) ∈ W), ?_, ?_⟩
      · refine ⟨_, rfl, z, _, 1, _, rfl, rfl, SqT.of hz, rfl, rfl, _, rfl, ?_⟩
        rw [← hid_eq]
        cases hh : hid mv.1 with
        | true =>
          exact iteF ⟨hu, p.2, rfl, mm, I3, hhere4, fun _ => cl1 hh⟩
        | false =>
          refine iteT ⟨_, rfl, _, rfl, _, rfl, _, rfl, .ref ha, c, hu, .ref z, HI, ds, p.2, mv.1, [q], rfl, hH.mono I3.s, gH, hh40, mk, I3.cc, fun b hb => ?_, hhere4, hph, hda, hdm, hh, fun v H5 b5 cc5 hv5 => ?_⟩
          · rw [List.mem_singleton] at hb
            subst hb
            rw [I3.hq]
            exact fun e => by cases e
          · exact ⟨v, _, rfl, mm.trans (b5.mutC I3.cc), I3.but hc hlc b5 cc5, hv5, fun hne => cl2 hh hne⟩
      rintro σ H5 ⟨th, l, rfl, m5, I5, ⟨ta, rfl, hta⟩, hlW⟩
      have hq5 := I5.hq
      have hql5 := paired_len I5.qP
      have hqW := CM.nodup_sub I5.nd I5.sub
      have hW2 := cls.le
      refine ⟨_, rfl, ta, _, rfl, .inr (SqT.of hta), rfl, _, rfl, ?_⟩
      rw [List.length_map]
      cases l with
      | nil =>
        refine iteT ⟨_, rfl, rfl, _, rfl, ite2 (fun _ => ?_) (fun _ => ⟨qs, f, qv, gap, _, _, _, hkl, hpv', rfl, m5, I5⟩)⟩
        refine ⟨_, rfl, _, rfl, q, _, _, _, rfl, rfl, SqL.of hq5, hat hpv', _, rfl, szk 2 rfl, fun g1 hg1 => ?_⟩
        have s6 := Same.new1 (o := .tup [V.ref pa, V.ref z]) hg1
        exact ⟨qs, f, qv, _, _, _, _, hkl, hpv', rfl, m5.trans (Mut.same s6), I5.grow s6⟩
      | cons i0 l0 =>
        have hlW := hlW (by simp)
        have hne : ¬ decide (V.int (((i0 :: l0).length : Nat) : Int) = V.int 0) = true := by
          rw [decide_eq_true_iff, V.int.injEq, List.length_cons]
          omega
        refine ite2 (fun h => absurd h hne) (fun _ => ?_)
        refine ⟨_, rfl, _, rfl, szk 2 rfl, fun w1 hw1 => ?_⟩
        have s6 := Same.new1 (o := .tup [V.int mv.2, V.ref ta]) hw1
        have I6 := I5.grow s6
        have hwk : WayAt (upd H5 w1 (.tup [.int mv.2, .ref ta])) (.ref w1) (mv.2, i0 :: l0) := ⟨w1, .ref ta, rfl, upd_same, ta, rfl, s6 _ _ hta⟩
        refine ⟨_, rfl, ld, _, _, rfl, I6.dm, hwk.is, _, rfl, ?_⟩
        rw [mapD_get]
        by_cases hin : (mv.2, i0 :: l0) ∈ qs
        · rw [if_pos hin]
          exact iteF ⟨qs, f, qv, gap, _, _, _, hkl, hpv', rfl, m5.trans (Mut.same s6), I6⟩
        · rw [if_neg hin]
          have hq9 : qs.length < W.length := by
            have := CM.nodup_sub (l := qs ++ [(mv.2, i0 :: l0)]) (m := W) (nodup_snoc I5.nd hin) fun y hy => by
              rw [List.mem_append, List.mem_singleton] at hy
              rcases hy with hy | rfl
              · exact I5.sub y hy
              · exact hlW
            rw [List.length_append, List.length_singleton] at this
            omega
          refine iteT ⟨_, rfl, ld, _, rfl, I6.dm, _, rfl, rfl, _, rfl, ?_⟩
          rw [mapD_len]
          refine ite2 (fun h => absurd (V.int.inj (of_decide_eq_true h)) (by omega)) (fun _ => ?_)
          refine ⟨_, rfl, _, rfl, q, _, _, _, rfl, rfl, SqL.of I6.hq, hat hpv', _, rfl, szk 2 rfl, fun v1 hv1 => ?_⟩
          have s7 := Same.new1 (o := .tup [V.ref pa, V.ref z]) hv1
          have I7 := I6.grow s7
          refine ⟨_, rfl, _, rfl, _, rfl, szk 2 rfl, fun w2 hw2 => ?_⟩
          have s8 := Same.new1 (o := .tup [V.int mv.2, V.ref ta]) hw2
          have I8 := I7.grow s8
          have hta8 := (s6.trans (s7.trans s8)) _ _ hta
          have hwk2 : WayAt _ (.ref w2) (mv.2, i0 :: l0) := ⟨w2, .ref ta, rfl, upd_same, ta, rfl, hta8⟩
          refine ⟨ld, _, _, rfl, I8.dm, hwk2.is, szLt (by rw [mapD_len]; omega), fun o' nd' => ?_⟩
          have m8 := Mut.same (bad := [q]) (s6.trans (s7.trans s8))
          generalize (upd (upd (upd H5 w1 (.tup [.int mv.2, .ref ta])) v1 (.tup [.ref pa, .ref z])) w2 (.tup [.int mv.2, .ref ta])) = H8 at I8 hwk2 nd' hta8 m8 ⊢
          have mD : Mut [q] H8 (upd H8 ld (dob ld o')) := Mut.dict (o := dob ld o') I8.dm
          have hqld : q ≠ ld := DM.notLst I8.dm I8.hq
          have hq9' : (upd H8 ld (dob ld o')) q = some (.lst qv) := by rw [upd_ne hqld]; exact I8.hq
          have hta9 := mD.tup _ _ hta8
          refine ⟨_, rfl, tyL hq9', _, rfl, _, rfl, szk 2 rfl, fun w3 hw3 => ?_⟩
          have s9' := Same.new1 (o := .tup [V.int mv.2, V.ref ta]) hw3
          have hq10 := s9' _ _ hq9'
          refine ⟨q, _, _, rfl, rfl, hq10, szLt (by omega), ?_⟩
          have mQ : Mut [q] (upd (upd H8 ld (dob ld o')) w3 (.tup [.int mv.2, .ref ta])) (upd (upd (upd H8 ld (dob ld o')) w3 (.tup [.int mv.2, .ref ta])) q (.lst (qv ++ [.ref w3]))) := Mut.upd (o := .lst (qv ++ [.ref w3])) (by simp) (not_tup hq10)
          have mAll := mD.trans ((Mut.same s9').trans mQ)
          obtain ⟨o1, e1⟩ := I8.cc.dict
          have hcq : c ≠ q := by
            rintro rfl
            rw [I8.hq] at e1
            cases e1
          refine ⟨qs ++ [(mv.2, i0 :: l0)], fset f (mv.2, i0 :: l0) (.ref v1), qv ++ [.ref w3], gap, _, _, _, by rw [List.length_append]; omega, get_snoc hpv', rfl, m5.trans (m8.trans mAll), ⟨Same.mut (Same.new (Same.mut I8.s hld0) hw3) hq0, I8.cc.mut ?_ mAll, ?_, upd_same, ?_, nodup_snoc I5.nd hin, fun y hy => ?_⟩⟩
          · rw [upd_ne hcq, s9' _ _ (by rw [upd_ne (Ne.symm hlc)]; exact e1), e1]
          · rw [mapD_put_new hin] at nd'
            have d9 : DM TW w (upd H8 ld (dob ld o')) ld (qs ++ [(mv.2, i0 :: l0)]) (fset f (mv.2, i0 :: l0) (.ref v1)) := nd'
            obtain ⟨o2, e2⟩ := DM.at d9
            exact (d9.mono (by rw [s9' _ _ e2, e2]) (Tups.same s9')).mono (upd_ne (Ne.symm hqld)) mQ.tup
          · exact paired_snoc (Paired.mapP I8.qP fun _ _ y => y.mono mAll.tup) ⟨w3, .ref ta, rfl, mQ.tup _ _ upd_same, ta, rfl, mQ.tup _ _ (s9' _ _ hta9)⟩
          · rw [List.mem_append, List.mem_singleton] at hy
            rcases hy with hy | rfl
            · exact I5.sub y hy
            · exact hlW
    · rintro σ H4 ⟨qs, f, qv, gap, o9, o10, o11, hkl, hpv', rfl, mm, I3⟩
      have hqW := CM.nodup_sub I3.nd I3.sub
      exact ⟨_, rfl, _, _, rfl, rfl, m - 1, by omega, kk + 1, qs, f, qv, gap, _, _, _, _, _, by omega, by omega, rfl, I3⟩
  · refine ⟨_, rfl, _, rfl, szk 2 rfl, fun p hp => ?_⟩
    have s9 := Same.new1 (o := .tup [V.ref ld, gap]) hp
    exact k p _ _ _ (fresh_back I.s hp) (I.s.trans s9) upd_same
end
end Ct
/-! Web.__init__, len(web). -/
namespace Ct
open PySem PySem.Spec PyProof.Rows L2 Nd
open CM (InR Wf Qt Rep row reps PermRows)
theorem permRows_of : ∀ {R S : Rows}, Paired (fun (x y : List Move) => x.Perm y) R S → PermRows R S
  | _, _, .nil => trivial
  | _, _, .cons r t => ⟨r, permRows_of t⟩
theorem perm_good {ds : List Deed} {R S : Rows} (g : Good ds R) (p : PermRows R S) : Good ds S := by
  have hl := p.len
  have key : ∀ {R S : Rows} {n : Nat}, PermRows R S → Gd ds n R → Gd ds n S := by
    intro R
    induction R with
    | nil =>
      intro S n p g
      cases S with
      | nil => exact g
      | cons _ _ => exact p.elim
    | cons a R ih =>
      intro S n p g
      cases S with
      | nil => exact p.elim
      | cons b S =>
        obtain ⟨p1, p2⟩ := p
        intro ms hms
        rcases List.mem_cons.mp hms with rfl | hms
        · obtain ⟨h1, h2⟩ := g a (List.mem_cons_self ..)
          exact ⟨(p1.map Prod.fst).nodup_iff.mp h1, fun m hm => h2 m (p1.mem_iff.mpr hm)⟩
        · exact ih p2 (fun x hx => g x (List.mem_cons_of_mem _ hx)) ms hms
  refine ⟨by rw [← hl]; exact g.pos, ?_⟩
  rw [← hl]
  exact key p g.gd
/-- all but the object at a stays -/
abbrev ButA (a : Addr) (H H' : Hp) : Prop := But a H H'
section
variable {P : Program} {w : World} {K : PySem.W.Frag} {mg : Str → Option Value} {base : Heap}
def spWebInit (K : PySem.W.Frag) : Sp := fun vs H Q _ => ∃ (a dx : Addr) (rv : V) (R : Rows) (ds : List Deed), vs = [.ref a, rv] ∧ H a = some (.ins (He.ga K "Web") dx []) ∧ RowsAt H rv R ∧ Good ds R ∧ R.length ≤ 40 ∧ MenuOk ds ∧
  ∀ R' H', (∀ b u, b ≠ a → H b = some u → H' b = some u) → WebAt K H' (.ref a) R' → PermRows R R' → Q .non H'
theorem sc_Web_init : FnScope (["self", "rows", "at", "moves", "seen", "move"] : List Str) ["self", "rows"] (defScope s_Web_init) := ⟨rfl, rfl, rfl, by decide +kernel, rfl, by decide +kernel, by decide +kernel⟩
theorem ok_webInit (F : TM K "__init__" "Web.__init__" s_Web_init (He.ma K (He.ga K "Web") "__init__")) (T : Tx K mg) (D_is_move : DOk P w K mg base 4 "is_move" ["move", "size"] spMove) :
    KOk P w K mg base 5 "Web" ["self", "rows"] (spWebInit K) := by
  refine kok F T.mk_Web T.g_Web sc_Web_init (fun vs H Q E h => ?_) (fun _ _ _ _ _ _ us hl => match us, hl with | [_, _], _ => rfl) (fun cdv A outer s H vs Q E hr h => ?_)
  · obtain ⟨a, dx, rv, R, ds, rfl, _⟩ := h
    rfl
  obtain ⟨a, dx, rv, R, ds, rfl, ha, hR, g, h40, mk, k⟩ := h
  obtain ⟨ra, rs, rfl, hra, hrP⟩ := id hR
  have hrl := paired_len hrP
  have hpos := g.pos
  have hu9 := hu9_of hr
  have hu64 := hu64_of hr
  refine ⟨_, (pss_cons (ps_if (PW.pt (pw_or (pt_cmpR op_lt (pe_callB call_len_seq (by rfl) T.f_len (by decide +kernel) (pa_cons (pv 1) pa_nil)) pe_int (nomark _)) (pw_or1 (pt_cmpR op_gt (pe_callB call_len_seq (by rfl) T.f_len (by decide +kernel) (pa_cons (pv 1) pa_nil)) (pe_glob (v := .int 4000) rfl T.i_MOST_webs.choose_spec ⟨_, rfl⟩) (nomark _))))) (pss_one ps_never) pss_nil)
    (pss_cons (ps_for PassesOwn.never rfl (pi_enum rfl T.f_enumerate (pa_cons (pv 1) pa_nil)) (pg_tup rfl (pgs_cons (pg_name (i := 2) sc_Web_init.nd rfl (Or.inl rfl)) (pgs_cons (pg_name (i := 3) sc_Web_init.nd rfl (Or.inl rfl)) pgs_nil))) (pss_cons (ps_set (i := 4) sc_Web_init.nd rfl (Or.inl rfl) pe_nnew)
    (pss_one (ps_for PassesOwn.never rfl (pi_list (pv 3)) (pg_name (i := 5) sc_Web_init.nd rfl (Or.inl rfl)) (pss_cons (ps_if (PW.pt (pw_or (pt_not (pt_val (pe_d D_is_move (hr.mono (by decide)) (by rfl) (pa_cons (pv 5) (pa_cons (pe_callB call_len_seq (by rfl) T.f_len (by decide +kernel) (pa_cons (pv 1) pa_nil)) pa_nil))))) (pw_or1 (pt_cmpR (op_inN hu9) (pe_ix ix_tup (pv 5) pe_int (fun _ _ => rfl)) (pv 4) (by rfl))))) (pss_one ps_never) pss_nil)
    (pss_one (ps_asg pe_bl (pg_sub (pv 4) (pe_ix ix_tup (pv 5) pe_int (fun _ _ => rfl)) (set_n hu9)))))))))
    (pss_one (ps_fld (pv 0) (pe_lc (own := [("moves", 3)]) rfl sc_Web_init.nd (pi_list (pv 1)) (blkOk_by (N := (["self", "rows", "at", "moves", "seen", "move"] : List Str)) (sc := defScope s_Web_init) (by decide +kernel)) (fun _ _ _ _ _ => (pg_name (i := 3) sc_Web_init.nd rfl (Or.inl rfl))) (fun _ _ _ _ _ => pts_nil) (fun _ _ _ _ _ => (pe_callB (call_sortM (K := K) hu64) (by rfl) T.f_sorted (by decide +kernel) (pa_cons (pv 3) pa_nil)))) rfl)))), ?_⟩
  refine ⟨_, rfl, ra, _, rfl, .inl (SqL.of hra), _, _, rfl, rfl, _, rfl, ite2 (fun h => ?_) (fun _ => ?_)⟩
  · exact absurd (of_decide_eq_true h) (by show ¬ ((rs.length : Nat) : Int) < 1; omega)
  refine ⟨_, rfl, ra, _, rfl, .inl (SqL.of hra), _, _, rfl, rfl, _, rfl, ite2 (fun h => ?_) (fun _ => ?_)⟩
  · exact absurd (of_decide_eq_true h) (by show ¬ (4000 : Int) < ((rs.length : Nat) : Int); omega)
  refine ⟨_, rfl, ra, rs, rfl, SqL.of hra, ?_⟩
  refine for_it (walk_enum (xs := rs)) (Pv := fun i σ H1 => ∃ (o2 o3 o4 o5 : Option V), σ = [some (.ref a), some (.ref ra), o2, o3, o4, o5] ∧ Same H H1) ⟨_, _, _, _, rfl, Same.refl H⟩ ?_ ?_ ?_
  · rintro i σ H1 _ ⟨o2, o3, o4, o5, rfl, s1⟩
    exact SqL.of (s1 _ _ hra)
  · rintro i x σ H1 _ hi ⟨o2, o3, o4, o5, rfl, s1⟩ ⟨T0, xi, xr, rfl, hT0, rfl, hxi, hxr⟩
    obtain rfl := Option.some.inj hxi
    have hxr : rs[i]? = some xr := hxr
    have hri : R[i]? = some (R[i]'(by omega)) := List.getElem?_eq_getElem _
    generalize (R[i]'_) = ml at hri
    have hrm := List.mem_of_getElem? hri
    obtain ⟨xr', hxr', c, mvs, rfl, hc, hMP⟩ := paired_getR hrP hri
    rw [hxr] at hxr'
    obtain rfl := Option.some.inj hxr'
    have hgd := g.gd ml hrm
    have hl8 := row_len g.gd mk.le hrm
    have s2 := Same.new1 (o := .tup [V.int (i : Nat), V.ref c]) hT0
    have s12 := s1.trans s2
    refine ⟨T0, _, rfl, SqT.of upd_same, rfl, _, _, rfl, _, _, rfl, rfl, ?_⟩
    intro sd osd hsd nd
    have s3 := Same.new1 (o := dob sd osd) hsd
    have s13 := s12.trans s3
    have hsd0 : H sd = none := fresh_back s12 hsd
    have dm0 : DM TDeed w (upd (upd H1 T0 (.tup [.int (i : Nat), .ref c])) sd (dob sd osd)) sd [] fun _ => V.bl true := ⟨osd, nd⟩
    refine ⟨_, rfl, c, rfl, ⟨_, SqL.of (s13 _ _ hc)⟩, ?_⟩
    refine for_list (xs := mvs) (Pv := fun j σ H2 => ∃ (o5 : Option V), σ = [some (.ref a), some (.ref ra), some (.int (i : Nat)), some (.ref c), some (.ref sd), o5] ∧ Same H H2 ∧ DM TDeed w H2 sd ((ml.map Prod.fst).take j) fun _ => .bl true) ⟨_, rfl, s13, by rw [List.take_zero]; exact dm0⟩ ?_ ?_ ?_
    · rintro j σ H2 _ ⟨o5, rfl, s4, _⟩
      exact SqL.of (s4 _ _ hc)
    · rintro j x σ H2 hx ⟨o5, rfl, s4, dm⟩
      have hj := (List.getElem?_eq_some_iff.mp hx).1
      have hml := paired_len hMP
      have hmj : ml[j]? = some (ml[j]'(by omega)) := List.getElem?_eq_getElem _
      generalize (ml[j]'_) = m at hmj
      obtain ⟨x', hx', hmv0⟩ := paired_getR hMP hmj
      rw [hx] at hx'
      obtain rfl := Option.some.inj hx'
      have hmg := hgd.2 m (List.mem_of_getElem? hmj)
      have hmv := hmv0.mono (Tups.same s4)
      have hk : (ml.map Prod.fst)[j]? = some m.1 := by rw [List.getElem?_map, hmj]; rfl
      have hnin := mem_take_of_nodup hgd.1 hk
      refine ⟨_, rfl, _, rfl, ra, _, rfl, .inl (SqL.of (s4 _ _ hra)), x, m, _, rfl, hmv, mk.ok _ hmg.1, ⟨hmg.2.1, by have := hmg.2.2; omega⟩, fun H3 s5 => ⟨_, rfl, iteF ?_⟩⟩
      obtain ⟨o2', ho2⟩ := DM.at dm
      have dm3 := dm.mono (by rw [s5 _ _ ho2, ho2]) (Tups.same s5)
      obtain ⟨t, u, rfl, ht, hda⟩ := hmv.mono (Tups.same s5)
      refine ⟨_, rfl, t, _, 0, _, rfl, rfl, SqT.of ht, rfl, _, rfl, sd, _, _, rfl, dm3, hda.isD, _, rfl, ?_⟩
      rw [mapD_get, if_neg hnin]
      refine iteF ⟨_, rfl, _, rfl, t, _, 0, _, rfl, rfl, SqT.of ht, rfl, sd, _, _, rfl, dm3, hda.isD, szLt (by rw [mapD_len, List.length_take, List.length_map]; omega), fun o' nd' => ⟨_, rfl, Same.mut (s4.trans s5) hsd0, ?_⟩⟩
      rw [mapD_put_new hnin] at nd'
      rw [take_snoc hk]
      refine DM.congr (T := TDeed) nd' fun y _ => ?_
      unfold fset
      split <;> rfl
    · rintro σ H2 ⟨o5, rfl, s4, _⟩
      exact ⟨_, _, _, _, rfl, s4⟩
  · rintro σ H1 ⟨o2, o3, o4, o5, rfl, s1⟩
    refine ⟨_, rfl, ra, rfl, ⟨_, SqL.of (s1 _ _ hra)⟩, fun D hD => ?_⟩
    have hD0 : H D = none := fresh_back s1 hD
    refine lc_list (xs := rs) (Pv := fun i H2 => ∃ ms S, Same H H2 ∧ H2 D = some (.lst ms) ∧ RowsIn H2 D ms S ∧ Paired (fun (x y : List Move) => x.Perm y) (R.take i) S) ⟨[], [], Same.new s1 hD, upd_same, .nil, by rw [List.take_zero]; exact .nil⟩ ?_ ?_ ?_
    · rintro i H2 _ ⟨ms, S, s2, _⟩
      exact SqL.of (s2 _ _ hra)
    · rintro i x H2 hx ⟨ms, S, s2, hms, hRI, hPm⟩
      have hi := (List.getElem?_eq_some_iff.mp hx).1
      have hri : R[i]? = some (R[i]'(by omega)) := List.getElem?_eq_getElem _
      generalize (R[i]'_) = ml at hri
      have hrm := List.mem_of_getElem? hri
      obtain ⟨x', hx', c, mvs, rfl, hc, hMP⟩ := paired_getR hrP hri
      rw [hx] at hx'
      obtain rfl := Option.some.inj hx'
      have hgd := g.gd ml hrm
      refine ⟨rfl, _, rfl, c, mvs, ml, rfl, SqL.of (s2 _ _ hc), moves_all hMP (Tups.same s2), fun m hm => mk.ok _ (hgd.2 m hm).1, fun ys M' p hys hp' hp => ?_⟩
      have s3 := Same.new1 (o := .lst ys) hp
      have hms3 := s3 _ _ hms
      have hpD : p ≠ D := by rintro rfl; rw [hms] at hp; cases hp
      have h1 := paired_len hRI
      have h2 := paired_len hPm
      rw [List.length_take] at h2
      refine ⟨ms, hms3, szLt (by omega), ms ++ [.ref p], S ++ [M'], Same.mut (s2.trans s3) hD0, upd_same, (hRI.grow s3).put (not_tup hms3) ⟨p, ys, rfl, upd_same, moves_all hys (Tups.same s3)⟩ (fun e => hpD (V.ref.inj e)), ?_⟩
      rw [take_snoc hri]
      exact paired_snoc hPm hp'.symm
    · rintro H2 ⟨ms, S, s2, hms, hRI, hPm⟩
      rw [hrl, List.take_length] at hPm
      have haD : a ≠ D := by rintro rfl; rw [hD0] at ha; cases ha
      refine ⟨_, rfl, a, _, dx, [], rfl, s2 _ _ ha, T.c_Web, T.n_Web_own_rows, by decide, ?_⟩
      have nt : ∀ xs, H2 a ≠ some (.tup xs) := fun xs e => by rw [s2 _ _ ha] at e; cases e
      have hDa : D ≠ a := Ne.symm haD
      refine k S _ (fun b u hb e => by rw [upd_ne hb]; exact s2 _ _ e) ⟨a, dx, .ref D, rfl, upd_same, D, ms, rfl, by rw [upd_ne hDa]; exact hms, ?_⟩ (permRows_of hPm)
      refine Paired.mapP hRI.fin fun v l q => ?_
      refine q.upd (fun e => ?_) nt
      obtain ⟨b, vs, e1, e2, _⟩ := q
      rw [e] at e1
      injection e1 with e1
      subst e1
      rw [s2 _ _ ha] at e2
      cases e2
end
end Ct
/-! len(web). -/
namespace Ct
open PySem PySem.Spec PyProof.Rows L2 Nd
/-- more of what the top has written -/
structure Ty (K : PySem.W.Frag) (mg : Str → Option Value) : Prop where
  len_Web : PySem.W.findIn K (.ref (He.ga K "Web")) "__len__" = some (some (.ref (He.ma K (He.ga K "Web") "__len__")))
  lenf_Web : PySem.W.isFn K (.ref (He.ma K (He.ga K "Web") "__len__")) = true
  call_Spoiler : StX.CallO K (He.ga K "Spoiler") (He.ma K (He.ga K "Spoiler") "__call__")
section
variable {P : Program} {w : World} {K : PySem.W.Frag} {mg : Str → Option Value} {base : Heap}
def spLen (K : PySem.W.Frag) : Sp := fun vs H Q _ => ∃ v R, vs = [v] ∧ WebAt K H v R ∧ Q (.int (R.length : Nat)) H
/-- a def of a class keeps its promise, as it is called -/
structure ROk (P : Program) (w : World) (K : PySem.W.Frag) (mg : Str → Option Value) (base : Heap) (k : Nat) (f : Addr) (sp : Sp) : Prop where
  run : FnR P w K mg base CX0 k f sp
theorem sc_Web_len : FnScope (["self"] : List Str) ["self"] (defScope s_Web_len) := ⟨rfl, rfl, rfl, by decide +kernel, rfl, by decide +kernel, by decide +kernel⟩
theorem ok_webLen (F : TM K "__len__" "Web.__len__" s_Web_len (He.ma K (He.ga K "Web") "__len__")) (T : Tx K mg) : ROk P w K mg base 1 (He.ma K (He.ga K "Web") "__len__") (spLen K) := by
  obtain ⟨fd, F⟩ := F.ex
  have G : FnOk P w K mg base CX0 1 (He.ma K (He.ga K "Web") "__len__") fd ["self"] (spLen K) := F.ok sc_Web_len (fun vs H Q E h => by
    obtain ⟨v, R, rfl, _⟩ := h
    rfl) (fun cdv A outer s H vs Q E hr h => by
    obtain ⟨v, R, rfl, ⟨a, dx, r, rfl, ha, ra, rs, rfl, hra, hrP⟩, k⟩ := h
    refine ⟨_, (pss_one (ps_ret (pe_callB call_len_seq (by rfl) T.f_len (by decide +kernel) (pa_cons (pe_fld (pv 0) rfl) pa_nil)))), ?_⟩
    refine ⟨_, rfl, a, _, dx, _, _, rfl, ha, T.c_Web, T.n_Web_own_rows, rfl, ra, _, rfl, .inl (SqL.of hra), ?_⟩
    rw [paired_len hrP]
    exact k)
  refine ⟨(FnOk.raw G (F.binds (fun _ _ _ _ _ _ us hl => match us, hl with | [_], _ => rfl)) .nil).imp fun vs H Q E h => ?_⟩
  rw [List.append_nil]
  exact h
end
section
variable {X : Cx} {K : PySem.W.Frag} {mg : Str → Option Value} {k : Nat}
def rLenW (K : PySem.W.Frag) : List V → Hp → VK → Prop := fun xs H Q => ∃ v R, xs = [v] ∧ WebAt K H v R ∧ R.length ≤ 4000 ∧ Q (.int (R.length : Nat)) H
theorem call_lenW (T : Ty X.K X.mg) (F : ROk X.prog X.w X.K X.mg X.base k (He.ma X.K (He.ga X.K "Web") "__len__") (spLen X.K)) (hr : Room (k + 1) X.A) : CallR X (.builtin "len") (rLenW X.K) := by
  intro pn s σ H xs us Q I r h
  obtain ⟨v, R, rfl, hw, hl, q⟩ := h
  obtain ⟨u, rfl, wu⟩ := r.one
  obtain ⟨a, dx, rr, rfl, ha, hR⟩ := id hw
  obtain rfl : u = Value.ref a := wu
  obtain ⟨mA, O, _⟩ := ins_get I.hok ha
  obtain ⟨od, J, _⟩ := O.look
  refine PySem.Calls.call_function_entry PySem.kind_len PySem.plain_len PySem.entry_len (PySem.args_len1 _) ?_
  unfold Builtin.«len»
  refine wpAny_bind (m := oneArg "len" _) (wpAny_pure ?_)
  have e0 : Env0 X.prog X.w X.K X.mg X.base X.A.in1 X.stack s H := { I.env0 with frames := I.ok.frames }
  have run := F.run X.A.in1 X.stack s H [.ref a] [.ref a] (fun v H' => v = .int (R.length : Nat) ∧ Q v H') E0 hr.in1 e0 (.cons rfl .nil) ⟨.ref a, R, rfl, hw, rfl, q⟩
  have back : wpAny (model X.prog X.w) X.A.in1 (call (.ref (He.ma X.K (He.ga X.K "Web") "__len__")) [.ref a]) (fun u s' => ∃ t H', u = .int (R.length : Nat) t ∧ Inv X pn σ H' s' ∧ Q (.int (R.length : Nat)) H') X.xe s := by
    refine wpAny_call (codeAny_mono run fun r s' hq => ?_)
    cases r with
    | error e => exact (pass0 (X := X)) pn σ H s e s' I hq
    | ok fl =>
      cases fl with
      | ret u =>
        obtain ⟨v, H', I', rv, rfl, q'⟩ := I.after hq
        obtain ⟨t, rfl⟩ := rv
        exact ⟨t, H', rfl, I', q'⟩
      | next => exact False.elim hq
      | brk => exact False.elim hq
      | cont => exact False.elim hq
  refine wpAny_bind (m := callSpecial? (.ref a) (Str.ofString "__len__")) (PySem.W.special_fn I.kIn J T.len_Web (beq_iff_eq.mp T.lenf_Web) (wpAny_mono back (fun r s' hr' => ?_) fun _ _ y => y))
  obtain ⟨t, H', rfl, I', q'⟩ := hr'
  refine wpAny_bind (wpAny_holding (wpAny_pure ?_))
  refine wpAny_bind (wpAny_letGo ?_)
  show wpAny _ _ (if ((R.length : Nat) : Int) < 0 then _ else _) _ _ _
  rw [if_neg (by omega)]
  show wpAny _ _ (if ((R.length : Nat) : Int) ≥ 2 ^ 63 then _ else _) _ _ _
  rw [if_neg (by omega)]
  exact wpAny_bind (wpAny_mkInt (wpAny_pure ⟨_, rfl, .int (R.length : Nat), H', I'.tok _, ⟨_, rfl⟩, q'⟩))
end
end Ct
/-! Spoiler: own_falling. -/
namespace Ct
open PySem PySem.Spec PyProof.Rows L2 Nd
open CM (InR Wf Qt Rep row reps Leads)
/-- all that the move leads to is nearer -/
def Falls (HI : Rows) (ρ : Pr → Int) (p : Pr) (m : Move) : Prop := ∀ q ∈ leadM HI p.2 m, 0 < ρ q ∧ ρ q < ρ p
/-- what a spoiler plays with -/
structure Gm (w : World) (K : PySem.W.Frag) (H : Hp) (lv hv : V) (rd : Addr) (LO HI : Rows) (ds : List Deed) (qs : List Pr) (ρ : Pr → Int) : Prop where
  lo : WebAt K H lv LO
  hi : WebAt K H hv HI
  dm : DM TP w H rd qs (fun p => .int (ρ p))
theorem Gm.mono {w : World} {K : PySem.W.Frag} {H H' : Hp} {lv hv : V} {rd : Addr} {LO HI : Rows} {ds : List Deed} {qs : List Pr} {ρ : Pr → Int} (g : Gm w K H lv hv rd LO HI ds qs ρ) (s : Same H H') : Gm w K H' lv hv rd LO HI ds qs ρ := by
  obtain ⟨o, ho⟩ := DM.at g.dm
  exact ⟨g.lo.mono s, g.hi.mono s, g.dm.mono (by rw [s _ _ ho, ho]) (Tups.same s)⟩
structure Gk (LO HI : Rows) (ds : List Deed) (qs : List Pr) (ρ : Pr → Int) : Prop where
  gl : Good ds LO
  gh : Good ds HI
  l40 : LO.length ≤ 40
  h40 : HI.length ≤ 40
  menu : MenuOk ds
  q9 : qs.length ≤ 999
  L : Leads qs (leadF LO HI)
  R : RdOk qs (leadF LO HI) ρ
  rng : ∀ p ∈ qs, InR LO.length p.1 ∧ InR HI.length p.2
section
variable {P : Program} {w : World} {K : PySem.W.Frag} {mg : Str → Option Value} {base : Heap}
def spFall (w : World) (K : PySem.W.Frag) : Sp := fun vs H Q _ => ∃ (a dx : Addr) (pv : V) (p : Pr) (lv hv : V) (rd : Addr) (LO HI : Rows) (ds : List Deed) (qs : List Pr) (ρ : Pr → Int) (fs : List (Str × V)), vs = [.ref a, pv] ∧ H a = some (.ins (He.ga K "Spoiler") dx fs) ∧
  fs.lookup ("own_low" : Str) = some lv ∧ fs.lookup ("own_high" : Str) = some hv ∧ fs.lookup ("own_rounds" : Str) = some (.ref rd) ∧ PairAt H pv p ∧ Gm w K H lv hv rd LO HI ds qs ρ ∧ Gk LO HI ds qs ρ ∧ p ∈ qs ∧ 0 < ρ p ∧
  ∀ m v H', m ∈ row LO p.1 → Falls HI ρ p m → Same H H' → MoveAt H' v m → Q v H'
theorem sc_Spoiler_own_falling : FnScope (["self", "pair", "deed", "after", "row", "late", "reached", "reply"] : List Str) ["self", "pair"] (defScope s_Spoiler_own_falling) := ⟨rfl, rfl, rfl, by decide +kernel, rfl, by decide +kernel, by decide +kernel⟩
theorem ok_fall (F : TM K "own_falling" "Spoiler.own_falling" s_Spoiler_own_falling (He.ma K (He.ga K "Spoiler") "own_falling")) (T : Tx K mg) (D_Web_moves : MOk P w K mg base 3 "Web" "moves" ["self", "at"] (spMoves K))
    (D_Web_replies : MOk P w K mg base 4 "Web" "replies" ["self", "at", "deed"] (spReplies K)) : MOk P w K mg base 5 "Spoiler" "own_falling" ["self", "pair"] (spFall w K) := by
  refine mok F T.c_Spoiler T.m_Spoiler_own_falling sc_Spoiler_own_falling (fun vs H Q E h => ?_) (fun _ _ _ _ _ _ us hl => match us, hl with | [_, _], _ => rfl) (fun cdv A outer s H vs Q E hr h => ?_)
  · obtain ⟨a, dx, pv, p, lv, hv, rd, LO, HI, ds, qs, ρ, fs, rfl, _⟩ := h
    rfl
  obtain ⟨a, dx, pv, p, lv, hv, rd, LO, HI, ds, qs, ρ, fs, rfl, ha, f1, f2, f3, hpv, gm, gk, hpq, hρ, k⟩ := h
  have hu9 := hu9_of hr
  obtain ⟨pa, rfl, hpa⟩ := id hpv
  obtain ⟨hpl, hph⟩ := gk.rng p hpq
  obtain ⟨la, ldx, lr, rfl, hla, _⟩ := id gm.lo
  obtain ⟨hha, hdx, hr', rfl, hhi, _⟩ := id gm.hi
  have wfH := gk.gh.wf
  refine ⟨_, (pss_cons (ps_for PassesOwn.never rfl (pi_list (pe_m D_Web_moves (hr.mono (by decide)) (pe_fld (pv 0) rfl) (pa_cons (pe_ix ix_tup (pv 1) pe_int (fun _ _ => rfl)) pa_nil))) (pg_tup rfl (pgs_cons (pg_name (i := 2) sc_Spoiler_own_falling.nd rfl (Or.inl rfl)) (pgs_cons (pg_name (i := 3) sc_Spoiler_own_falling.nd rfl (Or.inr rfl)) pgs_nil))) (pss_cons (ps_set (i := 4) sc_Spoiler_own_falling.nd rfl (Or.inl rfl) (pe_lst (pa_cons (pe_tup (pa_cons (pv 3) (pa_cons (pe_ix ix_tup (pv 1) pe_int (fun _ _ => rfl)) pa_nil))) pa_nil)))
    (C8.pss_cut (ps_if (pt_cmpR op_ne (pe_ix ix_tup (pv 2) pe_int (fun _ _ => rfl)) pe_str (nomark _)) (pss_one (ps_setLc (i := 4) (own := [("reply", 7)]) rfl sc_Spoiler_own_falling.nd rfl rfl (sw_true rfl rfl rfl (by decide +kernel)) (pi_list (pe_m D_Web_replies (hr.mono (by decide)) (pe_fld (pv 0) rfl) (pa_cons (pe_ix ix_tup (pv 1) pe_int (fun _ _ => rfl)) (pa_cons (pv 2) pa_nil)))) (blkOk_by (N := (["self", "pair", "deed", "after", "row", "late", "reached", "reply"] : List Str)) (sc := defScope s_Spoiler_own_falling) (by decide +kernel)) (fun _ _ _ _ _ => (pg_name (i := 7) sc_Spoiler_own_falling.nd rfl (Or.inl rfl))) (fun _ _ _ _ _ => pts_nil) (fun _ _ _ _ _ => (pe_tup (pa_cons (pv 3) (pa_cons (pv 7) pa_nil)))))) pss_nil)
    (pss_cons (ps_setLc (i := 5) (own := [("reached", 6)]) rfl sc_Spoiler_own_falling.nd rfl rfl (sw_true rfl rfl rfl (by decide +kernel)) (pi_list (pv 4)) (blkOk_by (N := (["self", "pair", "deed", "after", "row", "late", "reached", "reply"] : List Str)) (sc := defScope s_Spoiler_own_falling) (by decide +kernel)) (fun _ _ _ _ _ => (pg_name (i := 6) sc_Spoiler_own_falling.nd rfl (Or.inl rfl))) (fun _ _ _ _ _ => (pts_one (pt_not (pt_chain op_lt op_lt pe_int (pe_ngetW (w := w) hu9 (pe_fldK (K := K) (pv 0) rfl) (pv 6) (fun _ _ => rfl)) (pe_ngetW (w := w) hu9 (pe_fldK (K := K) (pv 0) rfl) (pv 1) (fun _ _ => rfl)))))) (fun _ _ _ _ _ => (pv 6)))
    (pss_one (ps_if (pt_cmpR op_eq (pe_callB call_len_seq (by rfl) T.f_len (by decide +kernel) (pa_cons (pv 5) pa_nil)) pe_int (nomark _)) (pss_one (ps_ret (pe_tup (pa_cons (pv 2) (pa_cons (pv 3) pa_nil))))) pss_nil))))))
    (pss_one (ps_ret pe_non))), ?_⟩
  refine ⟨_, rfl, a, _, dx, fs, _, rfl, ha, T.c_Spoiler, T.n_Spoiler_own_low, f1, la, ldx, _, rfl, hla, rfl, _, rfl, pa, _, 0, _, rfl, rfl, SqT.of hpa, rfl, .ref la, LO, p.1, rfl, gm.lo, hpl, fun mp ms H1 hmp s1 hms hMP => ?_⟩
  refine ⟨mp, rfl, ⟨_, SqL.of hms⟩, ?_⟩
  have hml := paired_len hMP
  refine for_list (xs := ms) (Pv := fun i σ H2 => ∃ (o2 o3 o4 o5 : Option V), σ = [some (.ref a), some (.ref pa), o2, o3, o4, o5, none, none] ∧ Same H1 H2 ∧ ∀ j m, j < i → (row LO p.1)[j]? = some m → ¬ Falls HI ρ p m) ⟨_, _, _, _, rfl, Same.refl _, fun j m h => absurd h (Nat.not_lt_zero _)⟩ ?_ ?_ ?_
  · rintro i σ H2 _ ⟨o2, o3, o4, o5, rfl, s2, _⟩
    exact SqL.of (s2 _ _ hms)
  · rintro i x σ H2 hx ⟨o2, o3, o4, o5, rfl, s2, hnot⟩
    have hi := (List.getElem?_eq_some_iff.mp hx).1
    have s12 := s1.trans s2
    have hmv : (row LO p.1)[i]? = some ((row LO p.1)[i]'(by omega)) := List.getElem?_eq_getElem _
    generalize ((row LO p.1)[i]'_) = mv at hmv
    have hmm := List.mem_of_getElem? hmv
    obtain ⟨x', hx', hMv0⟩ := paired_getR hMP hmv
    rw [hx] at hx'
    obtain rfl := Option.some.inj hx'
    have hMv := hMv0.mono (Tups.same s2)
    obtain ⟨ms', hms1, hms2⟩ := row_get hmv
    have hdm := ((gk.gl.gd ms' hms1).2 mv hms2).1
    have hdok := gk.menu.ok _ hdm
    obtain ⟨t, u, rfl, ht, hda⟩ := hMv
    obtain ⟨z, rfl, hz⟩ := id hda
    have hlf : leadM HI p.2 mv ∈ leadF LO HI p := List.mem_map_of_mem hmm
    have hlq : ∀ x ∈ leadM HI p.2 mv, x ∈ qs := gk.L.cl p hpq _ hlf
    refine ⟨t, _, rfl, SqT.of ht, rfl, _, _, rfl, _, _, rfl, rfl, ?_⟩
    refine ⟨_, rfl, _, rfl, pa, _, 1, _, rfl, rfl, SqT.of (s12 _ _ hpa), rfl, szk 2 rfl, fun t3 ht3 => ⟨szk 1 rfl, fun w0 hw0 => ?_⟩⟩
    have s3 := Same.new1 (o := .tup [V.int mv.2, V.int p.2]) ht3
    have s4 := Same.new1 (o := .lst [V.ref t3]) hw0
    have s34 := s3.trans s4
    refine ⟨fun σ H5 => ∃ (rw_ : Addr), σ = [some (.ref a), some (.ref pa), some (.ref z), some (.int mv.2), some (.ref rw_), o5, none, none] ∧ Same H2 H5 ∧ PrsAt H5 (.ref rw_) (leadM HI p.2 mv), ?_, ?_⟩
    · refine ⟨_, rfl, z, _, 1, _, rfl, rfl, SqT.of (s34 _ _ hz), rfl, rfl, _, rfl, ?_⟩
      rw [← hid_eq]
      cases hh : hid mv.1 with
      | true =>
        refine iteF ⟨w0, rfl, s34, ?_⟩
        unfold leadM
        rw [if_pos hh]
        exact ⟨w0, _, rfl, upd_same, .cons ⟨t3, rfl, s4 _ _ upd_same⟩ .nil⟩
      | false =>
        have s14 := s12.trans s34
        refine iteT ⟨_, rfl, a, _, dx, fs, _, rfl, s14 _ _ ha, T.c_Spoiler, T.n_Spoiler_own_high, f2, hha, hdx, _, rfl, s14 _ _ hhi, rfl, _, rfl, pa, _, 1, _, rfl, rfl, SqT.of (s14 _ _ hpa), rfl, _, rfl, .ref hha, HI, p.2, .ref z, mv.1, rfl, gm.hi.mono s14, wfH, by have := gk.h40; omega, gk.gh.ok gk.menu, hph, hda.mono (Tups.same s34), hdok, hh, fun y H6 hy s6 hy6 => ?_⟩
        refine ⟨y, rfl, ⟨_, SqL.of hy6⟩, fun D hD => ?_⟩
        have hrl : (reps hid HI p.2 mv.1).length ≤ 40 := by
          have h1 : (reps hid HI p.2 mv.1).Nodup := (CM.reps_sorted HI p.2 mv.1).imp fun h => by omega
          have h2 := CM.nodup_le (n := HI.length) h1 fun x hx => wfH.rep ((CM.mem_reps wfH).mp hx)
          have := gk.h40
          omega
        refine lc_pairs (j := 3) (b := 7) (n := mv.2) hy6 (by omega) hD fun H7 vs s7 hv7 hvP => ?_
        refine ⟨D, rfl, s34.trans (s6.trans s7), ?_⟩
        unfold leadM
        rw [if_neg (by rw [hh]; decide)]
        exact ⟨D, vs, rfl, hv7, hvP⟩
    rintro σ H5 ⟨rw_, rfl, s5, rw', wv, erw, hwv, hwP⟩
    injection erw with erw
    subst erw
    have s15 := s12.trans s5
    have hlen : (leadM HI p.2 mv).length ≤ 1000 := by
      unfold leadM
      split
      · simp
      · rw [List.length_map]
        have h1 : (reps hid HI p.2 mv.1).Nodup := (CM.reps_sorted HI p.2 mv.1).imp fun h => by omega
        have h2 := CM.nodup_le (n := HI.length) h1 fun x hx => wfH.rep ((CM.mem_reps wfH).mp hx)
        have := gk.h40
        omega
    refine ⟨_, rfl, rw_, rfl, ⟨_, SqL.of hwv⟩, fun D hD => ?_⟩
    refine lc_filter (F := PairAt) (b := 6) (p := fun q => !(decide (0 < ρ q) && decide (ρ q < ρ p))) hwv hwP hlen hD (fun t h => h.mono t) (fun v x H' Qb s h hx hq => ?_) (fun H6 ks s6 hks hkP => ?_)
    · have s16 := s15.trans s
      have gm' := gm.mono s16
      refine ⟨_, rfl, a, _, dx, fs, _, rfl, s16 _ _ ha, T.c_Spoiler, T.n_Spoiler_own_rounds, f3, _, rfl, rd, _, _, _, rfl, gm'.dm, h.isP, by rw [mapD_get, if_pos (hlq x hx)], _, _, rfl, rfl, _, rfl, ?_⟩
      by_cases h0 : 0 < ρ x
      · rw [decide_eq_true h0]
        refine iteT ⟨_, rfl, a, _, dx, fs, _, rfl, s16 _ _ ha, T.c_Spoiler, T.n_Spoiler_own_rounds, f3, _, rfl, rd, _, _, _, rfl, gm'.dm, (hpv.mono (Tups.same s16)).isP, by rw [mapD_get, if_pos hpq], _, _, rfl, rfl, _, rfl, ?_⟩
        rw [decide_eq_true h0, Bool.true_and] at hq
        exact hq
      · rw [decide_eq_false h0]
        refine iteF ⟨_, rfl, ?_⟩
        rw [decide_eq_false h0, Bool.false_and] at hq
        exact hq
    · have hkl := paired_len hkP
      refine ⟨_, rfl, D, _, rfl, .inl (SqL.of hks), rfl, _, rfl, ite2 (fun h0 => ?_) (fun h0 => ?_)⟩
      · have h0 : ((ks.length : Nat) : Int) = 0 := V.int.inj (of_decide_eq_true h0)
        have hnil : (leadM HI p.2 mv).filter (fun q => !(decide (0 < ρ q) && decide (ρ q < ρ p))) = [] := List.length_eq_zero_iff.mp (by omega)
        have hfall : Falls HI ρ p mv := fun q hq => by
          have := List.filter_eq_nil_iff.mp hnil q hq
          simpa using this
        refine ⟨_, rfl, _, rfl, szk 2 rfl, fun tt htt => ?_⟩
        have s7 := Same.new1 (o := .tup [V.ref z, V.int mv.2]) htt
        have s57 := s5.trans (s6.trans s7)
        exact k mv _ _ hmm hfall (s12.trans s57) ⟨tt, .ref z, rfl, upd_same, hda.mono (Tups.same s57)⟩
      · refine ⟨_, _, _, _, rfl, s2.trans (s5.trans s6), fun j m hj hm' => ?_⟩
        by_cases e : j = i
        · subst e
          rw [hmv] at hm'
          obtain rfl := Option.some.inj hm'
          intro hf
          apply h0
          have hnil : (leadM HI p.2 mv).filter (fun q => !(decide (0 < ρ q) && decide (ρ q < ρ p))) = [] := List.filter_eq_nil_iff.mpr fun q hq => by
            obtain ⟨h1, h2⟩ := hf q hq
            simp [h1, h2]
          rw [hnil] at hkl
          rw [hkl]
          exact decide_eq_true rfl
        · exact hnot j m (by omega) hm'
  · rintro σ H2 ⟨o2, o3, o4, o5, rfl, s2, hnot⟩
    obtain ⟨r, hr1, hr2⟩ := gk.R.fall p hpq hρ
    obtain ⟨m, hm, rfl⟩ := List.mem_map.mp hr1
    obtain ⟨j, hj⟩ := List.getElem?_of_mem hm
    exact absurd hr2 (hnot j m (by rw [hml]; exact (List.getElem?_eq_some_iff.mp hj).1) hj)
end
end Ct
/-! Spoiler: own_begin, __init__, stand, stretch, won. -/
namespace Ct
open PySem PySem.Spec PyProof.Rows L2 Nd
open CM (InR Wf Qt Rep row reps Leads)
theorem putF_len (f : Str) (v : V) : ∀ fs : List (Str × V), (putF f v fs).length ≤ fs.length + 1
  | [] => Nat.le_refl _
  | (g, x) :: r => by
    unfold putF
    split
    · simp
    · have := putF_len f v r
      simp only [List.length_cons]
      omega
theorem putF_old {f : Str} {v : V} : ∀ {fs : List (Str × V)}, fs.lookup f ≠ none → (putF f v fs).length = fs.length
  | [], h => absurd rfl h
  | (g, x) :: r, h => by
    unfold putF
    split
    · rfl
    · rename_i hg
      have : (f == g) = false := by
        rw [beq_eq_false_iff_ne]
        exact fun e => hg e.symm
      rw [List.lookup_cons, this] at h
      simp only [List.length_cons, putF_old h]
/-- the fields of a spoiler -/
structure Fsp (fs : List (Str × V)) (lv hv : V) (rd : Addr) : Prop where
  low : fs.lookup ("own_low" : Str) = some lv
  high : fs.lookup ("own_high" : Str) = some hv
  rounds : fs.lookup ("own_rounds" : Str) = some (.ref rd)
  nb : fs.lookup ("own_begin" : Str) = none
  nf : fs.lookup ("own_falling" : Str) = none
  len : fs.length ≤ 100
theorem Fsp.put {fs : List (Str × V)} {lv hv : V} {rd : Addr} (h : Fsp fs lv hv rd) {f : Str} {v : V} (hl : fs.length ≤ 99) (n : ("own_low" : Str) ≠ f ∧ ("own_high" : Str) ≠ f ∧ ("own_rounds" : Str) ≠ f ∧ ("own_begin" : Str) ≠ f ∧ ("own_falling" : Str) ≠ f) : Fsp (putF f v fs) lv hv rd where
  low := by rw [lookup_putF, if_neg n.1]; exact h.low
  high := by rw [lookup_putF, if_neg n.2.1]; exact h.high
  rounds := by rw [lookup_putF, if_neg n.2.2.1]; exact h.rounds
  nb := by rw [lookup_putF, if_neg n.2.2.2.1]; exact h.nb
  nf := by rw [lookup_putF, if_neg n.2.2.2.2]; exact h.nf
  len := by have := putF_len f v fs; omega
/-- either it starts, or the four other fields are there -/
def Shp (fs : List (Str × V)) : Prop := fs.length ≤ 3 ∨ (fs.length ≤ 7 ∧ fs.lookup ("own_stand" : Str) ≠ none ∧ fs.lookup ("own_stretch" : Str) ≠ none ∧ fs.lookup ("own_there" : Str) ≠ none ∧ fs.lookup ("own_replies" : Str) ≠ none)
theorem shp_four {fs : List (Str × V)} (h : Shp fs) (a b c d : V) :
    (putF "own_replies" d (putF "own_there" c (putF "own_stretch" b (putF "own_stand" a fs)))).length ≤ 7 := by
  rcases h with h | ⟨h, h1, h2, h3, h4⟩
  · have e1 := putF_len "own_stand" a fs
    have e2 := putF_len "own_stretch" b (putF "own_stand" a fs)
    have e3 := putF_len "own_there" c (putF "own_stretch" b (putF "own_stand" a fs))
    have e4 := putF_len "own_replies" d (putF "own_there" c (putF "own_stretch" b (putF "own_stand" a fs)))
    omega
  · rw [putF_old, putF_old, putF_old, putF_old h1]
    · exact h
    · rw [lookup_putF, if_neg (by decide)]
      exact h2
    · rw [lookup_putF, if_neg (by decide), lookup_putF, if_neg (by decide)]
      exact h3
    · rw [lookup_putF, if_neg (by decide), lookup_putF, if_neg (by decide), lookup_putF, if_neg (by decide)]
      exact h4
/-- a run of R from at on -/
inductive Chain (R : Rows) (at_ : Int) : List Deed → Int → Prop
  | nil : Chain R at_ [] at_
  | snoc {ds : List Deed} {x y : Int} {d : Deed} : Chain R at_ ds x → (d, y) ∈ row R x → Chain R at_ (ds ++ [d]) y
/-- a stretch: hidden deeds, then one that is visible -/
def Shape (str : List Deed) : Prop := ∀ (k : Nat) (d : Deed), str[k]? = some d → hid d = decide (k + 1 < str.length)
structure Plays (LO HI : Rows) (qs : List Pr) (ρ : Pr → Int) (p : Pr) (str : List Deed) (there : Int) (rep : List Int) : Prop where
  run : Chain LO p.1 str there
  shape : Shape str
  last : ∃ d, str.getLast? = some d ∧ rep = reps hid HI p.2 d
  near : ∀ r ∈ rep, (there, r) ∈ qs ∧ 0 < ρ (there, r) ∧ ρ (there, r) < ρ p
  len : str.length ≤ 1000
/-- a spoiler as it stands -/
structure SpAt (K : PySem.W.Frag) (H : Hp) (a : Addr) (lv hv : V) (rd : Addr) (p : Pr) (str : List Deed) (there : Int) (rep : List Int) : Prop where
  ex : ∃ dx fs pv tl rl tvs, H a = some (.ins (He.ga K "Spoiler") dx fs) ∧ Fsp fs lv hv rd ∧ Shp fs ∧ fs.lookup ("own_stand" : Str) = some pv ∧ PairAt H pv p ∧ fs.lookup ("own_stretch" : Str) = some (.ref tl) ∧ H tl = some (.lst tvs) ∧ Paired (DeedAt H) tvs str ∧
    fs.lookup ("own_there" : Str) = some (.int there) ∧ fs.lookup ("own_replies" : Str) = some (.ref rl) ∧ H rl = some (.lst (rep.map V.int))
theorem SpAt.mono {K : PySem.W.Frag} {H H' : Hp} {a : Addr} {lv hv : V} {rd : Addr} {p : Pr} {str : List Deed} {there : Int} {rep : List Int} (h : SpAt K H a lv hv rd p str there rep) (s : Same H H') : SpAt K H' a lv hv rd p str there rep := by
  obtain ⟨dx, fs, pv, tl, rl, tvs, h1, h2, h3, h4, h5, h6, h7, h8, h9, h10, h11⟩ := h.ex
  exact ⟨dx, fs, pv, tl, rl, tvs, s _ _ h1, h2, h3, h4, h5.mono (Tups.same s), h6, s _ _ h7, deeds_all h8 (Tups.same s), h9, h10, s _ _ h11⟩
theorem But.web {K : PySem.W.Frag} {a dx : Addr} {fs : List (Str × V)} {H H' : Hp} {v : V} {R : Rows} (b : But a H H') (ha : H a = some (.ins (He.ga K "Spoiler") dx fs)) (hne : He.ga K "Web" ≠ He.ga K "Spoiler") (h : WebAt K H v R) : WebAt K H' v R := by
  obtain ⟨x, xd, r, rfl, hx, ra, rs, rfl, hra, hP⟩ := h
  have n1 : ∀ {y : Addr} {l : List V}, H y = some (.lst l) → y ≠ a := fun e q => by rw [q, ha] at e; cases e
  have tt : Tups H H' := fun y xs e => b y _ (fun q => by rw [q, ha] at e; cases e) e
  refine ⟨x, xd, _, rfl, b _ _ (fun q => ?_) hx, ra, rs, rfl, b _ _ (n1 hra) hra, Paired.mapP hP fun v l q => ?_⟩
  · rw [q, ha] at hx
    have := Option.some.inj hx
    injection this with e
    exact hne e.symm
  · obtain ⟨y, ys, rfl, hy, hyP⟩ := q
    exact ⟨y, ys, rfl, b _ _ (n1 hy) hy, moves_all hyP tt⟩
theorem But.tup {K : PySem.W.Frag} {a dx : Addr} {fs : List (Str × V)} {H H' : Hp} (b : But a H H') (ha : H a = some (.ins (He.ga K "Spoiler") dx fs)) : Tups H H' := fun y xs e => b y _ (fun q => by rw [q, ha] at e; cases e) e
theorem But.lst {K : PySem.W.Frag} {a dx : Addr} {fs : List (Str × V)} {H H' : Hp} (b : But a H H') (ha : H a = some (.ins (He.ga K "Spoiler") dx fs)) {y : Addr} {l : List V} (e : H y = some (.lst l)) : H' y = some (.lst l) := b y _ (fun q => by rw [q, ha] at e; cases e) e
theorem Gm.but {w : World} {K : PySem.W.Frag} {a dx : Addr} {fs : List (Str × V)} {H H' : Hp} {lv hv : V} {rd : Addr} {LO HI : Rows} {ds : List Deed} {qs : List Pr} {ρ : Pr → Int} (g : Gm w K H lv hv rd LO HI ds qs ρ) (b : But a H H') (ha : H a = some (.ins (He.ga K "Spoiler") dx fs)) (hne : He.ga K "Web" ≠ He.ga K "Spoiler") :
    Gm w K H' lv hv rd LO HI ds qs ρ := by
  obtain ⟨o, ho⟩ := DM.at g.dm
  exact ⟨b.web ha hne g.lo, b.web ha hne g.hi, g.dm.mono (by rw [b _ _ (fun q => by rw [q, ha] at ho; cases ho) ho, ho]) (b.tup ha)⟩
section
variable {P : Program} {w : World} {K : PySem.W.Frag} {mg : Str → Option Value} {base : Heap}
def spBegin (w : World) (K : PySem.W.Frag) : Sp := fun vs H Q _ => ∃ (a dx : Addr) (pv : V) (p : Pr) (lv hv : V) (rd : Addr) (LO HI : Rows) (ds : List Deed) (qs : List Pr) (ρ : Pr → Int) (fs : List (Str × V)), vs = [.ref a, pv] ∧ H a = some (.ins (He.ga K "Spoiler") dx fs) ∧ Fsp fs lv hv rd ∧ Shp fs ∧
  PairAt H pv p ∧ Gm w K H lv hv rd LO HI ds qs ρ ∧ Gk LO HI ds qs ρ ∧ p ∈ qs ∧ 0 < ρ p ∧
  ∀ str there rep H', But a H H' → SpAt K H' a lv hv rd p str there rep → Plays LO HI qs ρ p str there rep → Q .non H'
theorem sc_Spoiler_own_begin : FnScope (["self", "pair", "at", "deed", "after"] : List Str) ["self", "pair"] (defScope s_Spoiler_own_begin) := ⟨rfl, rfl, rfl, by decide +kernel, rfl, by decide +kernel, by decide +kernel⟩
theorem ok_begin (F : TM K "own_begin" "Spoiler.own_begin" s_Spoiler_own_begin (He.ma K (He.ga K "Spoiler") "own_begin")) (T : Tx K mg) (hne : He.ga K "Web" ≠ He.ga K "Spoiler")
    (D_Spoiler_own_falling : MOk P w K mg base 5 "Spoiler" "own_falling" ["self", "pair"] (spFall w K))
    (D_Web_replies : MOk P w K mg base 4 "Web" "replies" ["self", "at", "deed"] (spReplies K)) : MOk P w K mg base 6 "Spoiler" "own_begin" ["self", "pair"] (spBegin w K) := by
  refine mok F T.c_Spoiler T.m_Spoiler_own_begin sc_Spoiler_own_begin (fun vs H Q E h => ?_) (fun _ _ _ _ _ _ us hl => match us, hl with | [_, _], _ => rfl) (fun cdv A outer s H vs Q E hr h => ?_)
  · obtain ⟨a, dx, pv, p, lv, hv, rd, LO, HI, ds, qs, ρ, fs, rfl, _⟩ := h
    rfl
  obtain ⟨a, dx, pv, p, lv, hv, rd, LO, HI, ds, qs, ρ, fs, rfl, ha, Fs, Sh, hpv, gm, gk, hpq, hρ, k⟩ := h
  obtain ⟨pa, rfl, hpa⟩ := id hpv
  obtain ⟨hpl, hph⟩ := gk.rng p hpq
  have wfH := gk.gh.wf
  have hfl : fs.length ≤ 7 := by rcases Sh with h | h; omega; exact h.1
  refine ⟨_, (pss_cons (ps_fld (pv 0) (pv 1) rfl)
    (pss_cons (ps_fld (pv 0) (pe_lst pa_nil) rfl)
    (pss_cons (ps_set (i := 2) sc_Spoiler_own_begin.nd rfl (Or.inl rfl) (pe_ix ix_tup (pv 1) pe_int (fun _ _ => rfl)))
    (pss_cons (ps_set (i := 3) sc_Spoiler_own_begin.nd rfl (Or.inl rfl) pe_non)
    (pss_cons (ps_while PassesOwn.never (PW.pt (pw_or (pt_cmpR op_isN (pv 3) pe_non (nomark _)) (pw_or1 (pt_cmpR op_eq (pe_ix ix_tup (pv 3) pe_int (fun _ _ => rfl)) pe_str (nomark _))))) (pss_cons (ps_asg (pe_m D_Spoiler_own_falling (hr.mono (by decide)) (pv 0) (pa_cons (pe_tup (pa_cons (pv 2) (pa_cons (pe_ix ix_tup (pv 1) pe_int (fun _ _ => rfl)) pa_nil))) pa_nil)) (pg_tup rfl (pgs_cons (pg_name (i := 3) sc_Spoiler_own_begin.nd rfl (Or.inl rfl)) (pgs_cons (pg_name (i := 4) sc_Spoiler_own_begin.nd rfl (Or.inl rfl)) pgs_nil))))
    (pss_cons (ps_expr (pe_bm PySem.F.plainAttrs_list PySem.F.slot_list_append PySem.F.type_list_append mt_append (pe_fld (pv 0) rfl) (pa_cons (pv 3) pa_nil)))
    (pss_one (ps_set (i := 2) sc_Spoiler_own_begin.nd rfl (Or.inl rfl) (pv 4))))))
    (pss_cons (ps_fld (pv 0) (pv 2) rfl)
    (pss_one (ps_fld (pv 0) (pe_m D_Web_replies (hr.mono (by decide)) (pe_fld (pv 0) rfl) (pa_cons (pe_ix ix_tup (pv 1) pe_int (fun _ _ => rfl)) (pa_cons (pv 3) pa_nil))) rfl)))))))), ?_⟩
  refine ⟨_, rfl, _, rfl, a, _, dx, fs, rfl, ha, T.c_Spoiler, T.n_Spoiler_own_stand, by omega, ?_⟩
  have F1 := Fs.put (f := "own_stand") (v := .ref pa) (by omega) (by decide)
  have l1 := putF_len "own_stand" (.ref pa) fs
  refine ⟨Nat.zero_le _, fun tl htl => ?_⟩
  have hta : tl ≠ a := by rintro rfl; rw [upd_same] at htl; cases htl
  refine ⟨_, rfl, a, _, dx, _, rfl, (by rw [upd_ne (Ne.symm hta), upd_same]), T.c_Spoiler, T.n_Spoiler_own_stretch, by omega, ?_⟩
  have F2 := F1.put (f := "own_stretch") (v := .ref tl) (by omega) (by decide)
  have l2 := putF_len "own_stretch" (.ref tl) (putF "own_stand" (.ref pa) fs)
  have e2 : (putF "own_stretch" (.ref tl) (putF "own_stand" (.ref pa) fs)).lookup ("own_stretch" : Str) = some (.ref tl) := by rw [lookup_putF, if_pos rfl]
  -- what stays
  generalize hH2 : upd (upd (upd H a (.ins (He.ga K "Spoiler") dx (putF "own_stand" (.ref pa) fs))) tl (.lst [])) a (.ins (He.ga K "Spoiler") dx (putF "own_stretch" (.ref tl) (putF "own_stand" (.ref pa) fs))) = H2
  have htl0 : H tl = none := upd_nil htl
  have b2 : But a H H2 := fun b u hb e => by
    rw [← hH2, upd_ne hb, upd_ne (by rintro rfl; rw [htl0] at e; cases e), upd_ne hb]
    exact e
  have hpa2 : H2 pa = some (.tup [.int p.1, .int p.2]) := b2 _ _ (by rintro rfl; rw [ha] at hpa; cases hpa) hpa
  refine ⟨_, rfl, pa, _, 0, _, rfl, rfl, SqT.of hpa2, rfl, ?_⟩
  have ha2 : H2 a = some (.ins (He.ga K "Spoiler") dx (putF "own_stretch" (.ref tl) (putF "own_stand" (.ref pa) fs))) := by rw [← hH2, upd_same]
  have ht2 : H2 tl = some (.lst []) := by
    rw [← hH2, upd_ne hta, upd_same]
  clear hH2
  have es2 : (putF "own_stretch" (.ref tl) (putF "own_stand" (.ref pa) fs)).lookup ("own_stand" : Str) = some (.ref pa) := by rw [lookup_putF, if_neg (by decide), lookup_putF, if_pos rfl]
  have shp4 : ∀ c d, Shp (putF "own_replies" d (putF "own_there" c (putF "own_stretch" (.ref tl) (putF "own_stand" (.ref pa) fs)))) := fun c d => by
    refine .inr ⟨shp_four Sh _ _ _ _, ?_, ?_, ?_, ?_⟩
    · rw [lookup_putF, if_neg (by decide), lookup_putF, if_neg (by decide), es2]
      exact fun e => by cases e
    · rw [lookup_putF, if_neg (by decide), lookup_putF, if_neg (by decide), e2]
      exact fun e => by cases e
    · rw [lookup_putF, if_neg (by decide), lookup_putF, if_pos rfl]
      exact fun e => by cases e
    · rw [lookup_putF, if_pos rfl]
      exact fun e => by cases e
  generalize putF "own_stretch" (.ref tl) (putF "own_stand" (.ref pa) fs) = fs2 at ha2 F2 l2 e2 es2 shp4
  have l2 : fs2.length ≤ 9 := by omega
  have hρq := (gk.R.rng p hpq).2
  have hq9 := gk.q9
  refine ⟨fun m σ H1 => ∃ (cur : Int) (dv : V) (o4 : Option V) (str : List Deed) (tvs : List V), σ = [some (.ref a), some (.ref pa), some (.int cur), some dv, o4] ∧ But a H H1 ∧ H1 a = some (.ins (He.ga K "Spoiler") dx fs2) ∧ H1 tl = some (.lst tvs) ∧ Paired (DeedAt H1) tvs str ∧
      Chain LO p.1 str cur ∧ (∀ (k : Nat) (d : Deed), str[k]? = some d → k + 1 < str.length → hid d = true) ∧ str.length ≤ 1000 ∧
      (((str = [] ∧ dv = .non ∨ ∃ d, str.getLast? = some d ∧ DeedAt H1 dv d ∧ hid d = true) ∧ (cur, p.2) ∈ qs ∧ 0 < ρ (cur, p.2) ∧ ρ (cur, p.2) + (str.length : Nat) ≤ ρ p ∧ m = (ρ (cur, p.2)).toNat) ∨
       (∃ d, str.getLast? = some d ∧ DeedAt H1 dv d ∧ hid d = false ∧ m = 0 ∧ ∀ r ∈ reps hid HI p.2 d, (cur, r) ∈ qs ∧ 0 < ρ (cur, r) ∧ ρ (cur, r) < ρ p)),
    ⟨_, p.1, .non, none, [], [], rfl, b2, ha2, ht2, .nil, .nil, fun k d e => by simp at e, by simp, .inl ⟨.inl ⟨rfl, rfl⟩, hpq, hρ, by simp, rfl⟩⟩, ?_⟩
  rintro m σ H1 ⟨cur, dv, o4, str, tvs, rfl, b1, ha1, ht1, hP1, hch, hhid, hsl, hcase⟩
  have hlen := paired_len hP1
  have gm1 := gm.but b1 ha hne
  have hpa1 := b1.tup ha _ _ hpa
  -- the next step, where it goes on
  have go : ((str = [] ∧ dv = .non ∨ ∃ d, str.getLast? = some d ∧ DeedAt H1 dv d ∧ hid d = true) ∧ (cur, p.2) ∈ qs ∧ 0 < ρ (cur, p.2) ∧ ρ (cur, p.2) + (str.length : Nat) ≤ ρ p ∧ m = (ρ (cur, p.2)).toNat) →
      ∃ N : L2.St → Hp → Prop, (∀ σ' H', N σ' H' → ∃ m', m' < m ∧ ∃ (cur : Int) (dv : V) (o4 : Option V) (str : List Deed) (tvs : List V), σ' = [some (.ref a), some (.ref pa), some (.int cur), some dv, o4] ∧ But a H H' ∧ H' a = some (.ins (He.ga K "Spoiler") dx fs2) ∧ H' tl = some (.lst tvs) ∧ Paired (DeedAt H') tvs str ∧
        Chain LO p.1 str cur ∧ (∀ (k : Nat) (d : Deed), str[k]? = some d → k + 1 < str.length → hid d = true) ∧ str.length ≤ 1000 ∧
        (((str = [] ∧ dv = .non ∨ ∃ d, str.getLast? = some d ∧ DeedAt H' dv d ∧ hid d = true) ∧ (cur, p.2) ∈ qs ∧ 0 < ρ (cur, p.2) ∧ ρ (cur, p.2) + (str.length : Nat) ≤ ρ p ∧ m' = (ρ (cur, p.2)).toNat) ∨
         (∃ d, str.getLast? = some d ∧ DeedAt H' dv d ∧ hid d = false ∧ m' = 0 ∧ ∀ r ∈ reps hid HI p.2 d, (cur, r) ∈ qs ∧ 0 < ρ (cur, r) ∧ ρ (cur, r) < ρ p))) ∧
      ∀ (D : Ends), D.nx = N → tSeq (tAsg (tMeth (He.ga K "Spoiler") "own_falling" (spFall w K) [] E0 (tVar 0) (tCons (tTup (tCons (tVar 2) (tCons (tOp (rIxT K) (tVar 1) (tC (.int 1))) tNil))) tNil)) (gTup K 2 (gCons (gName 3) (gCons (gName 4) gNil))))
        (tSeq (tDrop (tBM K "list" rAppend (tFld K (tVar 0) "own_stretch") (tCons (tVar 3) tNil))) (tAsg (tVar 4) (gName 2))) D [some (.ref a), some (.ref pa), some (.int cur), some dv, o4] H1 := by
    rintro ⟨hdv, hcq, hc0, hcl, rfl⟩
    refine ⟨_, fun _ _ h => h, fun D hD => ?_⟩
    refine ⟨_, rfl, a, dx, fs2, rfl, ha1, F2.nf, _, rfl, _, rfl, pa, _, 1, _, rfl, rfl, SqT.of hpa1, rfl, szk 2 rfl, fun t ht => ?_⟩
    have s3 := Same.new1 (o := .tup [V.int cur, V.int p.2]) ht
    refine ⟨a, dx, .ref t, (cur, p.2), lv, hv, rd, LO, HI, ds, qs, ρ, fs2, rfl, s3 _ _ ha1, F2.low, F2.high, F2.rounds, ⟨t, rfl, upd_same⟩, gm1.mono s3, gk, hcq, hc0, fun mv v H3 hmr hfall s4 hmv => ?_⟩
    have s34 := s3.trans s4
    obtain ⟨tm, u, rfl, htm, hda⟩ := hmv
    obtain ⟨z, rfl, hz⟩ := id hda
    have ha3 := s34 _ _ ha1
    have ht3 := s34 _ _ ht1
    have hml : leadM HI p.2 mv ∈ leadF LO HI (cur, p.2) := List.mem_map_of_mem hmr
    have hmq : ∀ x ∈ leadM HI p.2 mv, x ∈ qs := gk.L.cl _ hcq _ hml
    refine ⟨tm, _, rfl, SqT.of htm, rfl, _, _, rfl, _, _, rfl, rfl, ?_⟩
    refine ⟨_, rfl, a, _, dx, fs2, _, rfl, ha3, T.c_Spoiler, T.n_Spoiler_own_stretch, e2, tyL ht3, _, rfl, tl, _, _, rfl, rfl, ht3, szLt (by omega), _, rfl, ?_⟩
    rw [hD]
    have tt : Tups H3 (upd H3 tl (.lst (tvs ++ [.ref z]))) := Tups.upd (not_tup ht3)
    have b3 : But a H (upd H3 tl (.lst (tvs ++ [.ref z]))) := fun b u hb e => by
      rw [upd_ne (by rintro rfl; rw [htl0] at e; cases e)]
      exact s34 _ _ (b1 b u hb e)
    have hh' : ∀ (k : Nat) (d : Deed), (str ++ [mv.1])[k]? = some d → k + 1 < (str ++ [mv.1]).length → hid d = true := fun k d e hk => by
      rw [List.length_append, List.length_singleton] at hk
      have hk2 : k < str.length := by omega
      rw [List.getElem?_append_left hk2] at e
      by_cases hk3 : k + 1 < str.length
      · exact hhid k d e hk3
      · rcases hdv with ⟨rfl, _⟩ | ⟨d', hd', _, hh⟩
        · exact absurd hk2 (Nat.not_lt_zero _)
        · rw [List.getLast?_eq_getElem?, show str.length - 1 = k by omega, e] at hd'
          rw [Option.some.inj hd']
          exact hh
    have hl' : (str ++ [mv.1]).length ≤ 1000 := by
      rw [List.length_append, List.length_singleton]
      omega
    have common : ∀ m', (((str ++ [mv.1] = [] ∧ V.ref z = .non ∨ ∃ d, (str ++ [mv.1]).getLast? = some d ∧ DeedAt (upd H3 tl (.lst (tvs ++ [.ref z]))) (.ref z) d ∧ hid d = true) ∧ (mv.2, p.2) ∈ qs ∧ 0 < ρ (mv.2, p.2) ∧ ρ (mv.2, p.2) + ((str ++ [mv.1]).length : Nat) ≤ ρ p ∧ m' = (ρ (mv.2, p.2)).toNat) ∨
         (∃ d, (str ++ [mv.1]).getLast? = some d ∧ DeedAt (upd H3 tl (.lst (tvs ++ [.ref z]))) (.ref z) d ∧ hid d = false ∧ m' = 0 ∧ ∀ r ∈ reps hid HI p.2 d, (mv.2, r) ∈ qs ∧ 0 < ρ (mv.2, r) ∧ ρ (mv.2, r) < ρ p)) → m' < (ρ (cur, p.2)).toNat →
        ∃ m', m' < (ρ (cur, p.2)).toNat ∧ ∃ (cur : Int) (dv : V) (o4 : Option V) (str : List Deed) (tvs' : List V), [some (.ref a), some (.ref pa), some (.int mv.2), some (.ref z), some (.int mv.2)] = [some (.ref a), some (.ref pa), some (.int cur), some dv, o4] ∧ But a H (upd H3 tl (.lst (tvs ++ [.ref z]))) ∧ (upd H3 tl (.lst (tvs ++ [.ref z]))) a = some (.ins (He.ga K "Spoiler") dx fs2) ∧ (upd H3 tl (.lst (tvs ++ [.ref z]))) tl = some (.lst tvs') ∧ Paired (DeedAt (upd H3 tl (.lst (tvs ++ [.ref z])))) tvs' str ∧
        Chain LO p.1 str cur ∧ (∀ (k : Nat) (d : Deed), str[k]? = some d → k + 1 < str.length → hid d = true) ∧ str.length ≤ 1000 ∧
        (((str = [] ∧ dv = .non ∨ ∃ d, str.getLast? = some d ∧ DeedAt (upd H3 tl (.lst (tvs ++ [.ref z]))) dv d ∧ hid d = true) ∧ (cur, p.2) ∈ qs ∧ 0 < ρ (cur, p.2) ∧ ρ (cur, p.2) + (str.length : Nat) ≤ ρ p ∧ m' = (ρ (cur, p.2)).toNat) ∨
         (∃ d, str.getLast? = some d ∧ DeedAt (upd H3 tl (.lst (tvs ++ [.ref z]))) dv d ∧ hid d = false ∧ m' = 0 ∧ ∀ r ∈ reps hid HI p.2 d, (cur, r) ∈ qs ∧ 0 < ρ (cur, r) ∧ ρ (cur, r) < ρ p)) := fun m' h1 h2 =>
      ⟨m', h2, mv.2, .ref z, _, str ++ [mv.1], tvs ++ [.ref z], rfl, b3, by rw [upd_ne (Ne.symm hta)]; exact ha3, upd_same, paired_snoc (deeds_all (deeds_all hP1 (Tups.same s34)) tt) (hda.mono tt), hch.snoc hmr, hh', hl', h1⟩
    cases hh : hid mv.1 with
    | true =>
      have hlm : leadM HI p.2 mv = [(mv.2, p.2)] := by unfold leadM; rw [if_pos hh]
      obtain ⟨f1, f2⟩ := hfall (mv.2, p.2) (by rw [hlm]; exact List.mem_singleton.mpr rfl)
      refine common (ρ (mv.2, p.2)).toNat (.inl ⟨.inr ⟨mv.1, by simp, hda.mono tt, hh⟩, hmq _ (by rw [hlm]; exact List.mem_singleton.mpr rfl), f1, ?_, rfl⟩) (by omega)
      rw [List.length_append, List.length_singleton]
      omega
    | false =>
      have hlm : leadM HI p.2 mv = (reps hid HI p.2 mv.1).map fun r => (mv.2, r) := by unfold leadM; rw [if_neg (by rw [hh]; decide)]
      refine common 0 (.inr ⟨mv.1, by simp, hda.mono tt, hh, rfl, fun r hr => ?_⟩) (by omega)
      have hx : (mv.2, r) ∈ leadM HI p.2 mv := by rw [hlm]; exact List.mem_map_of_mem hr
      obtain ⟨f1, f2⟩ := hfall _ hx
      have f2 : ρ (mv.2, r) < ρ (cur, p.2) := f2
      exact ⟨hmq _ hx, f1, by omega⟩
  rcases hcase with op | ⟨d, hd, hda, hh, rfl, hnear⟩
  · rcases op.1 with ⟨rfl, rfl⟩ | ⟨d, hd, hda, hh⟩
    · obtain ⟨N, h1, h2⟩ := go op
      refine ⟨_, rfl, rfl, _, rfl, iteT (iteT ⟨N, h1, h2 _ rfl⟩)⟩
    · obtain ⟨N, h1, h2⟩ := go op
      obtain ⟨z, rfl, hz⟩ := id hda
      refine ⟨_, rfl, rfl, _, rfl, iteF ⟨_, rfl, z, _, 1, _, rfl, rfl, SqT.of hz, rfl, rfl, _, rfl, ?_⟩⟩
      rw [← hid_eq, hh]
      exact iteT ⟨N, h1, h2 _ rfl⟩
  · obtain ⟨z, rfl, hz⟩ := id hda
    refine ⟨_, rfl, rfl, _, rfl, iteF ⟨_, rfl, z, _, 1, _, rfl, rfl, SqT.of hz, rfl, rfl, _, rfl, ?_⟩⟩
    rw [← hid_eq, hh]
    refine iteF ?_
    -- the end
    have hdm : d ∈ ds ∧ DeedOk d := by
      have : d ∈ str := List.mem_of_getLast? hd
      have key : ∀ {str : List Deed} {cur : Int}, Chain LO p.1 str cur → ∀ d ∈ str, d ∈ ds := by
        intro str cur h
        induction h with
        | nil => intro d hd; exact absurd hd List.not_mem_nil
        | snoc _ hr ih =>
          intro d hd
          rw [List.mem_append, List.mem_singleton] at hd
          rcases hd with hd | rfl
          · exact ih d hd
          · obtain ⟨ms, h1, h2⟩ := CM.row_mem hr
            exact ((gk.gl.gd ms h1).2 _ h2).1
      have h1 := key hch d this
      exact ⟨h1, gk.menu.ok d h1⟩
    refine ⟨_, rfl, _, rfl, a, _, dx, fs2, rfl, ha1, T.c_Spoiler, T.n_Spoiler_own_there, by omega, ?_⟩
    have F3 := F2.put (f := "own_there") (v := .int cur) (by omega) (by decide)
    have l3 := putF_len "own_there" (.int cur) fs2
    have b3 : But a H1 (upd H1 a (.ins (He.ga K "Spoiler") dx (putF "own_there" (.int cur) fs2))) := fun b u hb e => by rw [upd_ne hb]; exact e
    have ha3 : (upd H1 a (.ins (He.ga K "Spoiler") dx (putF "own_there" (.int cur) fs2))) a = some (.ins (He.ga K "Spoiler") dx (putF "own_there" (.int cur) fs2)) := upd_same
    have gm3 := gm1.but b3 ha1 hne
    have hpa3 := b3.tup ha1 _ _ hpa1
    have hda3 := hda.mono (b3.tup ha1)
    have ht3 := b3.lst ha1 ht1
    have hP3 := deeds_all hP1 (b3.tup ha1)
    generalize (upd H1 a (.ins (He.ga K "Spoiler") dx (putF "own_there" (.int cur) fs2))) = H3 at b3 ha3 gm3 hpa3 hda3 ht3 hP3
    obtain ⟨hha, hdx, hr', rfl, hhi, _⟩ := id gm3.hi
    refine ⟨_, rfl, a, _, dx, _, _, rfl, ha3, T.c_Spoiler, T.n_Spoiler_own_high, F3.high, hha, hdx, _, rfl, hhi, rfl, _, rfl, pa, _, 1, _, rfl, rfl, SqT.of hpa3, rfl, _, rfl, .ref hha, HI, p.2, .ref z, d, rfl, gm3.hi, wfH, by have := gk.h40; omega, gk.gh.ok gk.menu, hph, hda3, hdm.2, hh, fun q H4 hq s4 hq4 => ?_⟩
    have ha4 := s4 _ _ ha3
    refine ⟨_, rfl, a, _, dx, _, rfl, ha4, T.c_Spoiler, T.n_Spoiler_own_replies, by omega, ?_⟩
    have F4 := F3.put (f := "own_replies") (v := .ref q) (by omega) (by decide)
    have b4 : But a H4 (upd H4 a (.ins (He.ga K "Spoiler") dx (putF "own_replies" (.ref q) (putF "own_there" (.int cur) fs2)))) := fun b u hb e => by rw [upd_ne hb]; exact e
    refine k str cur (reps hid HI p.2 d) _ (fun b u hb e => b4 b u hb (s4 _ _ (b3 b u hb (b1 b u hb e)))) ⟨dx, _, .ref pa, tl, q, tvs, upd_same, F4, shp4 _ _, ?_, ⟨pa, rfl, b4.tup ha4 _ _ (s4 _ _ hpa3)⟩, ?_, b4.lst ha4 (s4 _ _ ht3), deeds_all (deeds_all hP3 (Tups.same s4)) (b4.tup ha4), ?_, ?_, b4.lst ha4 hq4⟩ ⟨hch, fun k d' e => ?_, ⟨d, hd, rfl⟩, hnear, hsl⟩
    · rw [lookup_putF, if_neg (by decide), lookup_putF, if_neg (by decide)]
      exact es2
    · rw [lookup_putF, if_neg (by decide), lookup_putF, if_neg (by decide)]
      exact e2
    · rw [lookup_putF, if_neg (by decide), lookup_putF, if_pos rfl]
    · rw [lookup_putF, if_pos rfl]
    · have hk := (List.getElem?_eq_some_iff.mp e).1
      by_cases hk2 : k + 1 < str.length
      · rw [hhid k d' e hk2, decide_eq_true hk2]
      · rw [List.getLast?_eq_getElem?, show str.length - 1 = k by omega, e] at hd
        rw [Option.some.inj hd, hh, decide_eq_false hk2]
end
end Ct
/-! Spoiler: __init__, stand, stretch, won. -/
namespace Ct
open PySem PySem.Spec PyProof.Rows L2 Nd
open CM (InR Wf Qt Rep row reps Leads)
section
variable {P : Program} {w : World} {K : PySem.W.Frag} {mg : Str → Option Value} {base : Heap}
def spStand (K : PySem.W.Frag) : Sp := fun vs H Q _ => ∃ a lv hv rd p str there rep, vs = [.ref a] ∧ SpAt K H a lv hv rd p str there rep ∧ ∀ v, PairAt H v p → Q v H
theorem sc_Spoiler_stand : FnScope (["self"] : List Str) ["self"] (defScope s_Spoiler_stand) := ⟨rfl, rfl, rfl, by decide +kernel, rfl, by decide +kernel, by decide +kernel⟩
theorem ok_stand (T : Tx K mg) : POk P w K mg base 1 "Spoiler" "stand" (spStand K) := by
  refine pok T.p_Spoiler_stand T.c_Spoiler sc_Spoiler_stand (fun vs H Q E h => ?_) (fun _ _ _ _ _ _ us hl => match us, hl with | [_], _ => rfl) (fun f cdv A outer s H vs Q E hr h => ?_)
  · obtain ⟨a, lv, hv, rd, p, str, there, rep, rfl, _⟩ := h
    rfl
  obtain ⟨a, lv, hv, rd, p, str, there, rep, rfl, sp, k⟩ := h
  obtain ⟨dx, fs, sv, tl, rl, tvs, h1, h2, h3, h4, h5, h6, h7, h8, h9, h10, h11⟩ := sp.ex
  refine ⟨_, (pss_one (ps_ret (pe_fld (pv 0) rfl))), ?_⟩
  exact ⟨_, rfl, a, _, dx, fs, _, rfl, h1, T.c_Spoiler, T.n_Spoiler_own_stand, h4, k sv h5⟩
def spStretch (K : PySem.W.Frag) : Sp := fun vs H Q _ => ∃ a lv hv rd p str there rep, vs = [.ref a] ∧ SpAt K H a lv hv rd p str there rep ∧ ∀ q tvs H', H q = none → Same H H' → H' q = some (.lst tvs) → Paired (DeedAt H') tvs str → Q (.ref q) H'
theorem sc_Spoiler_stretch : FnScope (["self"] : List Str) ["self"] (defScope s_Spoiler_stretch) := ⟨rfl, rfl, rfl, by decide +kernel, rfl, by decide +kernel, by decide +kernel⟩
theorem ok_stretch (T : Tx K mg) : POk P w K mg base 1 "Spoiler" "stretch" (spStretch K) := by
  refine pok T.p_Spoiler_stretch T.c_Spoiler sc_Spoiler_stretch (fun vs H Q E h => ?_) (fun _ _ _ _ _ _ us hl => match us, hl with | [_], _ => rfl) (fun f cdv A outer s H vs Q E hr h => ?_)
  · obtain ⟨a, lv, hv, rd, p, str, there, rep, rfl, _⟩ := h
    rfl
  obtain ⟨a, lv, hv, rd, p, str, there, rep, rfl, sp, k⟩ := h
  obtain ⟨dx, fs, sv, tl, rl, tvs, h1, h2, h3, h4, h5, h6, h7, h8, h9, h10, h11⟩ := sp.ex
  refine ⟨_, (pss_one (ps_ret (pe_callTy call_list_of (by rfl) T.f_list (by decide +kernel) (pa_cons (pe_fld (pv 0) rfl) pa_nil)))), ?_⟩
  refine ⟨_, rfl, a, _, dx, fs, _, rfl, h1, T.c_Spoiler, T.n_Spoiler_own_stretch, h6, tl, _, rfl, .inl (SqL.of h7), fun q hq => ?_⟩
  have s1 := Same.new1 (o := .lst tvs) hq
  exact k q tvs _ hq s1 upd_same (deeds_all h8 (Tups.same s1))
def spWon (K : PySem.W.Frag) : Sp := fun vs H Q _ => ∃ a lv hv rd p str there rep, vs = [.ref a] ∧ SpAt K H a lv hv rd p str there rep ∧ Q (.bl (decide (rep.length = 0))) H
theorem sc_Spoiler_won : FnScope (["self"] : List Str) ["self"] (defScope s_Spoiler_won) := ⟨rfl, rfl, rfl, by decide +kernel, rfl, by decide +kernel, by decide +kernel⟩
theorem ok_won (T : Tx K mg) : POk P w K mg base 1 "Spoiler" "won" (spWon K) := by
  refine pok T.p_Spoiler_won T.c_Spoiler sc_Spoiler_won (fun vs H Q E h => ?_) (fun _ _ _ _ _ _ us hl => match us, hl with | [_], _ => rfl) (fun f cdv A outer s H vs Q E hr h => ?_)
  · obtain ⟨a, lv, hv, rd, p, str, there, rep, rfl, _⟩ := h
    rfl
  obtain ⟨a, lv, hv, rd, p, str, there, rep, rfl, sp, k⟩ := h
  obtain ⟨dx, fs, sv, tl, rl, tvs, h1, h2, h3, h4, h5, h6, h7, h8, h9, h10, h11⟩ := sp.ex
  refine ⟨_, (pss_one (ps_ret (pe_cmpR op_eq (pe_callB call_len_seq (by rfl) T.f_len (by decide +kernel) (pa_cons (pe_fld (pv 0) rfl) pa_nil)) pe_int (nomark _)))), ?_⟩
  refine ⟨_, rfl, a, _, dx, fs, _, rfl, h1, T.c_Spoiler, T.n_Spoiler_own_replies, h10, rl, _, rfl, .inl (SqL.of h11), rfl, ?_⟩
  have e : decide (V.int (((rep.map V.int).length : Nat) : Int) = V.int 0) = decide (rep.length = 0) := decide_eq_decide.mpr (by rw [V.int.injEq, List.length_map]; omega)
  rw [e]
  exact k
def spSpInit (w : World) (K : PySem.W.Frag) : Sp := fun vs H Q _ => ∃ (a dx : Addr) (lv hv : V) (rd : Addr) (LO HI : Rows) (ds : List Deed) (qs : List Pr) (ρ : Pr → Int), vs = [.ref a, lv, hv, .ref rd] ∧ H a = some (.ins (He.ga K "Spoiler") dx []) ∧
  Gm w K H lv hv rd LO HI ds qs ρ ∧ Gk LO HI ds qs ρ ∧ (0, 0) ∈ qs ∧ 0 < ρ (0, 0) ∧
  ∀ str there rep H', But a H H' → SpAt K H' a lv hv rd (0, 0) str there rep → Plays LO HI qs ρ (0, 0) str there rep → Q .non H'
theorem sc_Spoiler_init : FnScope (["self", "low", "high", "rounds"] : List Str) ["self", "low", "high", "rounds"] (defScope s_Spoiler_init) := ⟨rfl, rfl, rfl, by decide +kernel, rfl, by decide +kernel, by decide +kernel⟩
theorem ok_spInit (F : TM K "__init__" "Spoiler.__init__" s_Spoiler_init (He.ma K (He.ga K "Spoiler") "__init__")) (T : Tx K mg) (hne : He.ga K "Web" ≠ He.ga K "Spoiler")
    (D_Spoiler_own_begin : MOk P w K mg base 6 "Spoiler" "own_begin" ["self", "pair"] (spBegin w K)) : KOk P w K mg base 7 "Spoiler" ["self", "low", "high", "rounds"] (spSpInit w K) := by
  refine kok F T.mk_Spoiler T.g_Spoiler sc_Spoiler_init (fun vs H Q E h => ?_) (fun _ _ _ _ _ _ us hl => match us, hl with | [_, _, _, _], _ => rfl) (fun cdv A outer s H vs Q E hr h => ?_)
  · obtain ⟨a, dx, lv, hv, rd, LO, HI, ds, qs, ρ, rfl, _⟩ := h
    rfl
  obtain ⟨a, dx, lv, hv, rd, LO, HI, ds, qs, ρ, rfl, ha, gm, gk, hz, hρ, k⟩ := h
  refine ⟨_, (pss_cons (ps_fld (pv 0) (pv 1) rfl)
    (pss_cons (ps_fld (pv 0) (pv 2) rfl)
    (pss_cons (ps_fld (pv 0) (pv 3) rfl)
    (pss_one (ps_expr (pe_m D_Spoiler_own_begin (hr.mono (by decide)) (pv 0) (pa_cons (pe_tup (pa_cons pe_int (pa_cons pe_int pa_nil))) pa_nil))))))), ?_⟩
  refine ⟨_, rfl, _, rfl, a, _, dx, [], rfl, ha, T.c_Spoiler, T.n_Spoiler_own_low, by decide, ?_⟩
  refine ⟨_, rfl, _, rfl, a, _, dx, _, rfl, upd_same, T.c_Spoiler, T.n_Spoiler_own_high, ?_, ?_⟩
  · have := putF_len "own_low" lv []
    simp only [List.length_nil] at this
    omega
  have l2 : (putF "own_high" hv (putF "own_low" lv [])).length ≤ 2 := by
    have h1 := putF_len "own_low" lv []
    have h2 := putF_len "own_high" hv (putF "own_low" lv [])
    simp only [List.length_nil] at h1
    omega
  refine ⟨_, rfl, _, rfl, a, _, dx, _, rfl, upd_same, T.c_Spoiler, T.n_Spoiler_own_rounds, by omega, ?_⟩
  have l3 := putF_len "own_rounds" (.ref rd) (putF "own_high" hv (putF "own_low" lv []))
  rw [upd_upd, upd_upd]
  have b1 : But a H (upd H a (.ins (He.ga K "Spoiler") dx (putF "own_rounds" (.ref rd) (putF "own_high" hv (putF "own_low" lv []))))) := fun b u hb e => by rw [upd_ne hb]; exact e
  have Fs : Fsp (putF "own_rounds" (.ref rd) (putF "own_high" hv (putF "own_low" lv []))) lv hv rd := by
    refine ⟨?_, ?_, ?_, ?_, ?_, by omega⟩
    · rw [lookup_putF, if_neg (by decide), lookup_putF, if_neg (by decide), lookup_putF, if_pos rfl]
    · rw [lookup_putF, if_neg (by decide), lookup_putF, if_pos rfl]
    · rw [lookup_putF, if_pos rfl]
    · rw [lookup_putF, if_neg (by decide), lookup_putF, if_neg (by decide), lookup_putF, if_neg (by decide)]
      rfl
    · rw [lookup_putF, if_neg (by decide), lookup_putF, if_neg (by decide), lookup_putF, if_neg (by decide)]
      rfl
  have Sh : Shp (putF "own_rounds" (.ref rd) (putF "own_high" hv (putF "own_low" lv []))) := .inl (by omega)
  have gm1 := gm.but b1 ha hne
  have ha1 : (upd H a (.ins (He.ga K "Spoiler") dx (putF "own_rounds" (.ref rd) (putF "own_high" hv (putF "own_low" lv []))))) a = some (.ins (He.ga K "Spoiler") dx (putF "own_rounds" (.ref rd) (putF "own_high" hv (putF "own_low" lv [])))) := upd_same
  generalize (upd H a (.ins (He.ga K "Spoiler") dx (putF "own_rounds" (.ref rd) (putF "own_high" hv (putF "own_low" lv []))))) = H1 at b1 gm1 ha1
  refine ⟨_, rfl, a, dx, _, rfl, ha1, Fs.nb, szk 2 rfl, fun t ht => ?_⟩
  have s2 := Same.new1 (o := .tup [V.int 0, V.int 0]) ht
  refine ⟨a, dx, .ref t, (0, 0), lv, hv, rd, LO, HI, ds, qs, ρ, _, rfl, s2 _ _ ha1, Fs, Sh, ⟨t, rfl, upd_same⟩, gm1.mono s2, gk, hz, hρ, fun str there rep H' b2 sp pl => ?_⟩
  exact k str there rep H' (fun b u hb e => b2 b u hb (s2 _ _ (b1 b u hb e))) sp pl
end
end Ct
/-! {k: v for ..} with tuple keys; o.f as a target within a tuple. The walk of the block follows the hand layer's own dict comprehension, with this kind of dict in its place. -/
namespace Nd
open PySem PySem.Spec PyProof.Rows L2
def gAt (K : PySem.W.Frag) (ta : TE) (f : Str) : TG := fun v σ H Q => ta σ H fun x H1 => ∃ a C dx fs, x = .ref a ∧ H1 a = some (.ins C dx fs) ∧ Cls K C ∧ NoAttr K C f ∧ fs.length < 1000 ∧ Q σ (upd H1 a (.ins C dx (putF f v fs)))
section
variable {X : Cx} {o : Expr} {f : Str} {ta : TE} {pos : Pos}
theorem pg_at (ho : PE X o ta) : PG X (.Attribute o f pos) (gAt X.K ta f) := by
  refine ⟨fun pn s σ H v u Q I r h => ?_⟩
  rw [assign_Attribute]
  refine wpAny_bind (wpAny_holding (thn (ho.run pn s σ H _ I h) fun ov s1 ⟨x, H1, I1, wx, a, C, dx, fs, ex, ea, c, n, l, q⟩ => ?_))
  subst ex
  obtain rfl : ov = Value.ref a := wx
  refine wpAny_bind (wpAny_standAt (wpAny_bind (wpAny_holding (setattr_ok I1 ea c n l r fun s2 I2 => ?_))))
  exact wpAny_release ⟨σ, _, I2, q⟩
end
section
variable {X : Cx} {pn : List (Addr × Obj)} {σ : L2.St} {H : Hp} {s : Shared} {a b : Addr} {kvs : List (NK × V)} {k : NK} {v : V} {r : Value}
theorem n_store {Q : Unit → Shared → Prop} {E : Value → Shared → Prop} (hu : X.A.units + 9 < cLine) (I : Inv X pn σ H s) (g : ND X.w H a kvs) (hk : KeyAt H (.ref b) k) (hdz : k.depth ≤ 8) (hz : kvs.length < sizeLine) (rv : RelV v r)
    (h : ∀ o' s', Inv X pn σ (upd H a (dob a o')) s' → ND X.w (upd H a (dob a o')) a (putK kvs k v) → Q () s') : wpAny (model X.prog X.w) X.A (dictSet a (.ref b) r) Q E s := by
  obtain ⟨o, x⟩ := g
  obtain ⟨xs, dd, pr⟩ := x.dict (P := X.prog) I.hok
  have hl : kvs.length = xs.length := Paired.length pr
  have room : (nestedKind X.prog X.w).room X.A := by
    show X.A.units + 8 < cLine
    omega
  refine wpAny_dictSet_heap (hsz := by omega) room (is_of I.hok hk hdz) dd fun h' dz' hsz => ?_
  obtain ⟨q, es, ep, hq, h2, h3, h4, _, h5⟩ := dz'
  have mu : L2.Mut (H a) := by rw [x.at_]; exact True.intro
  have I1 : Inv X pn σ (upd H a (dob a q)) { s with heap := h', toks := s.toks + (nestedKind X.prog X.w).draws k } :=
    I.write (x := a) (e := a) mu (.inl rfl) (fun b q hb z => (hsz.2 b hb).trans z) ⟨q, hq⟩ (dob_ok hq)
  have tp : Tups H (upd H a (dob a q)) := Tups.upd fun ys z => by rw [x.at_] at z; cases z
  refine h q _ I1 ⟨q, upd_same, x.ns, ?_, h2, _, es, ep, h3, h4, h5, Paired.mapP (store_of pr hk hdz rv) fun p q z => ⟨z.1, ⟨z.2.1.1.mono tp, z.2.1.2⟩, z.2.2⟩⟩
  have := length_putK kvs k v
  omega
end
/-- {k: v for target in iter if ..}: De the new dict -/
def tDcN (w : World) (wi : TI) (g : TG) (tt : TT) (tk tv : TE) (vs : List Nat) : TE := fun σ H Q => wi σ H fun J H1 => ∀ De oD, H1 De = none → NDat w (upd H1 De (dob De oD)) De oD [] → ∃ W : Nat → Nat → Hp → Prop, (∃ m, W 0 m (upd H1 De (dob De oD))) ∧ ∀ i m H, W i m H →
  (J.stop i H ∧ Q (.ref De) H) ∨ (J.go i H ∧ ∃ Nz : Hp → Prop, (∀ H', Nz H' → ∃ m', m' < m ∧ W (i + 1) m' H') ∧ ∀ x H', J.yld i H x H' → g x (wipe σ vs) H' fun σ2 H2 => wipe σ2 vs = wipe σ vs ∧ tt σ2 H2 fun b H3 =>
    if b = true then tk σ2 H3 fun y H4 => tv σ2 H4 fun z H5 => ∃ kvs k, ND w H5 De kvs ∧ IsK H5 y k ∧ kvs.length < sizeLine ∧ ∀ o', ND w (upd H5 De (dob De o')) De (putK kvs k z) → Nz (upd H5 De (dob De o')) else Nz H3)
section
variable {X : Cx}
theorem pe_dcN {kx vx tg iter : Expr} {ifs : List Expr} {scope : Scope} {own : List (Str × Nat)} {pos : Pos} {wi : TI} {g : TG} {tt : TT} {tk tv : TE} (hu : X.A.units + 9 < cLine) (hc : X.calm = true) (hN : X.N.Nodup) (hi : PI X tg iter wi) (ok : BlkOk X.N X.env.scope scope own)
    (pg : ∀ (s : Shared) (H : Hp) (C : Addr) (cl : List (Str × Addr)) (fp : List Addr), PG (X.blk s H scope (compEnvC scope cl C X.env) fp) tg g)
    (pt : ∀ (s : Shared) (H : Hp) (C : Addr) (cl : List (Str × Addr)) (fp : List Addr), PTs (X.blk s H scope (compEnvC scope cl C X.env) fp) ifs tt)
    (pk : ∀ (s : Shared) (H : Hp) (C : Addr) (cl : List (Str × Addr)) (fp : List Addr), PE (X.blk s H scope (compEnvC scope cl C X.env) fp) kx tk)
    (pv : ∀ (s : Shared) (H : Hp) (C : Addr) (cl : List (Str × Addr)) (fp : List Addr), PE (X.blk s H scope (compEnvC scope cl C X.env) fp) vx tv) (hsz : ∀ x, foldedSetIterable iter X.env x = pure x := by intro _; rfl) :
    PE X (.DictComp kx vx [⟨tg, iter, ifs, 0⟩] scope pos) (tDcN X.w wi g tt tk tv (own.map (·.2))) := by
  refine ⟨fun pn st σ H Q I h => ?_⟩
  rw [arm_eval_DictComp]
  have free : ∀ y ∈ scope.names, y.2 = .free → ∃ c, X.env.cells.lookup y.1 = some c := fun y hy e => (ok.free y hy e).elim (fun k => I.ok.has _ (.inl k)) fun k => I.ok.has _ (.inr k)
  refine wpAny_comprehension_free rfl hsz (closure_ok free) ok.kind (fun y hy e => by rw [ok.uniq y hy, e]) (thn (hi.run pn st σ H _ I h) fun xv sa ha => thn ha fun itv sb hb => ?_)
  obtain ⟨it, fp, tn, J, Hb, ei, Ib, T, tn0, fpb, q⟩ := hb
  subst ei
  refine wpAny_newObj_type (newEnv_comp ?_)
  obtain ⟨Ic, nd0⟩ := new_empty Ib
  have Dnone : Hb sb.heap.objs.size = none := Ib.hok.fresh (Nat.le_refl _)
  obtain ⟨W, ⟨m0, w0⟩, turn⟩ := q _ emptyO Dnone nd0
  generalize eD : sb.heap.objs.size = De at Ic nd0 Dnone turn w0 ⊢
  have small : ∀ b ∈ fp, b < sb.heap.objs.size := fun b hb => let ⟨o, e, _⟩ := T.obj _ _ tn0 b hb; Heap.lt_size e
  generalize esc : ({ sb with heap := sb.heap.push emptyO } : Shared) = sc at Ic
  have hsc : sc.heap = sb.heap.push emptyO := by rw [← esc]
  have fpc : ∀ b ∈ fp, FpOk X pn (upd Hb De (dob De emptyO)) b ∧ b < sc.heap.objs.size := fun b hb => by
    have lt := small b hb
    refine ⟨⟨?_, (fpb b hb).2⟩, by rw [hsc, Heap.size_push]; exact Nat.lt_succ_of_lt lt⟩
    rw [upd_ne (by rw [← eD]; exact Nat.ne_of_lt lt)]
    exact (fpb b hb).1
  have tnc : tn 0 sc.heap := T.keep _ _ _ tn0 fun b _ o e => by rw [hsc]; exact Heap.get?_push_of_some _ e
  have Id := block_start Ic ok hN fpc
  generalize eCl : cellsFrom (sc.heap.objs.size + 1) scope.names (cloFrom X.env.cells scope.names []) = cl at Id
  have pg := pg sc (upd Hb De (dob De emptyO)) sc.heap.objs.size cl fp
  have pt := pt sc (upd Hb De (dob De emptyO)) sc.heap.objs.size cl fp
  have pk := pk sc (upd Hb De (dob De emptyO)) sc.heap.objs.size cl fp
  have pv := pv sc (upd Hb De (dob De emptyO)) sc.heap.objs.size cl fp
  have fpn : ∀ b ∈ fp, (upd Hb De (dob De emptyO)) b = none := fun b hb => (fpc b hb).1.1
  have goal : codeAny (model X.prog X.w) X.A (.compStart (.DictComp kx vx [⟨tg, iter, ifs, 0⟩] scope pos) 0 (.ref it) (.ref De) (compEnvC scope cl sc.heap.objs.size X.env)) (compPost (model X.prog X.w) X.A X.xe none (EP X pn σ Q) (.ref De) sc.heap.objs.size)
      { sc with heap := pushCells (sc.heap.push { cls := .type "dict", data := .dict #[] }) scope.names } := by
    generalize ece : compEnvC scope cl sc.heap.objs.size X.env = ce at Id pg pt pk pv ⊢
    have cel : ce.locals = sc.heap.objs.size := by subst ece; rfl
    generalize eHc : upd Hb De (dob De emptyO) = Hc at Ic Id pg pt pk pv w0 fpn fpc
    generalize esd : ({ sc with heap := pushCells (sc.heap.push { cls := .type "dict", data := .dict #[] }) scope.names } : Shared) = sd at Id ⊢
    have tnd : tn 0 sd.heap := T.keep _ _ _ tnc fun b _ o e => by rw [← esd]; exact pushCells_keeps _ _ _ _ (Heap.get?_push_of_some _ e)
    have stat : ∀ {σ' : L2.St} {H' : Hp} {s' : Shared}, Inv (X.blk sc Hc scope ce fp) [] σ' H' s' → (∀ b ∈ fp, H' b = none) → ∀ b ∈ fp, FpOk (X.blk sc Hc scope ce fp) [] H' b := fun {σ' H' s'} J' hn b hb =>
      ⟨hn b hb, (J'.ok.exf b hb).1, J'.ok.exfs b hb, .inl hb, fun x c e => (J'.ok.exf b hb).2 x c e, fun p hp => absurd (show p ∈ ([] : List (Addr × Obj)) ++ [] from hp) (by simp)⟩
    refine codeAny_compStart_dict ?_ (T.self X.A 0 _ _ _ tnd ?_)
    all_goals
      refine compLoop_anyD (fun n s' => ∃ i H', Inv (X.blk sc Hc scope ce fp) [] (wipe σ (own.map (·.2))) H' s' ∧ tn i s'.heap ∧ (∀ b ∈ fp, H' b = none) ∧ W i n H') ?_ m0 ⟨0, Hc, Id, tnd, fpn, w0⟩
      rintro n se ⟨i, He, Ie, tne, ne, we⟩
      rcases turn i n He we with ⟨stop, fin⟩ | ⟨go, Nz, hNz, step⟩
      · refine thnF (T.done (X.blk sc Hc scope ce fp) rfl rfl rfl hc i [] se _ He (fun _ _ => False) Ie (stat Ie ne) tne stop) fun r sf ⟨hr, If⟩ => ?_
        subst hr
        have Ig : Inv X pn σ He sf := Ic.call' (ch := fp) If.os If.base If.hok If.bare fun b hb => ⟨(fpc b hb).1.2.2.2.1, (fpc b hb).1.2.1, (fpc b hb).1.2.2.2.2.1, (fpc b hb).1.2.2.2.2.2⟩
        have nC : He sc.heap.objs.size = none := by
          have z : He ce.locals = none := If.free
          rw [cel] at z
          exact z
        obtain ⟨mm, hn, _⟩ := If.loc
        have hn : sf.heap.Ns ce.locals mm := hn
        rw [cel] at hn
        obtain ⟨f0, f1, f2, f3, f4, f5⟩ := Ic.fpOk (Nat.le_refl _) nC
        exact ⟨mm, hn, fun h'' sb' => ⟨.ref De, He, Ig.turned (t' := sf.toks) (fun b o hb e => (sb'.2 b hb).trans e) f0 f1 f3 f4 f5, rfl, fin⟩⟩
      · refine thnF (T.item (X.blk sc Hc scope ce fp) rfl rfl rfl hc i [] se _ He (fun _ _ => False) Ie (stat Ie ne) tne go) fun r sf ⟨u, hr, hf⟩ => ?_
        subst hr
        refine thnF hf fun _ sg ⟨x, Hg, Ig, rg, yg, tng, ng⟩ => ?_
        have Ip := Ig.pinned (stat Ig ng) (T.obj _ _ tng)
        refine thnF (pg.run _ sg _ Hg x u _ Ip rg (step x Hg yg)) fun _ sh ⟨σh, Hh, Ih, hw, qh⟩ => ?_
        refine thnF (pt.run _ sh σh Hh _ Ih qh) fun b sj ⟨Hj, Ij, qj⟩ => ?_
        have next : ∀ {s' : Shared} {H' : Hp}, Inv (X.blk sc Hc scope ce fp) ([] ++ pinsAt fp sg.heap) σh H' s' → Nz H' → ∃ m, m < n ∧ ∃ i H', Inv (X.blk sc Hc scope ce fp) [] (wipe σ (own.map (·.2))) H' s' ∧ tn i s'.heap ∧ (∀ b ∈ fp, H' b = none) ∧ W i m H' := fun {s' H'} J' nx => by
          obtain ⟨m', hm, w'⟩ := hNz H' nx
          have pins' : ∀ b ∈ fp, ∀ o, sg.heap.get? b = some o → s'.heap.get? b = some o ∧ H' b = none := fun b hb o e =>
            let z := J'.pin (b, o) (List.mem_append_right _ (List.mem_append_right _ (mem_pinsAt hb e)))
            ⟨z.1, z.2.1⟩
          refine ⟨m', hm, i + 1, H', (J'.unpinned (pins := [])).weak (by rw [← hw, wipe_length]) (fun j v e => ?_), T.keep _ _ _ tng fun b hb o e => (pins' b hb o e).1, fun b hb => ?_, w'⟩
          · rw [← hw] at e
            exact (wipe_some e).1
          · obtain ⟨o, e, _⟩ := T.obj _ _ tng b hb
            exact (pins' b hb o e).2
        cases b with
        | false =>
          simp only [Bool.false_eq_true, if_false] at qj ⊢
          exact next Ij qj
        | true =>
          simp only [if_true] at qj ⊢
          refine thnF (pk.run _ sj σh Hj _ Ij qj) fun z sk ⟨yk, Hk, Ik, rk, qk⟩ => ?_
          refine thnF (pv.run _ sk σh Hk _ Ik qk) fun z2 sl ⟨yv, Hl, Il, rl, kvs, k, gd, ⟨kb, ek, hkey, hdp⟩, hz, nx⟩ => ?_
          subst ek
          obtain rfl : z = Value.ref kb := rk
          exact n_store (X := X.blk sc Hc scope ce fp) hu Il gd hkey hdp hz rl fun o' sm Im g' => next Im (nx o' g')
  rw [← eCl] at goal
  rw [← esc] at goal
  exact goal
end
/-- over any walk: Pv by the turn and the heap -/
theorem lc_itN {w : World} {J : It} {n : Nat} {G : Hp → Prop} {Y : Nat → Hp → V → Hp → Prop} (wk : Walk J n G Y) {g : TG} {tt : TT} {tk tv : TE} {vs : List Nat} {σ : L2.St} {H1 : Hp} {De : Addr} {Qd : Hp → Prop} (Pv : Nat → Hp → Prop) (hz0 : Pv 0 H1) (hG : ∀ i H, i ≤ n → Pv i H → G H)
    (hsz : ∀ i x H H', i < n → Pv i H → Y i H x H' → g x (wipe σ vs) H' fun σ2 H2 => wipe σ2 vs = wipe σ vs ∧ tt σ2 H2 fun b H3 =>
      if b = true then tk σ2 H3 fun y H4 => tv σ2 H4 fun z H5 => ∃ kvs k, ND w H5 De kvs ∧ IsK H5 y k ∧ kvs.length < sizeLine ∧ ∀ o', ND w (upd H5 De (dob De o')) De (putK kvs k z) → Pv (i + 1) (upd H5 De (dob De o')) else Pv (i + 1) H3) (hdz : ∀ H, Pv n H → Qd H) :
    ∃ W : Nat → Nat → Hp → Prop, (∃ m, W 0 m H1) ∧ ∀ i m H, W i m H →
      (J.stop i H ∧ Qd H) ∨ (J.go i H ∧ ∃ Nz : Hp → Prop, (∀ H', Nz H' → ∃ m', m' < m ∧ W (i + 1) m' H') ∧ ∀ x H', J.yld i H x H' → g x (wipe σ vs) H' fun σ2 H2 => wipe σ2 vs = wipe σ vs ∧ tt σ2 H2 fun b H3 =>
        if b = true then tk σ2 H3 fun y H4 => tv σ2 H4 fun z H5 => ∃ kvs k, ND w H5 De kvs ∧ IsK H5 y k ∧ kvs.length < sizeLine ∧ ∀ o', ND w (upd H5 De (dob De o')) De (putK kvs k z) → Nz (upd H5 De (dob De o')) else Nz H3) := by
  refine ⟨fun i m H => m = n - i ∧ i ≤ n ∧ Pv i H, ⟨n, by simp, Nat.zero_le _, hz0⟩, ?_⟩
  rintro i m H ⟨rfl, hi, p⟩
  rcases Nat.lt_or_ge i n with hlt | hge
  · exact .inr ⟨wk.goes i H hlt (hG i H hi p), Pv (i + 1), fun H' p' => ⟨n - (i + 1), by omega, rfl, hlt, p'⟩, fun x H' y => hsz i x H H' hlt p (wk.yields i H x H' hlt (hG i H hi p) y)⟩
  · have e : i = n := by omega
    subst e
    exact .inl ⟨wk.stops H (hG _ H hi p), hdz H p⟩
end Nd
/-! Game. -/
namespace Ct
open PySem PySem.Spec PyProof.Rows L2 Nd
open CM (InR Wf Qt Rep row reps Leads)
section
variable {K : PySem.W.Frag} {a dx C : Addr} {fs : List (Str × V)} {H H' : Hp}
theorem But.tupC (b : But a H H') (ha : H a = some (.ins C dx fs)) : Tups H H' := fun y xs e => b y _ (fun q => by rw [q, ha] at e; cases e) e
theorem But.lstC (b : But a H H') (ha : H a = some (.ins C dx fs)) {y : Addr} {l : List V} (e : H y = some (.lst l)) : H' y = some (.lst l) := b y _ (fun q => by rw [q, ha] at e; cases e) e
theorem But.webC {v : V} {R : Rows} (b : But a H H') (ha : H a = some (.ins C dx fs)) (hne : He.ga K "Web" ≠ C) (h : WebAt K H v R) : WebAt K H' v R := by
  obtain ⟨x, xd, r, rfl, hx, ra, rs, rfl, hra, hP⟩ := h
  refine ⟨x, xd, _, rfl, b _ _ (fun q => ?_) hx, ra, rs, rfl, b.lstC ha hra, Paired.mapP hP fun v l q => ?_⟩
  · rw [q, ha] at hx
    injection Option.some.inj hx with e
    exact hne e.symm
  · obtain ⟨y, ys, rfl, hy, hyP⟩ := q
    exact ⟨y, ys, rfl, b.lstC ha hy, moves_all hyP (b.tupC ha)⟩
theorem But.gmC {w : World} {lv hv : V} {rd : Addr} {LO HI : Rows} {ds : List Deed} {qs : List Pr} {ρ : Pr → Int} (b : But a H H') (ha : H a = some (.ins C dx fs)) (hne : He.ga K "Web" ≠ C) (g : Gm w K H lv hv rd LO HI ds qs ρ) : Gm w K H' lv hv rd LO HI ds qs ρ := by
  obtain ⟨o, ho⟩ := DM.at g.dm
  exact ⟨b.webC ha hne g.lo, b.webC ha hne g.hi, g.dm.mono (by rw [b _ _ (fun q => by rw [q, ha] at ho; cases ho) ho, ho]) (b.tupC ha)⟩
end
/-- the fields of a game -/
structure Gf (fs : List (Str × V)) (lv hv : V) (rd : Addr) : Prop where
  low : fs.lookup ("low" : Str) = some lv
  high : fs.lookup ("high" : Str) = some hv
  rounds : fs.lookup ("own_rounds" : Str) = some (.ref rd)
  gap : ∃ g, fs.lookup ("own_gap" : Str) = some g
  m1 : fs.lookup ("word" : Str) = none
  m2 : fs.lookup ("rounds" : Str) = none
  m3 : fs.lookup ("spoiler" : Str) = none
structure GameAt (w : World) (K : PySem.W.Frag) (H : Hp) (a : Addr) (lv hv : V) (rd : Addr) (LO HI : Rows) (ds : List Deed) (qs : List Pr) (ρ : Pr → Int) : Prop where
  ex : ∃ dx fs, H a = some (.ins (He.ga K "Game") dx fs) ∧ Gf fs lv hv rd
  gm : Gm w K H lv hv rd LO HI ds qs ρ
theorem GameAt.mono {w : World} {K : PySem.W.Frag} {H H' : Hp} {a : Addr} {lv hv : V} {rd : Addr} {LO HI : Rows} {ds : List Deed} {qs : List Pr} {ρ : Pr → Int} (h : GameAt w K H a lv hv rd LO HI ds qs ρ) (s : Same H H') : GameAt w K H' a lv hv rd LO HI ds qs ρ := by
  obtain ⟨dx, fs, e, g⟩ := h.ex
  exact ⟨⟨dx, fs, s _ _ e, g⟩, h.gm.mono s⟩
section
variable {P : Program} {w : World} {K : PySem.W.Frag} {mg : Str → Option Value} {base : Heap}
def spWord (w : World) (K : PySem.W.Frag) : Sp := fun vs H Q _ => ∃ a lv hv rd LO HI ds qs ρ, vs = [.ref a] ∧ GameAt w K H a lv hv rd LO HI ds qs ρ ∧ (0, 0) ∈ qs ∧ ∀ (z : Str) H', Same H H' → (z = "at once" ↔ ρ (0, 0) = 0) → Q (.str z) H'
theorem sc_Game_word : FnScope (["self"] : List Str) ["self"] (defScope s_Game_word) := ⟨rfl, rfl, rfl, by decide +kernel, rfl, by decide +kernel, by decide +kernel⟩
theorem ok_word (F : TM K "word" "Game.word" s_Game_word (He.ma K (He.ga K "Game") "word")) (T : Tx K mg) : MOk P w K mg base 1 "Game" "word" ["self"] (spWord w K) := by
  refine mok F T.c_Game T.m_Game_word sc_Game_word (fun vs H Q E h => ?_) (fun _ _ _ _ _ _ us hl => match us, hl with | [_], _ => rfl) (fun cdv A outer s H vs Q E hr h => ?_)
  · obtain ⟨a, lv, hv, rd, LO, HI, ds, qs, ρ, rfl, _⟩ := h
    rfl
  obtain ⟨a, lv, hv, rd, LO, HI, ds, qs, ρ, rfl, ⟨⟨dx, fs, ha, g⟩, gm⟩, hz, k⟩ := h
  have hu9 := hu9_of hr
  refine ⟨_, (pss_cons (ps_if (pt_cmpR op_eq (pe_nget hu9 (pe_fld (pv 0) rfl) (pe_tup (pa_cons pe_int (pa_cons pe_int pa_nil))) (fun _ _ => rfl)) pe_int (nomark _)) (pss_one (ps_ret pe_str)) pss_nil)
    (pss_cons (ps_if (pt_cmpR op_isN (pe_fld (pv 0) rfl) pe_non (nomark _)) (pss_one (ps_ret pe_str)) pss_nil)
    (pss_one (ps_ret pe_str)))), ?_⟩
  refine ⟨_, rfl, a, _, dx, fs, _, rfl, ha, T.c_Game, T.n_Game_own_rounds, g.rounds, szk 2 rfl, fun t ht => ?_⟩
  have s1 := Same.new1 (o := .tup [V.int 0, V.int 0]) ht
  refine ⟨rd, _, _, _, rfl, (gm.mono s1).dm, PairAt.isP (p := (0, 0)) ⟨t, rfl, upd_same⟩, by rw [mapD_get, if_pos hz], rfl, _, rfl, ite2 (fun h0 => ?_) (fun h0 => ?_)⟩
  · have h0 : ρ (0, 0) = 0 := V.int.inj (of_decide_eq_true h0)
    exact k _ _ s1 ⟨fun _ => h0, fun _ => rfl⟩
  · have h0 : ¬ ρ (0, 0) = 0 := fun e => h0 (by rw [e]; exact decide_eq_true rfl)
    obtain ⟨gv, hg⟩ := g.gap
    refine ⟨_, rfl, a, _, dx, fs, _, rfl, s1 _ _ ha, T.c_Game, T.n_Game_own_gap, hg, rfl, _, rfl, ite2 (fun _ => ?_) (fun _ => ?_)⟩
    · exact k _ _ s1 ⟨fun e => absurd e (by decide), fun e => absurd e h0⟩
    · exact k _ _ s1 ⟨fun e => absurd e (by decide), fun e => absurd e h0⟩
def spGRounds (w : World) (K : PySem.W.Frag) : Sp := fun vs H Q _ => ∃ a lv hv rd LO HI ds qs ρ, vs = [.ref a] ∧ GameAt w K H a lv hv rd LO HI ds qs ρ ∧ Gk LO HI ds qs ρ ∧ ∀ p H', H p = none → Same H H' → DM TP w H' p qs (fun x => .int (ρ x)) → Q (.ref p) H'
theorem sc_Game_rounds : FnScope (["self", "pair"] : List Str) ["self"] (defScope s_Game_rounds) := ⟨rfl, rfl, rfl, by decide +kernel, rfl, by decide +kernel, by decide +kernel⟩
theorem ok_gRounds (F : TM K "rounds" "Game.rounds" s_Game_rounds (He.ma K (He.ga K "Game") "rounds")) (T : Tx K mg) : MOk P w K mg base 1 "Game" "rounds" ["self"] (spGRounds w K) := by
  refine mok F T.c_Game T.m_Game_rounds sc_Game_rounds (fun vs H Q E h => ?_) (fun _ _ _ _ _ _ us hl => match us, hl with | [_], _ => rfl) (fun cdv A outer s H vs Q E hr h => ?_)
  · obtain ⟨a, lv, hv, rd, LO, HI, ds, qs, ρ, rfl, _⟩ := h
    rfl
  obtain ⟨a, lv, hv, rd, LO, HI, ds, qs, ρ, rfl, ⟨⟨dx, fs, ha, g⟩, gm⟩, gk, k⟩ := h
  have hu9 := hu9_of hr
  obtain ⟨oR, ndR⟩ := id gm.dm
  have kl : (mapD TP qs (fun x => V.int (ρ x))).length = qs.length := mapD_len _ _ _
  have q9 := gk.q9
  refine ⟨_, (pss_one (ps_ret (pe_dcN hu9 (own := [("pair", 1)]) rfl sc_Game_rounds.nd (pi_keysN (pe_fld (pv 0) rfl)) (blkOk_by (N := (["self", "pair"] : List Str)) (sc := defScope s_Game_rounds) (by decide +kernel)) (fun _ _ _ _ _ => (pg_name (i := 1) sc_Game_rounds.nd rfl (Or.inl rfl))) (fun _ _ _ _ _ => pts_nil) (fun _ _ _ _ _ => (pv 1)) (fun _ _ _ _ _ => (pe_ngetW (w := w) hu9 (pe_fldK (K := K) (pv 0) rfl) (pv 1) (fun _ _ => rfl)))))), ?_⟩
  refine ⟨_, rfl, a, _, dx, fs, _, rfl, ha, T.c_Game, T.n_Game_own_rounds, g.rounds, rd, oR, _, rfl, ndR, fun D oD hD nd0 => ?_⟩
  have ndS : ∀ {H'}, Same H H' → NDat w H' rd oR (mapD TP qs (fun x => V.int (ρ x))) := fun s => ndR.mono (by rw [s _ _ ndR.1, ndR.1]) (Tups.same s)
  refine lc_itN walk_keysN (Pv := fun i H1 => Same H H1 ∧ DM TP w H1 D (qs.take i) (fun x => .int (ρ x))) ⟨Same.new1 hD, by rw [List.take_zero]; exact ⟨oD, nd0⟩⟩ ?_ ?_ ?_
  · rintro i H1 _ ⟨s1, _⟩
    exact ndS s1
  · rintro i x H1o H1 hi ⟨s1, dm⟩ ⟨rfl, kk, v, q, hkv, rfl, hkey⟩
    rw [kl] at hi
    obtain ⟨p, hp, rfl, rfl⟩ := mapD_at hkv
    have hpa := key_pair hkey
    have hpq := List.mem_of_getElem? hp
    have hnt := mem_take_of_nodup gk.L.nd hp
    refine ⟨rfl, _, rfl, _, rfl, a, _, dx, fs, _, rfl, s1 _ _ ha, T.c_Game, T.n_Game_own_rounds, g.rounds, _, rfl, rd, _, _, _, rfl, ⟨oR, ndS s1⟩, hpa.isP, by rw [mapD_get, if_pos hpq], _, _, dm, hpa.isP, szLt (by rw [mapD_len, List.length_take]; omega), fun o' nd' => ⟨Same.mut s1 hD, ?_⟩⟩
    rw [mapD_put_new hnt] at nd'
    rw [take_snoc hp]
    refine DM.congr (T := TP) nd' fun y _ => ?_
    unfold fset
    split
    · rename_i e
      rw [e]
    · rfl
  · rintro H1 ⟨s1, dm⟩
    rw [kl, List.take_length] at dm
    exact k D H1 hD s1 dm
def spGSpoiler (w : World) (K : PySem.W.Frag) : Sp := fun vs H Q _ => ∃ a lv hv rd LO HI ds qs ρ, vs = [.ref a] ∧ GameAt w K H a lv hv rd LO HI ds qs ρ ∧ Gk LO HI ds qs ρ ∧ (0, 0) ∈ qs ∧
  (ρ (0, 0) = 0 → ∀ H', Same H H' → Q .non H') ∧ (0 < ρ (0, 0) → ∀ b str there rep H', H b = none → Same H H' → SpAt K H' b lv hv rd (0, 0) str there rep → Plays LO HI qs ρ (0, 0) str there rep → Q (.ref b) H')
theorem sc_Game_spoiler : FnScope (["self"] : List Str) ["self"] (defScope s_Game_spoiler) := ⟨rfl, rfl, rfl, by decide +kernel, rfl, by decide +kernel, by decide +kernel⟩
theorem ok_gSpoiler (F : TM K "spoiler" "Game.spoiler" s_Game_spoiler (He.ma K (He.ga K "Game") "spoiler")) (T : Tx K mg) (D_Spoiler_init : KOk P w K mg base 7 "Spoiler" ["self", "low", "high", "rounds"] (spSpInit w K)) :
    MOk P w K mg base 9 "Game" "spoiler" ["self"] (spGSpoiler w K) := by
  refine mok F T.c_Game T.m_Game_spoiler sc_Game_spoiler (fun vs H Q E h => ?_) (fun _ _ _ _ _ _ us hl => match us, hl with | [_], _ => rfl) (fun cdv A outer s H vs Q E hr h => ?_)
  · obtain ⟨a, lv, hv, rd, LO, HI, ds, qs, ρ, rfl, _⟩ := h
    rfl
  obtain ⟨a, lv, hv, rd, LO, HI, ds, qs, ρ, rfl, ⟨⟨dx, fs, ha, g⟩, gm⟩, gk, hz, k0, k1⟩ := h
  have hu9 := hu9_of hr
  refine ⟨_, (pss_cons (ps_if (pt_cmpR op_eq (pe_nget hu9 (pe_fld (pv 0) rfl) (pe_tup (pa_cons pe_int (pa_cons pe_int pa_nil))) (fun _ _ => rfl)) pe_int (nomark _)) (pss_one (ps_ret pe_non)) pss_nil)
    (pss_one (ps_ret (pe_k D_Spoiler_init (hr.mono (by decide)) (by rfl) (pa_cons (pe_fld (pv 0) rfl) (pa_cons (pe_fld (pv 0) rfl) (pa_cons (pe_fld (pv 0) rfl) pa_nil))))))), ?_⟩
  refine ⟨_, rfl, a, _, dx, fs, _, rfl, ha, T.c_Game, T.n_Game_own_rounds, g.rounds, szk 2 rfl, fun t ht => ?_⟩
  have s1 := Same.new1 (o := .tup [V.int 0, V.int 0]) ht
  refine ⟨rd, _, _, _, rfl, (gm.mono s1).dm, PairAt.isP (p := (0, 0)) ⟨t, rfl, upd_same⟩, by rw [mapD_get, if_pos hz], rfl, _, rfl, ite2 (fun h0 => ?_) (fun h0 => ?_)⟩
  · exact k0 (V.int.inj (of_decide_eq_true h0)) _ s1
  · have h0 : ¬ ρ (0, 0) = 0 := fun e => h0 (by rw [e]; exact decide_eq_true rfl)
    have hpos : 0 < ρ (0, 0) := by have := (gk.R.rng _ hz).1; omega
    refine ⟨_, rfl, a, _, dx, fs, _, rfl, s1 _ _ ha, T.c_Game, T.n_Game_low, g.low, _, rfl, a, _, dx, fs, _, rfl, s1 _ _ ha, T.c_Game, T.n_Game_high, g.high, _, rfl, a, _, dx, fs, _, rfl, s1 _ _ ha, T.c_Game, T.n_Game_own_rounds, g.rounds, fun b bd hb hbd hne => ?_⟩
    have s2 := Same.new1 (o := .own b) hbd
    have hb2 : (upd (upd H t (.tup [.int 0, .int 0])) bd (.own b)) b = none := by rw [upd_ne (Ne.symm hne)]; exact hb
    have s3 := Same.new1 (o := .ins (He.ga K "Spoiler") bd []) hb2
    have s13 := s1.trans (s2.trans s3)
    refine ⟨b, bd, lv, hv, rd, LO, HI, ds, qs, ρ, rfl, upd_same, gm.mono s13, gk, hz, hpos, fun str there rep H' bt sp pl => ⟨rfl, k1 hpos b str there rep H' (fresh_back s1 hb) (fun y u e => ?_) sp pl⟩⟩
    exact bt y u (by rintro rfl; rw [s1 _ _ e] at hb; cases hb) (s13 _ _ e)
end
end Ct
/-! Game.__init__. -/
namespace Ct
open PySem PySem.Spec PyProof.Rows L2 Nd
open CM (InR Wf Qt Rep row reps Leads)
section
variable {P : Program} {w : World} {K : PySem.W.Frag} {mg : Str → Option Value} {base : Heap}
def spGInit (w : World) (K : PySem.W.Frag) : Sp := fun vs H Q _ => ∃ (a dx : Addr) (lv hv : V) (LO HI : Rows) (ds : List Deed) (S : List Pr) (W : List Way), vs = [.ref a, lv, hv] ∧ H a = some (.ins (He.ga K "Game") dx []) ∧ WebAt K H lv LO ∧ WebAt K H hv HI ∧ Good ds LO ∧ Good ds HI ∧
  LO.length ≤ 40 ∧ HI.length ≤ 40 ∧ MenuOk ds ∧ Cls LO HI S ∧ Clw LO HI W ∧
  ∀ rd qs ρ H', But a H H' → GameAt w K H' a lv hv rd LO HI ds qs ρ → Gk LO HI ds qs ρ → (0, 0) ∈ qs → Q .non H'
theorem lead_size {LO HI : Rows} {ds : List Deed} (gL : Good ds LO) (gH : Good ds HI) (mk : MenuOk ds) (h40 : HI.length ≤ 40) {p : Pr} (hp : InR LO.length p.1) : (leadF LO HI p).length ≤ 8 ∧ ∀ r ∈ leadF LO HI p, r.length ≤ 40 := by
  have hrow : row LO p.1 ∈ LO := by
    unfold row
    rw [List.getD_eq_getElem?_getD, List.getElem?_eq_getElem (by have := hp.1; have := hp.2; omega)]
    exact List.getElem_mem _
  refine ⟨by unfold leadF; rw [List.length_map]; exact row_len gL.gd mk.le hrow, fun r hr => ?_⟩
  obtain ⟨m, _, rfl⟩ := List.mem_map.mp hr
  unfold leadM
  split
  · simp
  · rw [List.length_map]
    have h1 : (reps hid HI p.2 m.1).Nodup := (CM.reps_sorted HI p.2 m.1).imp fun h => by omega
    have h2 := CM.nodup_le (n := HI.length) h1 fun x hx => gH.wf.rep ((CM.mem_reps gH.wf).mp hx)
    omega
theorem sc_Game_init : FnScope (["self", "low", "high"] : List Str) ["self", "low", "high"] (defScope s_Game_init) := ⟨rfl, rfl, rfl, by decide +kernel, rfl, by decide +kernel, by decide +kernel⟩
theorem ok_gInit (F : TM K "__init__" "Game.__init__" s_Game_init (He.ma K (He.ga K "Game") "__init__")) (T : Tx K mg) (hne : He.ga K "Web" ≠ He.ga K "Game") (D_rounds_of : DOk P w K mg base 1 "rounds_of" ["leads"] (spRounds w))
    (D_led_from : DOk P w K mg base 6 "led_from" ["low", "high"] (spLed w K)) (D_sets_of : DOk P w K mg base 7 "sets_of" ["low", "high", "most"] (spSets w K)) : KOk P w K mg base 8 "Game" ["self", "low", "high"] (spGInit w K) := by
  refine kok F T.mk_Game T.g_Game sc_Game_init (fun vs H Q E h => ?_) (fun _ _ _ _ _ _ us hl => match us, hl with | [_, _, _], _ => rfl) (fun cdv A outer s H vs Q E hr h => ?_)
  · obtain ⟨a, dx, lv, hv, LO, HI, ds, S, W, rfl, _⟩ := h
    rfl
  obtain ⟨a, dx, lv, hv, LO, HI, ds, S, W, rfl, ha, hL, hH, gL, gH, l40, h40, mk, cls, clw, k⟩ := h
  have hu9 := hu9_of hr
  refine ⟨_, (pss_cons (ps_fld (pv 0) (pv 1) rfl)
    (pss_cons (ps_fld (pv 0) (pv 2) rfl)
    (pss_cons (ps_fld (pv 0) (pe_d D_rounds_of (hr.mono (by decide)) (by rfl) (pa_cons (pe_d D_led_from (hr.mono (by decide)) (by rfl) (pa_cons (pv 1) (pa_cons (pv 2) pa_nil))) pa_nil)) rfl)
    (pss_cons (ps_fld (pv 0) pe_dnewK rfl)
    (pss_cons (ps_fld (pv 0) pe_non rfl)
    (pss_one (ps_if (pt_cmpR op_gt (pe_nget hu9 (pe_fld (pv 0) rfl) (pe_tup (pa_cons pe_int (pa_cons pe_int pa_nil))) (fun _ _ => rfl)) pe_int (nomark _)) (pss_one (ps_asg (pe_d D_sets_of (hr.mono (by decide)) (by rfl) (pa_cons (pv 1) (pa_cons (pv 2) (pa_cons (pe_glob (v := .int 20000) rfl T.i_MOST_games.choose_spec ⟨_, rfl⟩) pa_nil)))) (pg_tup rfl (pgs_cons (pg_at (pv 0)) (pgs_cons (pg_at (pv 0)) pgs_nil))))) pss_nil))))))), ?_⟩
  refine ⟨_, rfl, _, rfl, a, _, dx, [], rfl, ha, T.c_Game, T.n_Game_low, by decide, ?_⟩
  have p1 := putF_len "low" lv []
  simp only [List.length_nil] at p1
  refine ⟨_, rfl, _, rfl, a, _, dx, _, rfl, upd_same, T.c_Game, T.n_Game_high, by omega, ?_⟩
  have p2 := putF_len "high" hv (putF "low" lv [])
  rw [upd_upd]
  have b1 : But a H (upd H a (.ins (He.ga K "Game") dx (putF "high" hv (putF "low" lv [])))) := fun b u hb e => by rw [upd_ne hb]; exact e
  have ha1 : (upd H a (.ins (He.ga K "Game") dx (putF "high" hv (putF "low" lv [])))) a = some (.ins (He.ga K "Game") dx (putF "high" hv (putF "low" lv []))) := upd_same
  have hL1 := b1.webC ha hne hL
  have hH1 := b1.webC ha hne hH
  have f1 : (putF "high" hv (putF "low" lv [])).lookup ("low" : Str) = some lv := by rw [lookup_putF, if_neg (by decide), lookup_putF, if_pos rfl]
  have f2 : (putF "high" hv (putF "low" lv [])).lookup ("high" : Str) = some hv := by rw [lookup_putF, if_pos rfl]
  have fm : ∀ f : Str, f = "word" ∨ f = "rounds" ∨ f = "spoiler" → (putF "high" hv (putF "low" lv [])).lookup f = none := fun f hf => by
    rcases hf with rfl | rfl | rfl <;> rw [lookup_putF, if_neg (by decide), lookup_putF, if_neg (by decide)] <;> rfl
  generalize putF "high" hv (putF "low" lv []) = fs2 at b1 ha1 hL1 hH1 f1 f2 fm p2
  generalize (upd H a (.ins (He.ga K "Game") dx fs2)) = H1 at b1 ha1 hL1 hH1
  refine ⟨_, rfl, _, rfl, lv, hv, LO, HI, ds, S, rfl, hL1, hH1, gL, gH, l40, h40, mk, cls, fun ld qs g H2 hld s2 dmL hrows hleads hz hsub => ?_⟩
  have hqS := CM.nodup_sub hleads.nd hsub
  have hS9 := cls.le
  refine ⟨ld, qs, g, leadF LO HI, rfl, dmL, hrows, hleads, by omega, fun p hp => lead_size gL gH mk h40 (cls.rng p (hsub p hp)).1, fun rd ρ H3 hrd s3 dmR ok => ?_⟩
  have s23 := s2.trans s3
  have gk : Gk LO HI ds qs ρ := ⟨gL, gH, l40, h40, mk, by omega, hleads, ok, fun p hp => cls.rng p (hsub p hp)⟩
  have hz0 := (ok.rng _ hz).1
  refine ⟨_, rfl, a, _, dx, fs2, rfl, s23 _ _ ha1, T.c_Game, T.n_Game_own_rounds, by omega, ?_⟩
  have p3 := putF_len "own_rounds" (.ref rd) fs2
  have b3 : But a H3 (upd H3 a (.ins (He.ga K "Game") dx (putF "own_rounds" (.ref rd) fs2))) := fun b u hb e => by rw [upd_ne hb]; exact e
  have gm3 : Gm w K H3 lv hv rd LO HI ds qs ρ := ⟨hL1.mono s23, hH1.mono s23, dmR⟩
  have gm4 := b3.gmC (s23 _ _ ha1) hne gm3
  intro p hp
  have s4 : Same (upd H3 a (.ins (He.ga K "Game") dx (putF "own_rounds" (.ref rd) fs2))) (upd (upd H3 a (.ins (He.ga K "Game") dx (putF "own_rounds" (.ref rd) fs2))) p (.dK [])) := Same.new1 hp
  have ha4 := s4 _ _ (upd_same (H := H3) (a := a) (o := .ins (He.ga K "Game") dx (putF "own_rounds" (.ref rd) fs2)))
  refine ⟨_, rfl, a, _, dx, _, rfl, ha4, T.c_Game, T.n_Game_own_ways, by omega, ?_⟩
  have p4 := putF_len "own_ways" (.ref p) (putF "own_rounds" (.ref rd) fs2)
  refine ⟨_, rfl, a, _, dx, _, rfl, upd_same, T.c_Game, T.n_Game_own_gap, by omega, ?_⟩
  have p5 := putF_len "own_gap" .non (putF "own_ways" (.ref p) (putF "own_rounds" (.ref rd) fs2))
  rw [upd_upd]
  have gfOf : ∀ (f3 : List (Str × V)), f3 = putF "own_gap" .non (putF "own_ways" (.ref p) (putF "own_rounds" (.ref rd) fs2)) → Gf f3 lv hv rd := fun f3 e => by
    subst e
    refine ⟨?_, ?_, ?_, ⟨_, by rw [lookup_putF, if_pos rfl]⟩, ?_, ?_, ?_⟩
    · rw [lookup_putF, if_neg (by decide), lookup_putF, if_neg (by decide), lookup_putF, if_neg (by decide)]
      exact f1
    · rw [lookup_putF, if_neg (by decide), lookup_putF, if_neg (by decide), lookup_putF, if_neg (by decide)]
      exact f2
    · rw [lookup_putF, if_neg (by decide), lookup_putF, if_neg (by decide), lookup_putF, if_pos rfl]
    all_goals
      rw [lookup_putF, if_neg (by decide), lookup_putF, if_neg (by decide), lookup_putF, if_neg (by decide)]
      exact fm _ (by simp)
  have gf := gfOf _ rfl
  generalize ef3 : putF "own_gap" .non (putF "own_ways" (.ref p) (putF "own_rounds" (.ref rd) fs2)) = f3 at gf p5
  have b5 : But a (upd (upd H3 a (.ins (He.ga K "Game") dx (putF "own_rounds" (.ref rd) fs2))) p (.dK [])) (upd (upd (upd H3 a (.ins (He.ga K "Game") dx (putF "own_rounds" (.ref rd) fs2))) p (.dK [])) a (.ins (He.ga K "Game") dx f3)) := fun b u hb e => by rw [upd_ne hb]; exact e
  have gm5 := b5.gmC ha4 hne (gm4.mono s4)
  have ball : But a H (upd (upd (upd H3 a (.ins (He.ga K "Game") dx (putF "own_rounds" (.ref rd) fs2))) p (.dK [])) a (.ins (He.ga K "Game") dx f3)) := fun b u hb e => b5 b u hb (s4 _ _ (b3 b u hb (s23 _ _ (b1 b u hb e))))
  have ha5 : (upd (upd (upd H3 a (.ins (He.ga K "Game") dx (putF "own_rounds" (.ref rd) fs2))) p (.dK [])) a (.ins (He.ga K "Game") dx f3)) a = some (.ins (He.ga K "Game") dx f3) := upd_same
  generalize (upd (upd (upd H3 a (.ins (He.ga K "Game") dx (putF "own_rounds" (.ref rd) fs2))) p (.dK [])) a (.ins (He.ga K "Game") dx f3)) = H5 at b5 gm5 ball ha5
  refine ⟨_, rfl, a, _, dx, f3, _, rfl, ha5, T.c_Game, T.n_Game_own_rounds, gf.rounds, szk 2 rfl, fun t ht => ?_⟩
  have s6 := Same.new1 (o := .tup [V.int 0, V.int 0]) ht
  have gm6 := gm5.mono s6
  have ball6 : But a H (upd H5 t (.tup [.int 0, .int 0])) := fun b u hb e => s6 _ _ (ball b u hb e)
  refine ⟨rd, _, _, _, rfl, gm6.dm, PairAt.isP (p := (0, 0)) ⟨t, rfl, upd_same⟩, by rw [mapD_get, if_pos hz], _, _, rfl, rfl, _, rfl, ite2 (fun _ => ?_) (fun _ => ?_)⟩
  · refine ⟨_, rfl, _, rfl, lv, hv, LO, HI, ds, W, rfl, gm6.lo, gm6.hi, gL, gH, l40, h40, mk, clw, fun q wv gv H7 hq s7 hq7 => ?_⟩
    have s67 := s6.trans s7
    refine ⟨q, _, rfl, SqT.of hq7, rfl, _, _, rfl, ?_⟩
    refine ⟨_, rfl, a, _, dx, f3, rfl, s67 _ _ ha5, T.c_Game, T.n_Game_own_ways, by omega, ?_⟩
    have p6 := putF_len "own_ways" wv f3
    refine ⟨_, _, rfl, ⟨_, rfl, a, _, dx, _, rfl, upd_same, T.c_Game, T.n_Game_own_gap, by omega, rfl, ?_⟩⟩
    rw [upd_upd]
    have b8 : But a H7 (upd H7 a (.ins (He.ga K "Game") dx (putF "own_gap" gv (putF "own_ways" wv f3)))) := fun b u hb e => by rw [upd_ne hb]; exact e
    have gm8 := b8.gmC (s67 _ _ ha5) hne (gm5.mono s67)
    refine k rd qs ρ _ (fun b u hb e => b8 b u hb (s67 _ _ (ball b u hb e))) ⟨⟨dx, _, upd_same, ?_, ?_, ?_, ⟨gv, by rw [lookup_putF, if_pos rfl]⟩, ?_, ?_, ?_⟩, gm8⟩ gk hz
    · rw [lookup_putF, if_neg (by decide), lookup_putF, if_neg (by decide)]
      exact gf.low
    · rw [lookup_putF, if_neg (by decide), lookup_putF, if_neg (by decide)]
      exact gf.high
    · rw [lookup_putF, if_neg (by decide), lookup_putF, if_neg (by decide)]
      exact gf.rounds
    · rw [lookup_putF, if_neg (by decide), lookup_putF, if_neg (by decide)]
      exact gf.m1
    · rw [lookup_putF, if_neg (by decide), lookup_putF, if_neg (by decide)]
      exact gf.m2
    · rw [lookup_putF, if_neg (by decide), lookup_putF, if_neg (by decide)]
      exact gf.m3
  · exact k rd qs ρ _ ball6 ⟨⟨dx, f3, s6 _ _ ha5, gf⟩, gm6⟩ gk hz
end
end Ct
/-! _law_end. -/
namespace Ct
open PySem PySem.Spec PyProof.Rows L2 Nd
open CM (InR Wf Qt Rep row reps Leads)
/-- a run, from the left -/
inductive Run (R : Rows) : Int → List Deed → Int → Prop
  | nil (x : Int) : Run R x [] x
  | cons {x y z : Int} {d : Deed} {ds : List Deed} : (d, y) ∈ row R x → Run R y ds z → Run R x (d :: ds) z
theorem Run.snoc {R : Rows} {x y z : Int} {ds : List Deed} {d : Deed} (h : Run R x ds y) (m : (d, z) ∈ row R y) : Run R x (ds ++ [d]) z := by
  induction h with
  | nil x => exact .cons m (.nil _)
  | cons h1 _ ih => exact .cons h1 (ih m)
theorem Chain.run {R : Rows} {x y : Int} {ds : List Deed} (h : Chain R x ds y) : Run R x ds y := by
  induction h with
  | nil => exact .nil x
  | snoc _ m ih => exact ih.snoc m
theorem Chain.alike {R S : Rows} (a : CM.Alike R S) {x y : Int} {ds : List Deed} (h : Chain R x ds y) : Chain S x ds y := by
  induction h with
  | nil => exact .nil
  | snoc _ m ih => exact ih.snoc ((a.mem _ _).mp m)
theorem kin_key {a b : Key} (ha : ∀ z, a = .inr z → PyData.strOk z = true) (hb : ∀ z, b = .inr z → PyData.strOk z = true) (n : Nat) : Kin (n + 1) (kD a) (kD b) := by
  rcases a with i | x <;> rcases b with j | y
  · exact .int i j
  · exact .is i y
  · exact .si x j
  · exact .str (ha x rfl) (hb y rfl)
theorem DeedOk.kd {d : Deed} (h : DeedOk d) : PyData.strOk d.2.1 = true ∧ ∀ z, d.2.2 = .inr z → PyData.strOk z = true := by
  refine ⟨?_, fun z hz => ?_⟩
  · rcases h.rest with ⟨e, _⟩ | ⟨e | e, _⟩ <;> rw [e] <;> decide +kernel
  · rcases h.rest with ⟨_, z', e, hz'⟩ | ⟨_, i, e, _⟩
    · rw [e] at hz
      rw [← Sum.inr.inj hz]
      exact hz'.strOk
    · rw [e] at hz
      cases hz
theorem kin_deed {a b : Deed} (ha : DeedOk a) (hb : DeedOk b) (n : Nat) : Kin (n + 2) (deedD a) (deedD b) := by
  obtain ⟨a1, a2⟩ := ha.kd
  obtain ⟨b1, b2⟩ := hb.kd
  refine .tup (fun k x y e1 e2 => ?_) (by simp)
  match k, e1, e2 with
  | 0, e1, e2 =>
    simp at e1 e2
    rw [← e1, ← e2]
    exact .int _ _
  | 1, e1, e2 =>
    simp at e1 e2
    rw [← e1, ← e2]
    exact .str a1 b1
  | 2, e1, e2 =>
    simp at e1 e2
    rw [← e1, ← e2]
    exact kin_key a2 b2 n
  | k + 3, e1, _ => simp at e1
theorem filter_one {R : List Move} {d : Deed} {y : Int} (n : (R.map Prod.fst).Nodup) (h : (d, y) ∈ R) : R.filter (fun m => decide (d = m.1)) = [(d, y)] := by
  induction R with
  | nil => exact absurd h List.not_mem_nil
  | cons m R ih =>
    rw [List.map_cons, List.nodup_cons] at n
    rcases List.mem_cons.mp h with rfl | h
    · rw [List.filter_cons_of_pos (by simp)]
      have : R.filter (fun m => decide (d = m.1)) = [] := List.filter_eq_nil_iff.mpr fun x hx e => n.1 (List.mem_map.mpr ⟨x, hx, (of_decide_eq_true e).symm⟩)
      rw [this]
    · rw [List.filter_cons_of_neg (fun e => n.1 (by rw [← of_decide_eq_true e]; exact List.mem_map.mpr ⟨_, h, rfl⟩))]
      exact ih n.2 h
section
variable {P : Program} {w : World} {K : PySem.W.Frag} {mg : Str → Option Value} {base : Heap}
def spEnd : Sp := fun vs H Q _ => ∃ (r : V) (at_ : Int) (sl : Addr) (tvs : List V) (lo : Rows) (ds : List Deed) (str : List Deed) (th : Int), vs = [r, .int at_, .ref sl] ∧ RowsAt H r lo ∧ Good ds lo ∧ MenuOk ds ∧ lo.length ≤ 40 ∧ InR lo.length at_ ∧ H sl = some (.lst tvs) ∧ Paired (DeedAt H) tvs str ∧
  Chain lo at_ str th ∧ Shape str ∧ str ≠ [] ∧ str.length ≤ 1000 ∧ ∀ H', Same H H' → Q (.int th) H'
theorem sc__law_end : FnScope (["_law_low", "_law_at", "_law_stretch", "_law_k", "_law_moves", "_law_move"] : List Str) ["_law_low", "_law_at", "_law_stretch"] (defScope s_end_L) := ⟨rfl, rfl, rfl, by decide +kernel, rfl, by decide +kernel, by decide +kernel⟩
theorem ok_end (F : TF K "_law_end" s_end_L) (T : Tx K mg) (D__law_same : DOk P w K mg base 3 "_law_same" ["_law_told", "_law_due"] (spSame K 2)) : DOk P w K mg base 4 "_law_end" ["_law_low", "_law_at", "_law_stretch"] spEnd := by
  refine dok F T.g__law_end sc__law_end (fun vs H Q E h => ?_) (fun _ _ _ _ _ _ us hl => match us, hl with | [_, _, _], _ => rfl) (fun cdv A outer s H vs Q E hr h => ?_)
  · obtain ⟨r, at_, sl, tvs, lo, ds, str, th, rfl, _⟩ := h
    rfl
  obtain ⟨r, at_, sl, tvs, lo, ds, str, th, rfl, hR, g, mk, l40, hat, hsl, hP, hch, hsh, hne, hl1, k⟩ := h
  obtain ⟨ra, rs, rfl, hra, hrP⟩ := id hR
  have hlen := paired_len hP
  have hpos : 0 < str.length := List.length_pos_iff.mpr hne
  have wf := g.wf
  refine ⟨_, (pss_cons (ps_if (PW.pt (pw_or (pt_not (pt_val (pe_callB call_isi (by rfl) T.f_isinstance (by decide +kernel) (pa_cons (pv 2) (pa_cons (pe_bltn (v := .ty "list") (by rfl) T.f_list (by decide +kernel) rfl) pa_nil))))) (pw_or1 (pt_cmpR op_eq (pe_callB call_len_seq (by rfl) T.f_len (by decide +kernel) (pa_cons (pv 2) pa_nil)) pe_int (nomark _))))) (pss_one (ps_ret (pe_un un_neg pe_int))) pss_nil)
    (pss_cons (ps_for PassesOwn.never rfl (pi_range1 rfl T.f_range (pa_cons (pe_callB call_len_seq (by rfl) T.f_len (by decide +kernel) (pa_cons (pv 2) pa_nil)) pa_nil)) (pg_name (i := 3) sc__law_end.nd rfl (Or.inr rfl)) (pss_cons (ps_setLc (i := 4) (own := [("_law_move", 5)]) rfl sc__law_end.nd rfl rfl (sw_true rfl rfl rfl (by decide +kernel)) (pi_list (pe_ix ix_list (pv 0) (pv 1) (fun _ _ => rfl))) (blkOk_by (N := (["_law_low", "_law_at", "_law_stretch", "_law_k", "_law_moves", "_law_move"] : List Str)) (sc := defScope s_end_L) (by decide +kernel)) (fun _ _ _ _ _ => (pg_name (i := 5) sc__law_end.nd rfl (Or.inl rfl))) (fun _ _ _ _ _ => (pts_one (pt_val (pe_d D__law_same (hr.mono (by decide)) (by rfl) (pa_cons (pe_ix (ix_listK (K := K)) (pv 2) (pv 3) (fun _ _ => rfl)) (pa_cons (pe_ix (ix_tupK (K := K)) (pv 5) pe_int (fun _ _ => rfl)) pa_nil)))))) (fun _ _ _ _ _ => (pv 5)))
    (pss_cons (ps_if (pt_cmpR op_ne (pe_callB call_len_seq (by rfl) T.f_len (by decide +kernel) (pa_cons (pv 4) pa_nil)) pe_int (nomark _)) (pss_one (ps_ret (pe_un un_neg pe_int))) pss_nil)
    (pss_cons (ps_if (pt_cmpR op_ne (pe_cmpR op_eq (pe_ix ix_tup (pe_ix ix_tup (pe_ix ix_list (pv 4) pe_int (fun _ _ => rfl)) pe_int (fun _ _ => rfl)) pe_int (fun _ _ => rfl)) pe_str (nomark _)) (pe_cmpR op_lt (pv 3) (pe_op op_sub (pe_callB call_len_seq (by rfl) T.f_len (by decide +kernel) (pa_cons (pv 2) pa_nil)) pe_int) (nomark _)) (nomark _)) (pss_one (ps_ret (pe_un un_neg pe_int))) pss_nil)
    (pss_one (ps_set (i := 1) sc__law_end.nd rfl (Or.inl rfl) (pe_ix ix_tup (pe_ix ix_list (pv 4) pe_int (fun _ _ => rfl)) pe_int (fun _ _ => rfl))))))))
    (pss_one (ps_ret (pv 1))))), ?_⟩
  refine ⟨_, rfl, .ref sl, .ty "list", .type "list", .type "list", true, rfl, .ty "list", .base (.lst hsl), kit_ty (by decide +kernel), true, rfl, ?_⟩
  refine iteF ⟨_, rfl, sl, _, rfl, .inl (SqL.of hsl), rfl, _, rfl, ite2 (fun h => ?_) (fun _ => ?_)⟩
  · have := V.int.inj (of_decide_eq_true h)
    omega
  refine ⟨_, rfl, sl, _, rfl, .inl (SqL.of hsl), _, rfl, by omega, by omega, ?_⟩
  rw [show ((tvs.length : Nat) : Int).toNat = str.length by rw [hlen]; omega]
  refine for_range (Pv := fun i σ H1 => ∃ (cur : Int) (o3 o4 : Option V), σ = [some (.ref ra), some (.int cur), some (.ref sl), o3, o4, none] ∧ Same H H1 ∧ InR lo.length cur ∧ Run lo cur (str.drop i) th) ⟨at_, _, _, rfl, Same.refl H, hat, by rw [List.drop_zero]; exact hch.run⟩ ?_ ?_
  · rintro i σ H1 hi ⟨cur, o3, o4, rfl, s1, hcur, hrun⟩
    have hdi : str[i]? = some str[i] := List.getElem?_eq_getElem hi
    generalize hd : str[i] = d at hdi
    rw [List.drop_eq_getElem_cons hi, hd] at hrun
    cases hrun with
    | @cons _ y _ _ _ hmem hrest =>
      obtain ⟨dv, hdv, hda⟩ := paired_getR hP hdi
      obtain ⟨ra', rs', mv, e, hb', hl', hat', c, ms, rfl, hc, hMP⟩ := hR.row hcur
      injection e with e
      subst e
      have hrow : row lo cur ∈ lo := by
        unfold row
        rw [List.getD_eq_getElem?_getD, List.getElem?_eq_getElem (by have := hcur.1; have := hcur.2; omega)]
        exact List.getElem_mem _
      have hgd := g.gd _ hrow
      have hdm := hgd.2 _ hmem
      have hone := filter_one hgd.1 hmem
      have hml := row_len g.gd mk.le hrow
      have hdsl : ∀ {H'}, Same H H' → SqL K H' sl tvs := fun s => SqL.of (s _ _ hsl)
      have hati : atI tvs (0 + (i : Int)) = some dv := atI_of (by omega) (by rw [show (0 + (i : Int)).toNat = i by omega]; exact hdv)
      refine ⟨_, rfl, _, rfl, ra, _, _, _, rfl, rfl, SqL.of (s1 _ _ hb'), hat', c, rfl, ⟨_, SqL.of (s1 _ _ hc)⟩, fun D hD => ?_⟩
      refine lc_filter (F := MoveAt) (b := 5) (p := fun m => decide (d = m.1)) (s1 _ _ hc) (moves_all hMP (Tups.same s1)) (by omega) hD (fun t h => h.mono t) (fun v m H' Qb s h hx hq => ?_) (fun H2 ks s2 hks hkP => ?_)
      · obtain ⟨t, u, rfl, ht, hu⟩ := h
        have s' := s1.trans s
        refine ⟨_, rfl, _, rfl, sl, _, _, _, rfl, rfl, hdsl s', hati, _, rfl, t, _, 0, _, rfl, rfl, SqT.of ht, rfl, dv, u, deedD d, deedD m.1, rfl, (hda.mono (Tups.same s')).dp, hu.dp, kin_deed (mk.ok d hdm.1) (mk.ok _ (hgd.2 m hx).1) 0, _, rfl, ?_⟩
        rw [eqv_deed]
        exact hq
      rw [hone] at hkP
      have s12 := s1.trans s2
      obtain ⟨kv, hkv, t, u, rfl, ht, hu⟩ := paired_getR (i := 0) hkP rfl
      obtain ⟨z, rfl, hz⟩ := id hu
      have hk1 : ks.length = 1 := paired_len hkP
      refine ⟨_, rfl, D, _, rfl, .inl (SqL.of hks), rfl, _, rfl, ite2 (fun h => ?_) (fun _ => ?_)⟩
      · rw [hk1] at h
        exact absurd h (by decide)
      have hk0 : atI ks 0 = some (.ref t) := atI_of (by decide) hkv
      refine ⟨_, rfl, D, _, 0, _, rfl, rfl, SqL.of hks, hk0, t, _, 0, _, rfl, rfl, SqT.of ht, rfl, z, _, 1, _, rfl, rfl, SqT.of hz, rfl, rfl, _, rfl, _, rfl, sl, _, rfl, .inl (SqL.of (s12 _ _ hsl)), _, _, rfl, rfl, _, _, rfl, rfl, rfl, _, rfl, ite2 (fun h => ?_) (fun _ => ?_)⟩
      · exfalso
        have hs := hsh i d hdi
        have e1 : decide (V.str d.2.1 = V.str "step") = decide (i + 1 < str.length) := by rw [← hid_eq]; exact hs
        have e2 : decide (0 + (i : Int) < ((tvs.length : Nat) : Int) - 1) = decide (i + 1 < str.length) := decide_eq_decide.mpr (by rw [hlen]; omega)
        have h : (!decide (V.bl (decide (V.str d.2.1 = V.str "step")) = V.bl (decide (0 + (i : Int) < ((tvs.length : Nat) : Int) - 1)))) = true := h
        rw [e1, e2, decide_eq_true rfl] at h
        cases h
      refine ⟨_, rfl, D, _, 0, _, rfl, rfl, SqL.of hks, hk0, t, _, 1, _, rfl, rfl, SqT.of ht, rfl, ?_⟩
      exact ⟨y, _, _, rfl, s12, hdm.2, hrest⟩
  · rintro σ H1 ⟨cur, o3, o4, rfl, s1, hcur, hrun⟩
    rw [List.drop_length] at hrun
    cases hrun
    exact ⟨_, rfl, k H1 s1⟩
end
end Ct
set_option maxHeartbeats 2000000
/-! Math 4: the pairs and the ways of such webs are few. -/
namespace Ct
open CM (InR Wf Qt Rep row reps Alike)
theorem row_at {R : Rows} {i : Int} (h : InR R.length i) : R[i.toNat]? = some (row R i) := by
  have h1 := h.1
  have h2 := h.2
  unfold row
  rw [List.getD_eq_getElem?_getD, List.getElem?_eq_getElem (by omega)]
  rfl
theorem cls_of {lo hi LO HI : Rows} {S : List Pr} (wf : Wf hi) (al : Alike lo LO) (ah : Alike hi HI) (z : (0, 0) ∈ S) (le : S.length ≤ 999) (rng : ∀ p ∈ S, InR lo.length p.1 ∧ InR hi.length p.2)
    (cl : ∀ p ∈ S, ∀ m ∈ row lo p.1, (hid m.1 = true → (m.2, p.2) ∈ S) ∧ (hid m.1 = false → ∀ r, Rep hid hi p.2 m.1 r → (m.2, r) ∈ S)) : Cls LO HI S := by
  refine ⟨z, fun p hp r hr x hx => ?_, le, fun p hp => ?_⟩
  · obtain ⟨m, hm, rfl⟩ := List.mem_map.mp hr
    obtain ⟨c1, c2⟩ := cl p hp m ((al.mem _ _).mpr hm)
    unfold leadM at hx
    cases hh : hid m.1 with
    | true =>
      rw [if_pos hh, List.mem_singleton] at hx
      rw [hx]
      exact c1 hh
    | false =>
      rw [if_neg (by rw [hh]; decide)] at hx
      obtain ⟨k, hk, rfl⟩ := List.mem_map.mp hx
      rw [← ah.reps] at hk
      exact c2 hh k ((CM.mem_reps wf).mp hk)
  · rw [← al.len, ← ah.len]
    exact rng p hp
theorem uni_alike {hi HI : Rows} (wf : Wf hi) (WF : Wf HI) (ah : Alike hi HI) (here : List Int) (d : Deed) : uni HI here d = uni hi here d :=
  CM.sorted_ext (uni_sorted _ _ _) (uni_sorted _ _ _) fun x => by
    rw [mem_uni WF, mem_uni wf]
    exact ⟨fun ⟨i, hi, h⟩ => ⟨i, hi, ah.rep.mpr h⟩, fun ⟨i, hi, h⟩ => ⟨i, hi, ah.rep.mp h⟩⟩
theorem clw_of {lo hi LO HI : Rows} {W : List Way} (wf : Wf hi) (WF : Wf HI) (al : Alike lo LO) (ah : Alike hi HI) (z : (0, [0]) ∈ W) (le : W.length < 20000) (rng : ∀ x ∈ W, InR lo.length x.1 ∧ ∀ i ∈ x.2, InR hi.length i)
    (cl : ∀ x ∈ W, ∀ m ∈ row lo x.1, (hid m.1 = true → (m.2, x.2) ∈ W) ∧ (hid m.1 = false → uni hi x.2 m.1 ≠ [] → (m.2, uni hi x.2 m.1) ∈ W)) : Clw LO HI W := by
  refine ⟨z, fun x hx m hm => ?_, le, fun x hx => ?_⟩
  · rw [uni_alike wf WF ah]
    exact cl x hx m ((al.mem _ _).mpr hm)
  · rw [← al.len, ← ah.len]
    exact rng x hx
def rng (n : Nat) : List Int := (List.range n).map Int.ofNat
theorem mem_rng {n : Nat} {i : Int} : i ∈ rng n ↔ InR n i := CM.mem_range_int
theorem len_rng (n : Nat) : (rng n).length = n := by rw [rng, List.length_map, List.length_range]
def prod {α : Type} (xs : List Int) (ys : List α) : List (Int × α) := xs.flatMap fun x => ys.map fun y => (x, y)
theorem mem_prod {α : Type} {xs : List Int} {ys : List α} {x : Int} {y : α} : (x, y) ∈ prod xs ys ↔ x ∈ xs ∧ y ∈ ys := by
  unfold prod
  rw [List.mem_flatMap]
  constructor
  · rintro ⟨a, ha, h⟩
    obtain ⟨b, hb, e⟩ := List.mem_map.mp h
    rw [Prod.mk.injEq] at e
    exact ⟨e.1 ▸ ha, e.2 ▸ hb⟩
  · rintro ⟨h1, h2⟩
    exact ⟨x, h1, List.mem_map.mpr ⟨y, h2, rfl⟩⟩
theorem len_flat {α : Type} {f : Int → List α} {n : Nat} : ∀ xs : List Int, (∀ x ∈ xs, (f x).length ≤ n) → (xs.flatMap f).length ≤ xs.length * n
  | [], _ => by simp
  | x :: xs, h => by
    rw [List.flatMap_cons, List.length_append, List.length_cons, Nat.succ_mul]
    have h1 := h x (List.mem_cons_self ..)
    have h2 := len_flat xs fun y hy => h y (List.mem_cons_of_mem _ hy)
    omega
theorem len_prod {α : Type} (xs : List Int) (ys : List α) : (prod xs ys).length ≤ xs.length * ys.length := len_flat xs fun x _ => by rw [List.length_map]; exact Nat.le_refl _
/-- the sublists -/
def subs : List Int → List (List Int)
  | [] => [[]]
  | a :: l => subs l ++ (subs l).map fun s => a :: s
theorem len_subs : ∀ l : List Int, (subs l).length = 2 ^ l.length
  | [] => rfl
  | a :: l => by
    rw [subs, List.length_append, List.length_map, len_subs l, List.length_cons, Nat.pow_succ]
    omega
theorem subs_mem : ∀ {l s : List Int}, s ∈ subs l → ∀ x ∈ s, x ∈ l
  | [], s, h, x, hx => by
    rw [subs, List.mem_singleton] at h
    rw [h] at hx
    exact hx
  | a :: l, s, h, x, hx => by
    rw [subs, List.mem_append] at h
    rcases h with h | h
    · exact List.mem_cons_of_mem _ (subs_mem h x hx)
    · obtain ⟨t, ht, rfl⟩ := List.mem_map.mp h
      rcases List.mem_cons.mp hx with rfl | hx
      · exact List.mem_cons_self ..
      · exact List.mem_cons_of_mem _ (subs_mem ht x hx)
theorem mem_subs : ∀ {l s : List Int}, l.Pairwise (· < ·) → s.Pairwise (· < ·) → (∀ x ∈ s, x ∈ l) → s ∈ subs l
  | [], s, _, _, h => by
    cases s with
    | nil => exact List.mem_singleton.mpr rfl
    | cons x s => exact absurd (h x (List.mem_cons_self ..)) List.not_mem_nil
  | a :: l, s, hl, hs, h => by
    rw [List.pairwise_cons] at hl
    rw [subs, List.mem_append]
    cases s with
    | nil => exact .inl (mem_subs hl.2 hs fun x hx => absurd hx List.not_mem_nil)
    | cons b s =>
      rw [List.pairwise_cons] at hs
      by_cases e : b = a
      · subst e
        refine .inr (List.mem_map.mpr ⟨s, mem_subs hl.2 hs.2 fun x hx => ?_, rfl⟩)
        have h1 := hs.1 x hx
        exact (List.mem_cons.mp (h x (List.mem_cons_of_mem _ hx))).resolve_left fun q => by omega
      · refine .inl (mem_subs hl.2 (List.pairwise_cons.mpr hs) fun x hx => ?_)
        have hb : b ∈ l := (List.mem_cons.mp (h b (List.mem_cons_self ..))).resolve_left e
        have hab := hl.1 b hb
        rcases List.mem_cons.mp hx with rfl | hx
        · exact hb
        · have h1 := hs.1 x hx
          exact (List.mem_cons.mp (h x (List.mem_cons_of_mem _ hx))).resolve_left fun q => by omega
theorem rng_sorted (n : Nat) : (rng n).Pairwise (· < ·) := CM.range_lt n
/-- all pairs -/
theorem cls_all {lo hi LO HI : Rows} (wl : Wf lo) (wf : Wf hi) (al : Alike lo LO) (ah : Alike hi HI) (h : lo.length * hi.length ≤ 999) : Cls LO HI (prod (rng lo.length) (rng hi.length)) := by
  have p1 := wl.pos
  have p2 := wf.pos
  refine cls_of wf al ah (mem_prod.mpr ⟨mem_rng.mpr ⟨by decide, by omega⟩, mem_rng.mpr ⟨by decide, by omega⟩⟩) ?_ (fun p hp => ?_) fun p hp m hm => ?_
  · have := len_prod (rng lo.length) (rng hi.length)
    rw [len_rng, len_rng] at this
    omega
  · obtain ⟨x, y⟩ := p
    obtain ⟨h1, h2⟩ := mem_prod.mp hp
    exact ⟨mem_rng.mp h1, mem_rng.mp h2⟩
  · obtain ⟨x, y⟩ := p
    obtain ⟨h1, h2⟩ := mem_prod.mp hp
    have hm2 := mem_rng.mpr (wl.move hm)
    exact ⟨fun _ => mem_prod.mpr ⟨hm2, h2⟩, fun _ r hr => mem_prod.mpr ⟨hm2, mem_rng.mpr (wf.rep hr)⟩⟩
theorem clw_all {lo hi LO HI : Rows} (wl : Wf lo) (wf : Wf hi) (WF : Wf HI) (al : Alike lo LO) (ah : Alike hi HI) (h1 : lo.length ≤ 12) (h2 : hi.length ≤ 6) : Clw LO HI (prod (rng lo.length) (subs (rng hi.length))) := by
  have p1 := wl.pos
  have p2 := wf.pos
  refine clw_of wf WF al ah (mem_prod.mpr ⟨mem_rng.mpr ⟨by decide, by omega⟩, mem_subs (rng_sorted _) (by simp) fun x hx => ?_⟩) ?_ (fun p hp => ?_) fun p hp m hm => ?_
  · rw [List.mem_singleton] at hx
    rw [hx]
    exact mem_rng.mpr ⟨by decide, by omega⟩
  · have h3 := len_prod (rng lo.length) (subs (rng hi.length))
    rw [len_rng, len_subs, len_rng] at h3
    have h4 : 2 ^ hi.length ≤ 2 ^ 6 := Nat.pow_le_pow_right (by decide) h2
    have h5 : lo.length * 2 ^ hi.length ≤ 12 * 2 ^ 6 := Nat.mul_le_mul h1 h4
    omega
  · obtain ⟨x, s⟩ := p
    obtain ⟨h3, h4⟩ := mem_prod.mp hp
    exact ⟨mem_rng.mp h3, fun i hi' => mem_rng.mp (subs_mem h4 i hi')⟩
  · obtain ⟨x, s⟩ := p
    obtain ⟨h3, h4⟩ := mem_prod.mp hp
    have hm2 := mem_rng.mpr (wl.move hm)
    refine ⟨fun _ => mem_prod.mpr ⟨hm2, h4⟩, fun _ _ => mem_prod.mpr ⟨hm2, mem_subs (rng_sorted _) (uni_sorted _ _ _) fun k hk => ?_⟩⟩
    obtain ⟨i, _, hr⟩ := (mem_uni wf).mp hk
    exact mem_rng.mpr (wf.rep hr)
/-- one move at most, none hidden -/
theorem clw_rung {lo hi LO HI : Rows} (wl : Wf lo) (wf : Wf hi) (WF : Wf HI) (al : Alike lo LO) (ah : Alike hi HI) (h1 : lo.length ≤ 31) (h2 : hi.length ≤ 31) (hr : Rung hi) : Clw LO HI (prod (rng lo.length) ((rng hi.length).map fun i => [i])) := by
  have p1 := wl.pos
  have p2 := wf.pos
  have sing : ∀ {i : Int}, InR hi.length i → ([i] : List Int) ∈ (rng hi.length).map fun i => [i] := fun h => List.mem_map.mpr ⟨_, mem_rng.mpr h, rfl⟩
  have rowIn : ∀ {i : Int} {m : Move}, m ∈ row hi i → (row hi i).length ≤ 1 ∧ hid m.1 = false := fun {i m} h => by
    have : row hi i ∈ hi := by
      unfold row at h ⊢
      rw [List.getD_eq_getElem?_getD] at h ⊢
      cases e : hi[i.toNat]? with
      | none => rw [e] at h; exact absurd h List.not_mem_nil
      | some x => exact List.mem_of_getElem? e
    exact ⟨(hr _ this).1, (hr _ this).2 m h⟩
  have stay : ∀ {i j : Int}, Qt hid hi i j → j = i := fun {i j} q => by
    induction q with
    | refl => rfl
    | step _ h1 h2 ih =>
      have := (rowIn h1).2
      rw [h2] at this
      cases this
  refine clw_of wf WF al ah (mem_prod.mpr ⟨mem_rng.mpr ⟨by decide, by omega⟩, sing ⟨by decide, by omega⟩⟩) ?_ (fun p hp => ?_) fun p hp m hm => ?_
  · have h3 := len_prod (rng lo.length) ((rng hi.length).map fun i => [i])
    rw [len_rng, List.length_map, len_rng] at h3
    have h5 : lo.length * hi.length ≤ 31 * 31 := Nat.mul_le_mul h1 h2
    omega
  · obtain ⟨x, s⟩ := p
    obtain ⟨h3, h4⟩ := mem_prod.mp hp
    obtain ⟨i, hi', rfl⟩ := List.mem_map.mp h4
    refine ⟨mem_rng.mp h3, fun j hj => ?_⟩
    rw [List.mem_singleton] at hj
    rw [hj]
    exact mem_rng.mp hi'
  · obtain ⟨x, s⟩ := p
    obtain ⟨h3, h4⟩ := mem_prod.mp hp
    obtain ⟨i, hi', rfl⟩ := List.mem_map.mp h4
    have hm2 := mem_rng.mpr (wl.move hm)
    refine ⟨fun _ => mem_prod.mpr ⟨hm2, h4⟩, fun _ hne => mem_prod.mpr ⟨hm2, ?_⟩⟩
    have key : ∀ k ∈ uni hi [i] m.1, (m.1, k) ∈ row hi i := fun k hk => by
      obtain ⟨j, hj, q, hq, hmem⟩ := (mem_uni wf).mp hk
      rw [List.mem_singleton] at hj
      subst hj
      rw [stay hq] at hmem
      exact hmem
    have hs := uni_sorted hi [i] m.1
    cases e : uni hi [i] m.1 with
    | nil => exact absurd e hne
    | cons k l =>
      rw [e] at key hs
      have hk := key k (List.mem_cons_self ..)
      cases l with
      | nil => exact sing (wf.move hk)
      | cons k2 l =>
        have hk2 := key k2 (List.mem_cons_of_mem _ (List.mem_cons_self ..))
        have hlt := (List.pairwise_cons.mp hs).1 k2 (List.mem_cons_self ..)
        have h1 := (rowIn hk).1
        have : k = k2 := by
          cases er : row hi i with
          | nil => rw [er] at hk; exact absurd hk List.not_mem_nil
          | cons y ys =>
            rw [er] at hk hk2 h1
            cases ys with
            | nil =>
              rw [List.mem_singleton] at hk hk2
              rw [← hk] at hk2
              exact (Prod.mk.inj hk2).2.symm
            | cons _ _ => simp at h1
        omega
end Ct
/-! Math 5: a world has few pairs and few ways. -/
namespace Ct
open CM (InR Wf Qt Rep row reps Alike)
theorem ix_row {Pr : Int → List Move → Prop} {R : Rows} {i : Int} (h : IxAll Pr 0 R) (hi : InR R.length i) : Pr i (row R i) := by
  have := h _ _ (row_at hi)
  have h1 := hi.1
  rwa [show (0 : Int) + (i.toNat : Int) = i by omega] at this
theorem ix_mem {Pr : Int → List Move → Prop} {R : Rows} {i : Int} {m : Move} (h : IxAll Pr 0 R) (hm : m ∈ row R i) (h0 : InR R.length i) : Pr i (row R i) := ix_row h h0
theorem lev_rng {a dep n : Nat} {i : Int} (hn : n = a + 5 + 2 * dep) (h : InR n i) : InR (a + dep + 3) (levB a dep i) := by
  have h1 := h.1
  have h2 := h.2
  unfold levB
  refine ⟨?_, ?_⟩ <;> repeat' split
  all_goals omega
theorem lev_qt {ds : List Deed} {a dep : Nat} {hi : Rows} (h : IxAll (HighRow ds a dep) 0 hi) (hl : hi.length = a + 5 + 2 * dep) {i j : Int} (h0 : InR hi.length i) (q : Qt hid hi i j) : InR hi.length j ∧ levB a dep j = levB a dep i := by
  induction q with
  | refl => exact ⟨h0, rfl⟩
  | step _ h1 h2 ih =>
    obtain ⟨h3, h4⟩ := ih
    have := ((ix_row h h3).mv _ h1).2
    rw [← hl, if_pos h2] at this
    exact ⟨this.1, this.2.trans h4⟩
theorem lev_rep {ds : List Deed} {a dep : Nat} {hi : Rows} (h : IxAll (HighRow ds a dep) 0 hi) (hl : hi.length = a + 5 + 2 * dep) {i r : Int} {d : Deed} (h0 : InR hi.length i) (hd : hid d = false) (q : Rep hid hi i d r) : InR hi.length r ∧ levB a dep r = nxB a dep (levB a dep i) := by
  obtain ⟨j, hj, hm⟩ := q
  obtain ⟨h3, h4⟩ := lev_qt h hl h0 hj
  have := ((ix_row h h3).mv _ hm).2
  rw [← hl, if_neg (by rw [hd]; decide), h4] at this
  exact this
theorem low_at {ds : List Deed} {a dep : Nat} {lo : Rows} (h : IxAll (LowRow ds a dep) 0 lo) {i : Int} (h0 : InR lo.length i) {m : Move} (hm : m ∈ row lo i) : hid m.1 = false ∧ m.2 = nxB a dep i := ((ix_row h h0).mv m hm).2
def fib (a dep n : Nat) (l : Int) : List Int := (rng n).filter fun i => decide (levB a dep i = l)
theorem mem_fib {a dep n : Nat} {l i : Int} : i ∈ fib a dep n l ↔ InR n i ∧ levB a dep i = l := by
  unfold fib
  rw [List.mem_filter, mem_rng, decide_eq_true_iff]
theorem fib_sorted (a dep n : Nat) (l : Int) : (fib a dep n l).Pairwise (· < ·) := (rng_sorted n).filter _
theorem few {x y : Int} : ∀ {s : List Int}, s.Pairwise (· < ·) → (∀ z ∈ s, z = x ∨ z = y) → s.length ≤ 2
  | [], _, _ => by decide
  | [_], _, _ => by simp
  | [_, _], _, _ => by simp
  | p :: q :: r :: t, h, g => by
    have h1 := List.pairwise_cons.mp h
    have h2 := List.pairwise_cons.mp h1.2
    have a1 := h1.1 q (by simp)
    have a2 := h1.1 r (by simp)
    have a3 := h2.1 r (by simp)
    have b1 := g p (by simp)
    have b2 := g q (by simp)
    have b3 := g r (by simp)
    omega
theorem len_fib (a dep : Nat) (l : Int) : (fib a dep (a + 5 + 2 * dep) l).length ≤ 2 := by
  refine few (x := if l ≤ a then l else l + 1) (y := if l = a then a + 1 else if l ≤ a + dep + 1 then l + dep + 2 else a + 4 + 2 * dep) (fib_sorted _ _ _ _) fun z hz => ?_
  obtain ⟨h, e⟩ := mem_fib.mp hz
  have h1 := h.1
  have h2 := h.2
  unfold levB at e
  repeat' split at e
  all_goals repeat' split
  all_goals omega
theorem cls_lev {ds : List Deed} {lo hi LO HI : Rows} (wl : Wf lo) (wf : Wf hi) (al : Alike lo LO) (ah : Alike hi HI) (h : Levels ds lo hi) : ∃ S, Cls LO HI S := by
  obtain ⟨a, dep, h1, h2, h3, h4, h5, h6⟩ := h
  refine ⟨(rng hi.length).map fun i => (levB a dep i, i), cls_of wf al ah (List.mem_map.mpr ⟨0, mem_rng.mpr ⟨by decide, by omega⟩, ?_⟩) ?_ (fun p hp => ?_) fun p hp m hm => ?_⟩
  · rw [levB, if_pos (by omega)]
  · rw [List.length_map, len_rng]
    omega
  · obtain ⟨i, hi', rfl⟩ := List.mem_map.mp hp
    have h0 := mem_rng.mp hi'
    refine ⟨?_, h0⟩
    rw [h3]
    exact lev_rng h4 h0
  · obtain ⟨i, hi', rfl⟩ := List.mem_map.mp hp
    have h0 := mem_rng.mp hi'
    have hl : InR lo.length (levB a dep i) := by
      rw [h3]
      exact lev_rng h4 h0
    obtain ⟨g1, g2⟩ := low_at h6 hl hm
    refine ⟨fun q => absurd q (by rw [g1]; decide), fun _ r hr => List.mem_map.mpr ⟨r, ?_, ?_⟩⟩
    · exact mem_rng.mpr (lev_rep h5 h4 h0 g1 hr).1
    · rw [g2, (lev_rep h5 h4 h0 g1 hr).2]
theorem clw_lev {ds : List Deed} {lo hi LO HI : Rows} (wl : Wf lo) (wf : Wf hi) (WF : Wf HI) (al : Alike lo LO) (ah : Alike hi HI) (h : Levels ds lo hi) : ∃ W, Clw LO HI W := by
  obtain ⟨a, dep, h1, h2, h3, h4, h5, h6⟩ := h
  have mw : ∀ {l : Int} {s : List Int}, (l, s) ∈ ((rng lo.length).flatMap fun l => (subs (fib a dep hi.length l)).map fun s => (l, s)) ↔ InR lo.length l ∧ s ∈ subs (fib a dep hi.length l) := fun {l s} => by
    rw [List.mem_flatMap]
    constructor
    · rintro ⟨x, hx, h⟩
      obtain ⟨t, ht, e⟩ := List.mem_map.mp h
      rw [Prod.mk.injEq] at e
      obtain ⟨rfl, rfl⟩ := e
      exact ⟨mem_rng.mp hx, ht⟩
    · rintro ⟨h1, h2⟩
      exact ⟨l, mem_rng.mpr h1, List.mem_map.mpr ⟨s, h2, rfl⟩⟩
  refine ⟨(rng lo.length).flatMap fun l => (subs (fib a dep hi.length l)).map fun s => (l, s), clw_of wf WF al ah (mw.mpr ⟨⟨by decide, by omega⟩, mem_subs (fib_sorted _ _ _ _) (by simp) fun x hx => ?_⟩) ?_ (fun p hp => ?_) fun p hp m hm => ?_⟩
  · rw [List.mem_singleton] at hx
    rw [hx]
    refine mem_fib.mpr ⟨⟨by decide, by omega⟩, ?_⟩
    rw [levB, if_pos (by omega)]
  · have := len_flat (f := fun l => (subs (fib a dep hi.length l)).map fun s => (l, s)) (n := 4) (rng lo.length) fun x _ => by
      rw [List.length_map, len_subs]
      have : (fib a dep hi.length x).length ≤ 2 := by
        rw [h4]
        exact len_fib a dep x
      exact Nat.pow_le_pow_right (by decide) this
    rw [len_rng] at this
    omega
  · obtain ⟨l, s⟩ := p
    obtain ⟨g1, g2⟩ := mw.mp hp
    exact ⟨g1, fun i hi' => (mem_fib.mp (subs_mem g2 i hi')).1⟩
  · obtain ⟨l, s⟩ := p
    obtain ⟨g1, g2⟩ := mw.mp hp
    obtain ⟨g3, g4⟩ := low_at h6 g1 hm
    refine ⟨fun q => absurd q (by rw [g3]; decide), fun _ _ => mw.mpr ⟨wl.move hm, mem_subs (fib_sorted _ _ _ _) (uni_sorted _ _ _) fun k hk => ?_⟩⟩
    obtain ⟨i, hi', hr⟩ := (mem_uni wf).mp hk
    obtain ⟨f1, f2⟩ := mem_fib.mp (subs_mem g2 i hi')
    obtain ⟨r1, r2⟩ := lev_rep h5 h4 f1 g3 hr
    refine mem_fib.mpr ⟨r1, ?_⟩
    rw [r2, f2, g4]
theorem Wld.cls {lo hi LO HI : Rows} {ds : List Deed} (h : Wld lo hi ds) (wl : Wf lo) (wf : Wf hi) (al : Alike lo LO) (ah : Alike hi HI) : ∃ S, Cls LO HI S := by
  rcases h.shape with ⟨h1, h2⟩ | ⟨h1, h2, _⟩ | h1
  · exact ⟨_, cls_all wl wf al ah (by have := Nat.mul_le_mul h1 h2; omega)⟩
  · exact ⟨_, cls_all wl wf al ah (by have := Nat.mul_le_mul h1 h2; omega)⟩
  · exact cls_lev wl wf al ah h1
theorem Wld.clw {lo hi LO HI : Rows} {ds : List Deed} (h : Wld lo hi ds) (wl : Wf lo) (wf : Wf hi) (WF : Wf HI) (al : Alike lo LO) (ah : Alike hi HI) : ∃ W, Clw LO HI W := by
  rcases h.shape with ⟨h1, h2⟩ | ⟨h1, h2, h3⟩ | h1
  · exact ⟨_, clw_all wl wf WF al ah h1 h2⟩
  · exact ⟨_, clw_rung wl wf WF al ah h1 h2 h3⟩
  · exact clw_lev wl wf WF al ah h1
theorem Wld.l40 {lo hi : Rows} {ds : List Deed} (h : Wld lo hi ds) : lo.length ≤ 40 ∧ hi.length ≤ 40 := by
  rcases h.shape with ⟨h1, h2⟩ | ⟨h1, h2, h3⟩ | h1
  · omega
  · omega
  · have := h1.good.2.2
    omega
end Ct
set_option maxHeartbeats 4000000
/-! The error of a bad reply: how it is made. -/
namespace Ct
open PySem PySem.Spec PyProof.Rows PySem.W PySem.Calls PySem.HandSPX L2
/-- what the top has written of the error's class -/
structure Br (P : Program) (K : Frag) (mg : Str → Option Value) (C fIn : Addr) : Prop where
  gC : mg "BadReply" = some (.ref C)
  cls : ∃ nm q N bs bm sn sub ab col dd k0 k1 k2 k3 k5, K.lookup C = some (excClassObj nm q C N bs bm true sn sub ab col dd k0 k1 k2 k3 k5 "ValueError.__new__") ∧ refsVE bm = true ∧ alongIn K "__init__" bm = some (some (.builtin "ValueError.__init__"))
  sa : findIn K (.ref C) "__setattr__" = some (some (.builtin "object.__setattr__"))
  ga : findIn K (.ref C) "__getattribute__" = some (some (.builtin "BaseException.__getattribute__"))
  gg : findIn K (.ref C) "__getattr__" = some none
  noN : findIn K (.ref C) "at" = some none
  iC : findIn K (.ref C) "__init__" = some (some (.ref fIn))
  tC : typeIn K (.ref fIn) = some (.type "function")
  kC : keepIn K (.ref C) = true
  exC : subIn K (.ref C) (.type "BaseException") = some true
  tyC : typeIn K (.ref C) = some (.type "type")
  hdC : hasDictIn K C = true
  te : exmOne K (.ref C) (.ref C) = some true
  sV : subIn K (.ref C) (.type "ValueError") = some true
  own : mroIn K C (.ref C) = some true
  noS : mg "super" = none
  noT : nsIn K cStatics "thirdparty.any" = some none
  noP : (P.main.scope.names.lookup ("super" : Str)).isSome = false
  fn : ∃ oc od doc pm an cda ct cc osl ccl cdd vs ccs file tf cl cld csl,
    K.lookup fIn = some ⟨oc, od, .func (ksFn "__init__" "BadReply.__init__" (defArgs s_BadReply_init) (defBody s_BadReply_init) (defScope s_BadReply_init) .none .none doc pm an (.ref cda) ct cc), osl⟩ ∧ codeIn K (.ref cda) "BadReply.__init__" = true ∧
      K.lookup cda = some ⟨ccl, cdd, .fields vs, ccs⟩ ∧ vs[2]? = some (.str file tf) ∧ ((P.main.file : Str) == file) = true ∧ K.lookup cc = some ⟨cl, cld, .cell (some (.ref C)), csl⟩
theorem size_one (v : Value) : [v].length ≤ sizeLine := by
  rw [sizeLine_eq]
  exact (by decide : 1 ≤ 16777216)
section
variable {prog : Program} {w : World} {A : Around} {Er : Value → Shared → Prop} {h : Heap} {g : Array GenState} {d : PySem.Drawn} {t : Nat} {ost : PySem.OsState}
/-- the base's maker, bound to the object, is called -/
theorem call_mwV {nm q : Str} {C N uu e t0 : Addr} {bs bm : List Value} {hdct : Bool} {sn : List Str} {sub : List Value} {ab : Bool} {col : Option Bool} {dd : Option Addr} {k0 k1 k2 k3 k5 : Option Value} {rest : List Value} {Q : Value → Shared → Prop}
    (hC : h.get? C = some (excClassObj nm q C N bs bm hdct sn sub ab col dd k0 k1 k2 k3 k5 "ValueError.__new__")) (hee : h.get? e = some (excO C t0)) (hz1 : h.get? uu = some (kxs_mw "ValueError.__init__" e)) (hz : rest.length ≤ sizeLine)
    (hq : ∀ h' t1, (∀ b o, b ≠ e → h.get? b = some o → h'.get? b = some o) → h'.get? e = some (excO C t1) → Q .none ⟨h', g, d, t, ost⟩) :
    wpAny (model prog w) A (call (.ref uu) rest) Q Er ⟨h, g, d, t, ost⟩ := by
  have fbb := F.excBase_ValueError
  refine wpAny_call (codeAny_of_tree ?_)
  show wpAny _ A.in1 (callAny (.ref uu) ⟨rest, []⟩) _ _ _
  simp only [callAny]
  refine wpAny_bind (wpAny_load hz1 ?_)
  simp only [kxs_mw, show (Value.type "method-wrapper" == Value.type "method" || Value.type "method-wrapper" == Value.type "builtin_function_or_method" || Value.type "method-wrapper" == Value.type "method-wrapper") = true by decide, if_true]
  refine KFB.if_so (by decide) ?_
  refine wpAny_bind (check_bound_init fbb.toExcCallFacts hC hee rfl ?_)
  refine wpAny_bind (wpAny_pure (wpAny_pure ?_))
  refine ⟨plainId_quiet fbb.init.plain _, codeAny_builtin fbb.initEntry ?_⟩
  exact exc_init_tree (cls := .ref C) (t0 := t0) (dv := none) (c2 := .none) (c3 := .none) (b4 := .bool false) hee hz fun h' k e' _ => hq h' _ k e'
end
/-- how the object at x stands behind its maker -/
structure BrEnd (h h' : Heap) (x C dx : Addr) (v : Value) : Prop where
  keep : ∀ b o, b ≠ x → h.get? b = some o → h'.get? b = some o
  obj : ∃ t1, h'.get? x = some { cls := .ref C, dict := some dx, data := .fields #[.ref t1, .none, .none, .none, .bool false, .none] }
  dbig : h.objs.size ≤ dx
  dne : dx ≠ x
  ns : h'.Ns1 dx (fun y => if y = "at" then some v else none)
section
variable {prog : Program} {w : World} {A : Around} {Er : Value → Shared → Prop} {Rt : Result → Shared → Prop} {s : Shared} {K : Frag} {mg : Str → Option Value} {C fIn : Addr}
theorem br_init (T : Br prog K mg C fIn) {x t0 : Addr} {v : Value} (X : K.In s.heap) (hg : s.heap.Ns mainGlobals mg) (hb : ∃ mb, s.heap.Ns builtinsNs mb ∧ ∀ x : Str, x ≠ "__name__" → mb x = bootBuiltins x) (hlim : s.heap.NoLimit)
    (hx : s.heap.get? x = some (excO C t0)) (hnx : K.lookup x = none) (hroom : A.depth < recursionLimit)
    (hq : ∀ h' tk dx, BrEnd s.heap h' x C dx v → Rt (.ok (.ret .none)) { s with heap := h', toks := tk }) :
    codeAny (model prog w) A (.call (.ref fIn) ⟨[.ref x, v], []⟩) Rt s := by
  obtain ⟨oc, od, doc, pm, an, cda, ct, cc, osl, ccl, cdd, vs, ccs, file, tf, cl, cld, csl, ho, hcd, hcode, hvs, hfile, hcell⟩ := T.fn
  obtain ⟨nm, q, N, bs, bm, sn, sub, ab, col, dd, k0, k1, k2, k3, k5, hC, hbm, hal⟩ := T.cls
  obtain ⟨mb, hb1, hb2⟩ := hb
  have hclz : clsIn K C = some { name := nm, bases := bs, mro := .ref C :: bm, ns := N, qualname := q, hasDict := true, slotNames := sn, subclasses := sub, abstract := ab, collection := col, hasDel := false } := by unfold clsIn; rw [hC] <;> rfl
  have hxC : x ≠ C := fun e => by rw [e, hC] at hnx; cases hnx
  have kS : (defScope s_BadReply_init).names.lookup ("super" : Str) = some .globalImplicit := by decide +kernel
  have kK : (defScope s_BadReply_init).names.lookup ("__class__" : Str) = some .free := by decide +kernel
  have kF : (defScope s_BadReply_init).names.lookup ("self" : Str) = some .local := by decide +kernel
  have kA : (defScope s_BadReply_init).names.lookup ("at" : Str) = some .local := by decide +kernel
  have kCell : ∀ x ∈ (defScope s_BadReply_init).names, x.2 ≠ .cell := by decide +kernel
  have kLoc : ∀ y ∈ ([("self", .ref x), ("at", v)] : List (Str × Value)), (defScope s_BadReply_init).names.lookup y.1 = some .local := fun y hyy => by
    rcases List.mem_cons.mp hyy with rfl | hyy
    · exact kF
    · rw [List.mem_singleton] at hyy
      rw [hyy]
      exact kA
  refine ks_codeAny_call_defAt (fd := ksFn "__init__" "BadReply.__init__" (defArgs s_BadReply_init) (defBody s_BadReply_init) (defScope s_BadReply_init) .none .none doc pm an (.ref cda) ct cc) (body := defBody s_BadReply_init) (binds := [("self", .ref x), ("at", v)]) hroom (X _ _ ho) rfl hlim (codeRec_of X hcd) rfl (BindsTo.of_eq rfl) kCell kLoc (fun h₁ hns hk₁ => ?_) rfl rfl rfl
  have X₁ : K.In h₁ := X.keeps hk₁
  have hx₁ := hk₁ _ _ hx
  refine ks_wpAt_execs_cons (ks_wpAt_Expr_any (ks_wpAt_MethodCall ?_))
  refine ks_wpAt_super_base (env := ksEnv "BadReply.__init__" (defScope s_BadReply_init) s.heap.objs.size fIn (.ref cda) cc) kS kK rfl rfl (X₁ _ _ ho) rfl rfl rfl (X₁ _ _ hcode) rfl hvs hfile T.noP ?_
  refine ks_loadName_global rfl kS (loadGlobal_builtin (hg.keeps hk₁) T.noS (hb1.keeps hk₁) ((hb2 _ (by decide)).trans rfl) ⟨rfl, ?_⟩)
  refine wpAny_loadName_free rfl kK rfl ⟨_, X₁ _ _ hcell, rfl⟩ ?_
  refine wpAny_loadName_local rfl kF hns rfl ?_
  refine ks_wpAny_isType_cls (X₁ _ _ hC) rfl ⟨rfl, ?_⟩
  refine ks_wpAny_call_super (X₁ _ _ hC) rfl hx₁ rfl (fun c e => by cases e) (looks_mroIn X₁ T.own) (fun h₂ e₂ hk₂ => ?_)
  have X₂ : K.In h₂ := X₁.keeps hk₂
  have hx₂ := hk₂ _ _ hx₁
  have J₂ : InstAt h₂ x (excO C t0) C none := ⟨hx₂, rfl, rfl, trivial⟩
  refine kxs_getMethod kxs_ValueError e₂ (looks_opaque X₂ T.noT) (l₀ := .ref C :: bm) ((looks_clsIn X₂ hclz).andThen .now) (ESX.drop_own C bm) X₂ hal (J₂.type.andThen (looks_subIn X₂ T.sV)) hxC rfl ?_
  have hk₃ : ∀ b o, h₂.get? b = some o → (h₂.push (kxs_mw "ValueError.__init__" x)).get? b = some o := fun b o e => Heap.get?_push_of_some _ e
  have X₃ : K.In (h₂.push (kxs_mw "ValueError.__init__" x)) := X₂.keeps hk₃
  have hz1 : (h₂.push (kxs_mw "ValueError.__init__" x)).get? h₂.objs.size = some (kxs_mw "ValueError.__init__" x) := Heap.get?_push_at rfl rfl
  refine kxs_callWith (i := "ValueError.__init__") (x := x) (by rfl) (evalArgs_plain (rest := []) (spliced_cons (Constant_str (k := 0) (pos := ⟨0, 0, 0, 0⟩) (spliced_nil ⟨hz1, ?_⟩))))
  refine call_mwV (X₃ _ _ hC) (hk₃ _ _ hx₂) hz1 (size_one _) fun h₄ t1 k₄ e₄ => ?_
  have X₄ : K.In h₄ := fun a o e => k₄ a o (fun z => by rw [z, hnx] at e; cases e) (X₃ a o e)
  have hLx : s.heap.objs.size ≠ x := Nat.ne_of_gt (Heap.lt_size hx)
  have hn₄ : h₄.Ns s.heap.objs.size (fun y => ([("self", .ref x), ("at", v)] : List (Str × Value)).reverse.lookup y) := by
    obtain ⟨oL, es, ep, hL, r⟩ := (hns.keeps hk₂).keeps hk₃
    exact ⟨oL, es, ep, k₄ _ _ hLx hL, r⟩
  refine ks_wpAt_execs_cons (wpAt_of_wpAny ?_)
  refine plainObj_wpAny_Assign_Attribute ?_
  refine wpAny_Name (wpAny_loadName_local rfl kA hn₄ rfl (wpAny_Name (wpAny_loadName_local rfl kF hn₄ rfl ?_) (by decide))) (by decide)
  refine set_plain X₄ (ox := excO C t1) (od := none) ⟨e₄, rfl, rfl, trivial⟩ T.sa ?_
  refine exc_osa X₄ e₄ hclz (show refsVE (.ref C :: bm) = true from hbm) rfl T.noN (fun h₅ tk₅ dx k₅ dn dne hx₅ hn₅ => ?_)
  refine wpAt_of_wpAny ?_
  show wpAny _ _ (execs _ _) _ _ _
  refine wpAny_execs_nil (hq h₅ tk₅ dx ⟨fun b o hb e => k₅ b o hb (k₄ b o hb (hk₃ b o (hk₂ b o (hk₁ b o e)))), ⟨t1, hx₅⟩, ?_, dne, hn₅⟩)
  obtain ⟨oL, es, ep, hL, r⟩ := hn₄
  exact Nat.le_of_lt (Nat.lt_of_lt_of_le (Heap.lt_size hL) dn)
end
end Ct
/-! The error of a bad reply: raised, asked for itz class, read. -/
namespace Ct
open PySem PySem.Spec PyProof.Rows PySem.W PySem.Calls PySem.HandSPX L2
/-- a made error -/
structure BrMade (h h' : Heap) (e C d : Addr) (v : Value) : Prop where
  keep : ∀ b o, h.get? b = some o → h'.get? b = some o
  new : h.objs.size ≤ e
  obj : ∃ oe vs, h'.get? e = some oe ∧ oe.cls = .ref C ∧ oe.dict = some d ∧ oe.data = .fields vs ∧ vs[1]? = some .none ∧ vs[2]? = some .none
  dbig : h.objs.size ≤ d
  dne : d ≠ e
  ns : h'.Ns1 d (fun y => if y = "at" then some v else none)
section
variable {prog : Program} {w : World} {A : Around} {E : Value → Shared → Prop} {R : Result → Shared → Prop} {s : Shared} {K : Frag} {mg : Str → Option Value} {C fIn : Addr}
theorem br_made (T : Br prog K mg C fIn) {v : Value} (X : K.In s.heap) (hgg : s.heap.Ns mainGlobals mg) (hb : ∃ mb, s.heap.Ns builtinsNs mb ∧ ∀ xo : Str, xo ≠ "__name__" → mb xo = bootBuiltins xo) (hlim : s.heap.NoLimit) (hroom : A.depth + 1 < recursionLimit)
    (hq : ∀ h' tkk e d, BrMade s.heap h' e C d v → R (.ok (.ret (.ref e))) { s with heap := h', toks := tkk }) :
    codeAny (model prog w) A (.call (.ref C) ⟨[v], []⟩) R s := by
  obtain ⟨nm, qz, N, bs, bm, sn, sub, ab, col, dd, k0, k1, k2, k3, k5, hC, hbm, _⟩ := T.cls
  obtain ⟨hq0, g, drw, tkk, ost⟩ := s
  have k : ∀ b o, hq0.get? b = some o → ((hq0.push (kdv_tup [v])).push (excO C hq0.objs.size)).get? b = some o := fun b o e => Heap.get?_push_of_some _ (Heap.get?_push_of_some _ e)
  have hgz : ((hq0.push (kdv_tup [v])).push (excO C hq0.objs.size)).get? (hq0.objs.size + 1) = some (excO C hq0.objs.size) := by heap_get
  have hnz : K.lookup (hq0.objs.size + 1) = none := by
    cases e : K.lookup (hq0.objs.size + 1) with
    | none => rfl
    | some o =>
      have zn : hq0.get? (hq0.objs.size + 1) = some o := X _ _ e
      exact absurd (Nat.lt_of_succ_lt (Heap.lt_size zn)) (Nat.lt_irrefl _)
  refine call_own F.excBase_ValueError (fun X => refsVE_contains X bm hbm) (X _ _ hC) (looks_findIn X T.iC) (fun self => bind_fn X self T.tC) (size_one v) ?_
  obtain ⟨mb, hb1, hb2⟩ := hb
  refine br_init (s := ⟨(hq0.push (kdv_tup [v])).push (excO C hq0.objs.size), g, drw, tkk, ost⟩) T (X.keeps k) (hgg.keeps k) ⟨mb, hb1.keeps k, hb2⟩ (hlim.keeps k) hgz hnz hroom fun h' tk' dx M => ?_
  refine ⟨rfl, hq h' tk' (hq0.objs.size + 1) dx ⟨fun b o e => M.keep b o (Nat.ne_of_lt (Nat.lt_succ_of_lt (Heap.lt_size e))) (k b o e), Nat.le_succ _, ?_, ?_, M.dne, M.ns⟩⟩
  · obtain ⟨t1, hx⟩ := M.obj
    exact ⟨_, _, hx, rfl, rfl, rfl, rfl, rfl⟩
  · have zn := M.dbig
    rw [Heap.size_push, Heap.size_push] at zn
    show hq0.objs.size ≤ dx
    omega
end
theorem at_rel {v : V} {vn : Value} (r : RelV v vn) (f : Str) : RelO (List.lookup f [(("at" : Str), v)]) (if f = "at" then some vn else none) := by
  by_cases hw : f = "at"
  · subst hw
    rw [if_pos rfl]
    exact (by simp [List.lookup] : List.lookup ("at" : Str) [(("at" : Str), v)] = some v) ▸ r
  · rw [if_neg hw]
    have qz : List.lookup f [(("at" : Str), v)] = none := by simp [List.lookup, (by simpa using hw : (f == ("at" : Str)) = false)]
    rw [qz]
    trivial
section
variable {X : Cx} {C fIn : Addr}
/-- BadReply(xo) -/
def tMkBr (C : Addr) (ta : TA) : L2.St → Hp → XK → Prop := fun σ H Q => ta σ H fun vs H1 => ∃ v, vs = [v] ∧ ∀ d, H1 d = none → Q (.ref C) (some d) (upd H1 d (.xd [(("at" : Str), v)]))
theorem pmk_br {a : Expr} {ta : TA} {p pos : Pos} {k : Nat} (T : Br X.prog X.K X.mg C fIn) (hr : Room k X.A) (ha : PA X [a] ta) (hgg : Gl X "BadReply" := by rfl)
    (he : starEach (a :: []) X.env = (false, eval a X.env) :: starEach [] X.env := by rfl) (hpl : (backTo pos (starEach [] X.env)).any (·.1) = false := by rfl) :
    L2N.PMk X (.Call (.Name "BadReply" p) [a] [] pos) (tMkBr C ta) := by
  intro pn s σ H Q I h
  refine wpAny_Call_Name_kw (ld_glob I hgg T.gC ?_)
  refine callWith_K (h₀ := X.base) I.ok.mod.kin T.kC (thn (ha.run pos pn s σ H _ I h) fun us s1 hh => ?_) he hpl
  obtain ⟨vs, H1, I1, r1, v, rfl, q1⟩ := hh
  refine ⟨I1.kIn, ?_⟩
  obtain ⟨vn, rfl, rv⟩ := r1.one
  show wpAny _ _ (call (.ref C) [vn]) _ _ _
  obtain ⟨mb, hb1, hb2⟩ := I1.mod.blt
  have hgl := I1.mod.glob.keeps I1.bk
  have hbl := hb1.keeps I1.bk
  have hlim := I1.nolimit
  obtain ⟨hq0, g, drw, tkk, ost⟩ := s1
  refine wpAny_call (br_made T I1.kIn hgl ⟨mb, hbl, hb2⟩ hlim (by have := hr.dp; omega) fun h' tk' e d M => ?_)
  show L2N.MkP X pn σ Q (.ref e) ⟨h', g, drw, tk', ost⟩
  obtain ⟨oe, fv, hoe, hcc, hd, hdat, h1, h2⟩ := M.obj
  obtain ⟨G, g1, g2⟩ := restrict h' fun b => decide (b ≠ e)
  have gkk : ∀ b, b ≠ e → G.get? b = h'.get? b := fun b hb => g1 b (decide_eq_true hb)
  have ge : G.get? e = none := g2 e (by simp)
  have old : ∀ b o, hq0.get? b = some o → G.get? b = some o := fun b o qz => (gkk b (Nat.ne_of_lt (Nat.lt_of_lt_of_le (Heap.lt_size qz) M.new))).trans (M.keep b o qz)
  have ob : ObjOk X.prog X.w (upd H1 d (.xd [(("at" : Str), v)])) G d (.xd [(("at" : Str), v)]) :=
    ⟨_, M.ns.at (fun o qz => (gkk d M.dne).trans qz), fun f => at_rel rv f⟩
  have J : Inv X pn σ (upd H1 d (.xd [(("at" : Str), v)])) ⟨G, g, drw, tk', ost⟩ := I1.laid (t' := tk') old M.dbig ob
  refine ⟨e, oe, fv, ⟨G, g, drw, tk', ost⟩, _, .ref C, some d, rfl, J, fun b o qz => ?_, ge, hoe, ⟨hcc, hd, fun vs e => by rw [hdat] at e; cases e; exact h2⟩, hdat, h1, ?_, rfl, I1.bare, raises_own T.exC T.tyC, q1 d (I1.hok.fresh M.dbig)⟩
  · by_cases hb : b = e
    · have q' : G.get? b = some o := qz
      rw [hb, ge] at q'
      cases q'
    · exact (gkk b hb).symm.trans qz
  · rw [upd_ne (Ne.symm M.dne)]
    exact I1.hok.fresh M.new
/-- raise BadReply(xo) -/
def tRaiseBr (C : Addr) (W : WX) (ta : TA) : TS := fun _ σ H => tMkBr C ta σ H fun cls d H' => W cls d σ H'
theorem ps_raiseBr {a : Expr} {ta : TA} {W : WX} {p pos pos2 : Pos} {k : Nat} (hcc : X.calm = true) (T : Br X.prog X.K X.mg C fIn) (hr : Room k X.A) (tkk : L2N.Takes X W) (ha : PA X [a] ta) (hgg : Gl X "BadReply" := by rfl)
    (he : starEach (a :: []) X.env = (false, eval a X.env) :: starEach [] X.env := by rfl) (hpl : (backTo pos (starEach [] X.env)).any (·.1) = false := by rfl) :
    PS X (.Raise (some (.Call (.Name "BadReply" p) [a] [] pos)) none pos2) (tRaiseBr C W ta) := L2N.ps_raise hcc tkk (pmk_br T hr ha hgg he hpl)
end
/-- what isinstance wants of the class -/
structure BrC (K : Frag) (De : Addr) : Prop where
  cls : findIn K (.ref De) "__class__" = some (some (.builtin "object.__class__"))
  get : specialIn K (.builtin "object.__class__") "__get__" = some (some (.builtin "getset_descriptor.__get__"))
  tak : takesIn K (.builtin "object.__class__") = some true
  obj : mroIn K De (.type "object") = some true
section
variable {prog : Program} {w : World} {A : Around} {E : Value → Shared → Prop} {s : Shared} {K : Frag} {xo De : Addr} {ox : Obj} {od : Option Obj}
theorem find_cls {C : Addr} {a g : Value} {name : Str} (hcc : (clsIn K C).isSome = true) (ha : findIn K (.ref C) name = some (some a)) (hgg : specialIn K a "__get__" = some (some g)) (ht : takesIn K a = some true) : findObj K C od name = some (.bind g a) := by
  obtain ⟨cd, hcc⟩ := Option.isSome_iff_exists.mp hcc
  unfold findObj
  rw [hcc, Option.bind_some, ha, Option.bind_some]
  simp [hgg, ht]
theorem err_class {Q : Option Value → Shared → Prop} (c : XfC K De) (b : BrC K De) (X : K.In s.heap) (I : InstAt s.heap xo ox De od) (h : Q (some (.ref De)) { s with toks := s.toks + 1 }) : wpAny (model prog w) A (getAttr? (.ref xo) "__class__") Q E s := by
  have hf : findObj K De od "__class__" = some (.bind (.builtin "getset_descriptor.__get__") (.builtin "object.__class__")) := find_cls (by obtain ⟨cd, hcc, _⟩ := any_some c.hdC; rw [hcc]; rfl) b.cls b.get b.tak
  obtain ⟨hq0, g, d, t, ost⟩ := s
  have Lk0 := I.type (M := model prog w)
  have Lk1 := looks_findIn (M := model prog w) X c.ga
  have L2 := looks_findIn (M := model prog w) X c.gg
  have Lk3 := looks_find (M := model prog w) X I hf
  have sub : Looks (model prog w) hq0 (isInstance (.ref xo) (.type "BaseException")) true := Lk0.andThen (looks_subIn X c.exC)
  have n2 : (Value.builtin "BaseException.__getattribute__" == Value.builtin "object.__getattribute__") = false := by decide +kernel
  have n1 : (onTheHeap (Value.ref De) && Value.builtin "BaseException.__getattribute__" == Value.builtin "object.__getattribute__") = false := by rw [n2]; rfl
  unfold getAttr? getAttrBy? getAttrBy
  refine wpAny_bind (wpAny_mkText (wpAny_bind (wpAny_attempt (wpAny_holding (wpAny_bind (Lk0.at (wpAny_bind (Lk1.at ?_))))))))
  show wpAny _ _ (if (onTheHeap (Value.ref De) && Value.builtin "BaseException.__getattribute__" == Value.builtin "object.__getattribute__") = true then _ else _) _ _ _
  rw [n1, if_neg Bool.false_ne_true]
  unfold getAttrByItsOwn hookBefore
  refine wpAny_bind ?_
  rw [if_pos (show onTheHeap (Value.ref De) = true from rfl)]
  refine L2.at (wpAny_bind (wpAny_attempt (wpAny_holding ?_)))
  unfold callGetattribute
  rw [show (false && onTheHeap (Value.builtin "BaseException.__getattribute__")) = false from rfl, if_neg Bool.false_ne_true]
  unfold boundAndCalled
  rw [PySem.F.excAttr_ValueError.ga.bind (.ref xo)]
  refine wpAny_bind (wpAny_pure ?_)
  show wpAny _ _ (call (.builtin "BaseException.__getattribute__") [.ref xo, .str "__class__" t]) _ _ _
  refine wpAny_call (codeAny_call_builtin PySem.F.excAttr_ValueError.ga.plain PySem.F.entry_bexc_ga ?_)
  refine @check_slot (model prog w) _ _ ⟨hq0, g, d, t + 1, ost⟩ "BaseException.__getattribute__" "BaseException" "__getattribute__" (.ref xo) [.str "__class__" t] [] _ (by decide +kernel) (by decide +kernel) sub (PySem.F.args_bexc_ga (.ref xo) (.str "__class__" t)) ?_
  unfold Builtin.«object.__getattribute__»
  refine wpAny_bind (wpAny_of_eq (a := ((Value.ref xo : Value), [Value.str "__class__" t])) (by first | rfl | (simp only [slotArgs]; rfl)) ?_)
  refine wpAny_bind (wpAny_pure (wpAny_bind (Lk0.at (wpAny_bind (Lk3.at ?_)))))
  show wpAny _ _ (holding [Value.builtin "object.__class__"] (call (.builtin "getset_descriptor.__get__") [.builtin "object.__class__", .ref xo, .ref De]) >>= ret) _ _ _
  refine wpAny_bind (wpAny_holding (wpAny_call (class_get (s := ⟨hq0, g, d, t + 1, ost⟩) (ox := ox) (od := od) X I b.obj ?_)))
  refine wpAny_pure ?_
  show wpAny _ _ (handedOut (.ref De)) _ _ _
  rw [handedOut_of (v := .ref De) rfl]
  first
    | exact wpAny_pure (wpAny_pure h)
    | exact wpAny_pure h
    | exact wpAny_pure (wpAny_bind (wpAny_pure (wpAny_pure h)))
theorem err_kit (c : XfC K De) (b : BrC K De) : KitX K (.ref xo) (.ref De) (fun h => InstAt h xo ox De od) where
  ty := fun _ _ _ I => I.type
  it := fun _ _ X _ => by
    obtain ⟨cdD, hcD, _⟩ := any_some c.hdC
    unfold clsIn at hcD
    split at hcD
    · rename_i c' d' cd' sl' hoo
      intro A' Q' E' s' k qz
      unfold isType loadHead
      exact wpAny_bind (wpAny_loadPart (k _ _ (X _ _ hoo)) (wpAny_pure qz))
    · cases hcD
  ne := fun h tpp dd itz n sl X htt => by
    obtain ⟨cdD, hcD, _⟩ := any_some c.hdC
    refine Bool.eq_false_iff.mpr fun qz => ?_
    have e : De = tpp := Value.ref.inj (beq_iff_eq.mp qz)
    subst e
    unfold clsIn at hcD
    split at hcD
    · rename_i c' d' cd' sl' hoo
      have zn := (X _ _ hoo).symm.trans htt
      cases zn
    · cases hcD
  ca := fun X I k => err_class c b X I k
end
/-- isinstance(e, c), e the error that the suite holds, with itz own dict -/
def rIsB (K : Frag) (De a : Addr) (cls : Value) (d : Option Addr) : List V → Hp → VK → Prop := fun xs H Q => ∃ (c : V) (cv : Value) (b : Bool) (dd : Addr) (fs : List (Str × V)), xs = [.ref a, c] ∧ cls = .ref De ∧ d = some dd ∧ H dd = some (.xd fs) ∧ (∀ u, RelV c u → u = cv) ∧ kitOne K (.ref De) cv = some b ∧ Q (.bl b) H
theorem call_isB {X : Cx} {a De : Addr} {oe : Obj} {cls : Value} {d : Option Addr} {pn : List (Addr × Obj)} (C : XfC X.K De) (B : BrC X.K De) (hz : Zc cls d oe) (hf : ∃ vs, oe.data = .fields vs) : CallR (X.suite a ((a, oe) :: pn)) (.builtin "isinstance") (rIsB X.K De a cls d) := by
  intro pn s σ H xs us Q I r h
  obtain ⟨c, cv, b, dd, fs, rfl, rfl, rfl, hdd, hcv, e, qz⟩ := h
  cases r with
  | cons rx rr =>
    cases rr with
    | cons rt rr =>
    cases rr
    cases rx
    have ec := hcv _ rt
    subst ec
    obtain ⟨ha, _⟩ := I.pin (a, oe) (List.mem_append.mpr (.inl List.mem_cons_self))
    obtain ⟨vs, hv⟩ := hf
    have hx : ObjOk X.prog X.w H s.heap dd (.xd fs) := I.hok dd _ hdd
    obtain ⟨mA, hns, _⟩ := hx
    obtain ⟨od, hoo, _⟩ := lookIn_ns hns
    have J : InstAt s.heap a oe De (some od) := ⟨ha, hz.1, by unfold notCls; rw [hv] <;> rfl, by rw [hz.2]; exact hoo⟩
    exact kia_one (err_kit C B) I.kIn J e (fun zn => nomatch zn) fun tkk => ⟨.bl b, H, I.kept (t' := tkk) fun _ _ zn => zn, rfl, qz⟩
section
variable {P : Program} {w : World} {K : PySem.W.Frag} {mg : Str → Option Value} {base : Heap}
/-- a def that may let an error out -/
theorem ok_lets {xo qual : Str} {st : Stmt} {f : Addr} {fd : FuncData} {N ps : List Str} {k : Nat} {sp : Sp} (Fz : Fun K xo qual st f fd) (S : FnScope N ps (defScope st)) (len : ∀ vs H Q E, sp vs H Q E → vs.length = ps.length)
    (body : ∀ (cdv : Value) (A : Around) (outer : List Env) (s : Shared) (H : Hp) (vs : List V) (Q : VK) (E : XK), Room k (A.deeper (envOfC qual (defScope st) s.heap.objs.size f cdv)) → sp vs H Q E →
      ∃ t, PSs (cxOf (L2N.CX P w) P w K mg base N qual (defScope st) f cdv A outer s H E) (defBody st) t ∧ t { nx := fun _ H' => Q .non H', rt := Q } (start N vs) H) : FnOk P w K mg base (L2N.CX P w) (k + 1) f fd ps sp := by
  obtain ⟨oc, od, kV, doc, pm, an, cdv, ct, osl, rfl, lkk, hcd⟩ := Fz.ex
  exact fn_of lkk hcd S len fun A outer s H vs Q E hr hsp => body cdv A outer s H vs Q E hr hsp
end
end Ct
/-! Spoiler.__call__. -/
namespace Ct
open PySem PySem.Spec PyProof.Rows L2 Nd
open CM (InR Wf Qt Rep row reps Leads)
section
variable {P : Program} {w : World} {K : PySem.W.Frag} {mg : Str → Option Value} {base : Heap}
def spReply (w : World) (K : PySem.W.Frag) : Sp := fun vs H Q E => ∃ (a : Addr) (r : Int) (lv hv : V) (rd : Addr) (LO HI : Rows) (ds : List Deed) (qs : List Pr) (ρ : Pr → Int) (p : Pr) (str : List Deed) (there : Int) (rep : List Int), vs = [.ref a, .int r] ∧
  SpAt K H a lv hv rd p str there rep ∧ Gm w K H lv hv rd LO HI ds qs ρ ∧ Gk LO HI ds qs ρ ∧ (∀ r ∈ rep, (there, r) ∈ qs ∧ 0 < ρ (there, r)) ∧ rep.length ≤ 40 ∧
  (r ∉ rep → ∀ d : Addr, H d = none → E (.ref (He.ga K "BadReply")) (some d) (upd H d (.xd [(("at" : Str), .int r)]))) ∧
  (r ∈ rep → ∀ str2 there2 rep2 q tvs H', But a H H' → SpAt K H' a lv hv rd (there, r) str2 there2 rep2 → Plays LO HI qs ρ (there, r) str2 there2 rep2 → H' q = some (.lst tvs) → Paired (DeedAt H') tvs str2 → Q (.ref q) H')
theorem sc_Spoiler_call : FnScope (["self", "reply"] : List Str) ["self", "reply"] (defScope s_Spoiler_call) := ⟨rfl, rfl, rfl, by decide +kernel, rfl, by decide +kernel, by decide +kernel⟩
theorem ok_reply (F : TM K "__call__" "Spoiler.__call__" s_Spoiler_call (He.ma K (He.ga K "Spoiler") "__call__")) (T : Tx K mg) (U : Ty K mg) (B : Br P K mg (He.ga K "BadReply") (He.ma K (He.ga K "BadReply") "__init__")) (hne : He.ga K "Web" ≠ He.ga K "Spoiler")
    (D_is_whole : DOk P w K mg base 1 "is_whole" ["x", "least", "most"] spWhole) (L : ROk P w K mg base 1 (He.ma K (He.ga K "Web") "__len__") (spLen K))
    (D_Spoiler_own_begin : MOk P w K mg base 6 "Spoiler" "own_begin" ["self", "pair"] (spBegin w K)) : FnR P w K mg base (L2N.CX P w) 7 (He.ma K (He.ga K "Spoiler") "__call__") (spReply w K) := by
  obtain ⟨fd, F⟩ := F.ex
  have G : FnOk P w K mg base (L2N.CX P w) 7 (He.ma K (He.ga K "Spoiler") "__call__") fd ["self", "reply"] (spReply w K) := ok_lets F sc_Spoiler_call (fun vs H Q E h => by
    obtain ⟨a, r, lv, hv, rd, LO, HI, ds, qs, ρ, p, str, there, rep, rfl, _⟩ := h
    rfl) (fun cdv A outer s H vs Q E hr h => by
    obtain ⟨a, r, lv, hv, rd, LO, HI, ds, qs, ρ, p, str, there, rep, rfl, sp, gm, gk, near, l40, bad, good⟩ := h
    obtain ⟨dx, fs, sv, tl, rl, tvs, h1, h2, h3, h4, h5, h6, h7, h8, h9, h10, h11⟩ := sp.ex
    refine ⟨_, (pss_cons (ps_if (PW.pt (pw_or (pt_not (pt_val (pe_d D_is_whole (hr.mono (by decide)) (by rfl) (pa_cons (pv 1) (pa_cons pe_int (pa_cons (pe_op op_sub (pe_callB (call_lenW U L (hr.mono (by decide))) (by rfl) T.f_len (by decide +kernel) (pa_cons (pe_fld (pv 0) rfl) pa_nil)) pe_int) pa_nil)))))) (pw_or1 (pt_cmpR op_notIn_seq (pv 1) (pe_fld (pv 0) rfl) (by rfl))))) (pss_one (ps_raiseBr rfl B hr (L2N.takes_of rfl rfl rfl rfl) (by exact (pa_cons (pv 1) pa_nil)))) pss_nil)
      (pss_cons (ps_expr (pe_m D_Spoiler_own_begin (hr.mono (by decide)) (pv 0) (pa_cons (pe_tup (pa_cons (pe_fld (pv 0) rfl) (pa_cons (pv 1) pa_nil))) pa_nil)))
      (pss_one (ps_ret (pe_callTy call_list_of (by rfl) T.f_list (by decide +kernel) (pa_cons (pe_fld (pv 0) rfl) pa_nil)))))), ?_⟩
    have rng : r ∈ rep → InR HI.length r := fun hm => (gk.rng _ (near r hm).1).2
    have raise : r ∉ rep → ∃ v, [V.int r] = [v] ∧ ∀ d, H d = none → E (.ref (He.ga K "BadReply")) (some d) (upd H d (.xd [(("at" : Str), v)])) := fun hm => ⟨_, rfl, bad hm⟩
    refine ⟨_, rfl, _, rfl, a, _, dx, fs, _, rfl, h1, T.c_Spoiler, T.n_Spoiler_own_high, h2.high, hv, HI, rfl, gm.hi, by have := gk.h40; omega, _, _, rfl, rfl, r, 0, _, rfl, _, rfl, ?_⟩
    by_cases hi : 0 ≤ r ∧ r ≤ (HI.length : Int) - 1
    · rw [decide_eq_true hi]
      refine iteF ⟨_, rfl, _, rfl, a, _, dx, fs, _, rfl, h1, T.c_Spoiler, T.n_Spoiler_own_replies, h10, rl, _, rfl, .inl (SqL.of h11), rfl, flat_ints _, _, rfl, ?_⟩
      rw [in_ints]
      by_cases hm : r ∈ rep
      · rw [decide_eq_true hm]
        refine iteF ?_
        refine ⟨_, rfl, a, dx, fs, rfl, h1, h2.nb, _, rfl, a, _, dx, fs, _, rfl, h1, T.c_Spoiler, T.n_Spoiler_own_there, h9, _, rfl, szk 2 rfl, fun t ht => ?_⟩
        have s1 := Same.new1 (o := .tup [V.int there, V.int r]) ht
        refine ⟨a, dx, .ref t, (there, r), lv, hv, rd, LO, HI, ds, qs, ρ, fs, rfl, s1 _ _ h1, h2, h3, ⟨t, rfl, upd_same⟩, gm.mono s1, gk, (near r hm).1, (near r hm).2, fun str2 there2 rep2 H2 b2 sp2 pl2 => ?_⟩
        obtain ⟨dx2, fs2, sv2, tl2, rl2, tvs2, g1, g2, g3, g4, g5, g6, g7, g8, g9, g10, g11⟩ := id sp2.ex
        refine ⟨_, rfl, a, _, dx2, fs2, _, rfl, g1, T.c_Spoiler, T.n_Spoiler_own_stretch, g6, tl2, _, rfl, .inl (SqL.of g7), fun q hq => ?_⟩
        have s3 := Same.new1 (o := .lst tvs2) hq
        exact good hm str2 there2 rep2 q tvs2 _ (fun b u hb e => s3 _ _ (b2 b u hb (s1 _ _ e))) (sp2.mono s3) pl2 upd_same (deeds_all g8 (Tups.same s3))
      · rw [decide_eq_false hm]
        exact iteT ⟨_, rfl, raise hm⟩
    · rw [decide_eq_false hi]
      refine iteT (iteT ⟨_, rfl, raise fun hm => hi ?_⟩)
      have h3 := (rng hm).1
      have h4 := (rng hm).2
      omega)
  have G2 := FnOk.raw G (F.binds (fun _ _ _ _ _ _ us hl => match us, hl with | [_, _], _ => rfl)) .nil
  intro A outer s H us vs Q E hr e0 r h
  refine G2 A outer s H us vs Q E hr e0 r ?_
  show spReply w K (vs ++ []) H Q E
  rw [List.append_nil]
  exact h
end
end Ct
/-! _law_refused. -/
namespace Ct
open PySem PySem.Spec PyProof.Rows L2 Nd
open CM (InR Wf Qt Rep row reps Leads)
/-- f(e, ..), f an expression that gives an instance of C; what is let out may tell of the slots -/
def tCallI (C : Addr) (sp : Sp) (E : L2.St → XK) (tf : TE) (t : TA) : TE := fun σ H Q => tf σ H fun y G1 => ∃ a, y = V.ref a ∧ t σ G1 fun vs H2 => (∃ dx fs, H2 a = some (.ins C dx fs)) ∧ sp (V.ref a :: vs) H2 Q (E σ)
section
variable {X : Cx} {CX : CXT} {k : Nat} {sp : Sp} {E : L2.St → XK} {C g : Addr} {fe e : Expr} {es : List Expr} {pos : Pos} {tf : TE} {t : TA}
theorem pe_callI (hf : PE X fe tf) (c : StX.CallO X.K C g) (F : FnR X.prog X.w X.K X.mg X.base CX k g sp) (hr : Room k X.A) (hx : ∀ σ, PassesAt CX X σ (E σ)) (ha : PA X (e :: es) t)
    (ht : eval (.Call fe (e :: es) [] pos) X.env = (do callWith pos (← eval fe X.env) [] (backTo pos (starEach (e :: es) X.env)) (backToKw pos (keywordEach [] X.env))) := by rfl)
    (he : starEach (e :: es) X.env = (false, eval e X.env) :: starEach es X.env := by rfl) (hpl : (backTo pos (starEach es X.env)).any (·.1) = false := by rfl) : PE X (.Call fe (e :: es) [] pos) (tCallI C sp E tf t) := by
  refine ⟨fun pn s σ H Q I h => ?_⟩
  refine Call_ (thn (hf.run pn s σ H _ I h) fun u u1 ⟨y, G1, J1, wy, a, ez, q⟩ => ?_) ht
  subst ez
  obtain rfl : u = Value.ref a := wy
  refine StX.callO_with (thn (ha.run pos pn u1 σ G1 _ J1 q) fun us s2 ⟨vs, H2, I2, r, hi, q2⟩ => ?_) he hpl
  obtain ⟨ox, od, J, hd⟩ := StX.insC_at I2 (.inr hi)
  refine ⟨⟨C, ox, od, J, hd⟩, wpAny_call (PySem.W.kco_code I2.kIn J hd c.at_ c.fn c.fi (codeAny_mono (F X.A X.stack s2 H2 (.ref a :: us) (.ref a :: vs) Q (E σ) hr I2.env0 (.cons rfl r) q2) fun r s' hq => ?_))⟩
  cases r with
  | error e => exact hx σ pn H2 s2 e s' I2 hq
  | ok fl =>
    cases fl with
    | ret u => exact I2.after hq
    | next => exact False.elim hq
    | brk => exact False.elim hq
    | cont => exact False.elim hq
end
theorem never_takes {X : Cx} : L2N.Takes X (fun _ _ _ _ => False) := fun _ _ x => by
  obtain ⟨_, _, _, _, _, _, _, _, _, _, _, _, _, _, _, _, z⟩ := x
  exact z.elim
theorem roomH_mark {k : Nat} {A : Around} {v : Option Value} (r : Room k A) : L2H.RoomH k (A.mark v) := ⟨r.dp, r.un⟩
theorem hot_suite {X : Cx} {a : Addr} {oe : Obj} {cls : Value} {d : Option Addr} {pn : List (Addr × Obj)} (z : L2N.Zn cls d oe) (hf : ∃ vs, oe.data = .fields vs) : L2H.HotC (X.suite a ((a, oe) :: pn)) := by
  obtain ⟨vs, h⟩ := hf
  exact ⟨(a, oe), ⟨rfl, vs, h, z.2.2 vs h⟩, List.mem_cons_self ..⟩
/-- the classes that the law asks for -/
structure Br2 (K : PySem.W.Frag) (mg : Str → Option Value) : Prop where
  gCore : mg "CoreError" = some (.ref (He.ga K "CoreError"))
  gRun : mg "BadRun" = some (.ref (He.ga K "BadRun"))
  core : PySem.W.kitOne K (.ref (He.ga K "BadReply")) (.ref (He.ga K "CoreError")) = some true
  val : PySem.W.kitOne K (.ref (He.ga K "BadReply")) (.type "ValueError") = some true
  run : PySem.W.kitOne K (.ref (He.ga K "BadReply")) (.ref (He.ga K "BadRun")) = some false
  c : BrC K (He.ga K "BadReply")
section
variable {P : Program} {w : World} {K : PySem.W.Frag} {mg : Str → Option Value} {base : Heap}
/-- _law_same of two numbers, called while an error is handled -/
def spSameI : Sp := fun vs H Q _ => ∃ i j : Int, vs = [.int i, .int j] ∧ Q (.bl (decide (i = j))) H
theorem same_hot (F : TF K "_law_same" s_same_L) (T : Tx K mg) : ∃ fd, L2H.FnH P w K mg base CX0 1 (He.ga K "_law_same") fd ["_law_told", "_law_due"] spSameI ∧ Binds K fd ["_law_told", "_law_due"] [] ∧ PySem.W.keepIn K (.ref (He.ga K "_law_same")) = true := by
  obtain ⟨fd, F⟩ := F.ex
  have b := F.binds (ps := ["_law_told", "_law_due"]) (fun _ _ _ _ _ _ us hl => match us, hl with | [_, _], _ => rfl)
  have kp := F.kp
  obtain ⟨oc, od, kV, doc, pm, an, cdv, ct, osl, rfl, lkk, hcd⟩ := F.ex
  refine ⟨_, L2H.fn_ofH lkk hcd sc__law_same (fun vs H Q E h => ?_) (fun A outer s H vs Q E p hot hr h => ?_), b, kp⟩
  · obtain ⟨i, j, rfl, _⟩ := h
    rfl
  obtain ⟨i, j, rfl, k⟩ := h
  refine ⟨_, (pss_cons (ps_if (PW.pt (pw_or (pt_val (pe_callB call_isi (by rfl) T.f_isinstance (by decide +kernel) (pa_cons (pv 1) (pa_cons (pe_bltn (v := .ty "tuple") (by rfl) T.f_tuple (by decide +kernel) rfl) pa_nil)))) (pw_or1 (pt_val (pe_callB call_isi (by rfl) T.f_isinstance (by decide +kernel) (pa_cons (pv 1) (pa_cons (pe_bltn (v := .ty "list") (by rfl) T.f_list (by decide +kernel) rfl) pa_nil))))))) (pss_cons ps_never (pss_cons ps_never (pss_cons ps_never (pss_one ps_never)))) pss_nil)
    (pss_cons (ps_if (pt_cmpR op_isN (pv 1) pe_non (nomark _)) (pss_one ps_never) pss_nil)
    (pss_cons (ps_if (PW.pt (pw_or (pt_cmpR op_ne (pe_callB call_isi (by rfl) T.f_isinstance (by decide +kernel) (pa_cons (pv 1) (pa_cons (pe_bltn (v := .ty "bool") (by rfl) T.f_bool (by decide +kernel) rfl) pa_nil))) (pe_callB call_isi (by rfl) T.f_isinstance (by decide +kernel) (pa_cons (pv 0) (pa_cons (pe_bltn (v := .ty "bool") (by rfl) T.f_bool (by decide +kernel) rfl) pa_nil))) (nomark _)) (pw_or1 (pt_cmpR op_ne (pe_callB call_isi (by rfl) T.f_isinstance (by decide +kernel) (pa_cons (pv 1) (pa_cons (pe_bltn (v := .ty "int") (by rfl) T.f_int (by decide +kernel) rfl) pa_nil))) (pe_callB call_isi (by rfl) T.f_isinstance (by decide +kernel) (pa_cons (pv 0) (pa_cons (pe_bltn (v := .ty "int") (by rfl) T.f_int (by decide +kernel) rfl) pa_nil))) (nomark _))))) (pss_one ps_never) pss_nil)
    (pss_one (ps_ret (pe_and (pe_cmpR op_eq (pe_callB call_isi (by rfl) T.f_isinstance (by decide +kernel) (pa_cons (pv 1) (pa_cons (pe_bltn (v := .ty "str") (by rfl) T.f_str (by decide +kernel) rfl) pa_nil))) (pe_callB call_isi (by rfl) T.f_isinstance (by decide +kernel) (pa_cons (pv 0) (pa_cons (pe_bltn (v := .ty "str") (by rfl) T.f_str (by decide +kernel) rfl) pa_nil))) (nomark _)) (pe_one (pe_cmpR op_eq (pv 0) (pv 1) (nomark _))))))))), ?_⟩
  refine ⟨_, rfl, _, .ty "tuple", .type "int", .type "tuple", false, rfl, .ty "tuple", .base (.int _), kit_ty (by decide +kernel), _, rfl, iteF ?_⟩
  refine ⟨_, rfl, _, .ty "list", .type "int", .type "list", false, rfl, .ty "list", .base (.int _), kit_ty (by decide +kernel), _, rfl, iteF ?_⟩
  refine ⟨_, rfl, rfl, _, rfl, iteF ?_⟩
  refine ⟨_, rfl, _, .ty "bool", .type "int", .type "bool", false, rfl, .ty "bool", .base (.int _), kit_ty (by decide +kernel), _, rfl, _, .ty "bool", .type "int", .type "bool", false, rfl, .ty "bool", .base (.int _), kit_ty (by decide +kernel), rfl, _, rfl, iteF ?_⟩
  refine ⟨_, rfl, _, .ty "int", .type "int", .type "int", true, rfl, .ty "int", .base (.int _), kit_ty (by decide +kernel), _, rfl, _, .ty "int", .type "int", .type "int", true, rfl, .ty "int", .base (.int _), kit_ty (by decide +kernel), rfl, _, rfl, iteF ?_⟩
  refine ⟨_, rfl, _, .ty "str", .type "int", .type "str", false, rfl, .ty "str", .base (.int _), kit_ty (by decide +kernel), _, rfl, _, .ty "str", .type "int", .type "str", false, rfl, .ty "str", .base (.int _), kit_ty (by decide +kernel), rfl, _, rfl, iteT ?_⟩
  refine ⟨_, rfl, _, rfl, rfl, ?_⟩
  rw [show decide (V.int i = V.int j) = decide (i = j) from decide_eq_decide.mpr (by rw [V.int.injEq])]
  exact k
def spRefused (w : World) (K : PySem.W.Frag) : Sp := fun vs H Q _ => ∃ (a : Addr) (r : Int) (lv hv : V) (rd : Addr) (LO HI : Rows) (ds : List Deed) (qs : List Pr) (ρ : Pr → Int) (p : Pr) (str : List Deed) (there : Int) (rep : List Int), vs = [.ref a, .int r] ∧
  SpAt K H a lv hv rd p str there rep ∧ Gm w K H lv hv rd LO HI ds qs ρ ∧ Gk LO HI ds qs ρ ∧ (∀ r ∈ rep, (there, r) ∈ qs ∧ 0 < ρ (there, r)) ∧ rep.length ≤ 40 ∧ r ∉ rep ∧ ∀ H', Same H H' → Q (.bl true) H'
theorem sc__law_refused : FnScope (["_law_spoiler", "_law_reply", "e"] : List Str) ["_law_spoiler", "_law_reply"] (defScope s_refused_L) := ⟨rfl, rfl, rfl, by decide +kernel, rfl, by decide +kernel, by decide +kernel⟩
theorem ok_refused (F : TF K "_law_refused" s_refused_L) (T : Tx K mg) (U : Ty K mg) (B : Br P K mg (He.ga K "BadReply") (He.ma K (He.ga K "BadReply") "__init__")) (B2 : Br2 K mg)
    (R : FnR P w K mg base (L2N.CX P w) 7 (He.ma K (He.ga K "Spoiler") "__call__") (spReply w K)) (FS : TF K "_law_same" s_same_L) :
    DOk P w K mg base 8 "_law_refused" ["_law_spoiler", "_law_reply"] (spRefused w K) := by
  refine dok F T.g__law_refused sc__law_refused (fun vs H Q E h => ?_) (fun _ _ _ _ _ _ us hl => match us, hl with | [_, _], _ => rfl) (fun cdv A outer s H vs Q E hr h => ?_)
  · obtain ⟨a, r, lv, hv, rd, LO, HI, ds, qs, ρ, p, str, there, rep, rfl, _⟩ := h
    rfl
  obtain ⟨a, r, lv, hv, rd, LO, HI, ds, qs, ρ, p, str, there, rep, rfl, sp, gm, gk, near, l40, hm, k⟩ := h
  obtain ⟨fd, S, bS, kS⟩ := same_hot (P := P) (w := w) (base := base) FS T
  have hrH := hr.mono (show 1 ≤ 7 by decide)
  have xf : XfC K (He.ga K "BadReply") := ⟨B.ga, B.gg, B.exC, B.hdC⟩
  refine ⟨_, (pss_cons (L2N.ps_try_as (i := 2) (tb := fun W => tDrop (tCallI (He.ga K "Spoiler") (spReply w K) (WE W) (tVar 0) (tCons (tVar 1) tNil))) (c := .ref (He.ga K "BadReply")) (Wout := fun _ _ _ _ => False) rfl rfl sc__law_refused.nd rfl rfl ⟨rfl, by decide, Or.inl B.gC⟩ never_takes
      (fun W pn xe tk _ => pss_one (ps_expr (by exact (pe_callI (pv 0) U.call_Spoiler R hr (fun σ => L2N.passAt tk σ) (pa_cons (pv 1) pa_nil)))))
      (fun a oe cls d pn hz hf => pss_cons (ps_if (PW.pt (pw_or (pt_not (pt_val (pe_callB (call_isB xf B2.c hz.zc hf) (by rfl) T.f_isinstance (by decide +kernel) (pa_cons (pv 2) (pa_cons (pe_glob (v := .ref (He.ga K "CoreError")) (by rfl) B2.gCore rfl) pa_nil)))))
          (pw_or (pt_not (pt_val (pe_callB (call_isB xf B2.c hz.zc hf) (by rfl) T.f_isinstance (by decide +kernel) (pa_cons (pv 2) (pa_cons (pe_bltn (v := .ty "ValueError") (by rfl) T.f_ValueError (by decide +kernel) rfl) pa_nil)))))
          (pw_or1 (pt_val (pe_callB (call_isB xf B2.c hz.zc hf) (by rfl) T.f_isinstance (by decide +kernel) (pa_cons (pv 2) (pa_cons (pe_glob (v := .ref (He.ga K "BadRun")) (by rfl) B2.gRun rfl) pa_nil)))))))) (pss_one (ps_ret pe_bl)) pss_nil)
        (pss_one (ps_ret (L2H.pe_callH (E := fun _ => E0) S (roomH_mark hrH) (hot_suite hz hf) (by rfl) T.g__law_same kS bS (fun _ _ _ _ _ _ _ q => q.elim) (pa_cons (pe_xf xf B.noN hz.zc hf (pv 2)) (pa_cons (pv 1) pa_nil)))))))
    (pss_one (ps_ret pe_bl))), ?_⟩
  obtain ⟨dx, fs, sv, tl, rl, tvs, h1, h2, h3, h4, h5, h6, h7, h8, h9, h10, h11⟩ := id sp.ex
  refine ⟨_, rfl, a, rfl, _, rfl, ⟨dx, fs, h1⟩, a, r, lv, hv, rd, LO, HI, ds, qs, ρ, p, str, there, rep, rfl, sp, gm, gk, near, l40, fun _ d hd => ?_, fun hin => absurd hin hm⟩
  refine ⟨true, B.te, fun _ a0 ha0 => ?_, fun q => Bool.noConfusion q⟩
  refine ⟨_, rfl, .ref (He.ga K "CoreError"), .ref (He.ga K "CoreError"), true, d, _, rfl, rfl, rfl, upd_same, (fun u h => h), B2.core, _, rfl, iteF ?_⟩
  refine ⟨_, rfl, .ty "ValueError", .type "ValueError", true, d, _, rfl, rfl, rfl, upd_same, (fun u h => h), B2.val, _, rfl, iteF ?_⟩
  refine ⟨_, rfl, .ref (He.ga K "BadRun"), .ref (He.ga K "BadRun"), false, d, _, rfl, rfl, rfl, upd_same, (fun u h => h), B2.run, _, rfl, iteF ?_⟩
  refine ⟨_, rfl, rfl, rfl, d, _, _, rfl, upd_same, rfl, _, rfl, r, r, rfl, ?_⟩
  rw [decide_eq_true (rfl : r = r)]
  exact k _ (Same.new1 hd)
end
end Ct
/-! _law_kept. -/
namespace Ct
open PySem PySem.Spec PyProof.Rows L2 Nd
open CM (InR Wf Qt Rep row reps Leads)
theorem kin_deeds {str : List Deed} (h : ∀ d ∈ str, DeedOk d) (hl : str.length ≤ 100000) : Kin 3 (.list (str.map deedD)) (.list (str.map deedD)) := by
  refine .lst (fun k x y e1 e2 => ?_) (by rw [List.length_map]; exact hl)
  rw [List.getElem?_map] at e1 e2
  cases e : str[k]? with
  | none => rw [e] at e1; cases e1
  | some d =>
    rw [e] at e1 e2
    cases e1
    cases e2
    have hd := h d (List.mem_of_getElem? e)
    exact kin_deed hd hd 0
theorem kin_pair (p q : Pr) (n : Nat) : Kin (n + 2) (pairD p) (pairD q) := by
  refine .tup (fun k x y e1 e2 => ?_) (by simp)
  match k, e1, e2 with
  | 0, e1, e2 =>
    simp at e1 e2
    rw [← e1, ← e2]
    exact .int _ _
  | 1, e1, e2 =>
    simp at e1 e2
    rw [← e1, ← e2]
    exact .int _ _
  | k + 2, e1, _ => simp at e1
section
variable {P : Program} {w : World} {K : PySem.W.Frag} {mg : Str → Option Value} {base : Heap}
theorem deeds_dp {H : Hp} {a : Addr} {tvs : List V} {str : List Deed} (h : H a = some (.lst tvs)) (hP : Paired (DeedAt H) tvs str) : Dp K H (.ref a) (.list (str.map deedD)) := .lst (SqL.of h) (dpAll_map (fun _ _ q => DeedAt.dp q) hP)
theorem eqv_deeds (str : List Deed) : PyData.eqv (.list (str.map deedD)) (.list (str.map deedD)) = true := by
  show PyData.eqvAll _ _ = true
  refine (eqvAll_iff rfl).mpr fun k x y e1 e2 => ?_
  rw [List.getElem?_map] at e1 e2
  cases e : str[k]? with
  | none => rw [e] at e1; cases e1
  | some d =>
    rw [e] at e1 e2
    cases e1
    cases e2
    exact (eqv_deed' d d).mpr rfl
/-- what the law knows of a spoiler -/
structure Sk (w : World) (K : PySem.W.Frag) (H : Hp) (a : Addr) (lv hv : V) (rd : Addr) (LO HI : Rows) (ds : List Deed) (qs : List Pr) (ρ : Pr → Int) (p : Pr) (str : List Deed) (there : Int) (rep : List Int) : Prop where
  sp : SpAt K H a lv hv rd p str there rep
  gm : Gm w K H lv hv rd LO HI ds qs ρ
  gk : Gk LO HI ds qs ρ
  pl : Plays LO HI qs ρ p str there rep
theorem Sk.mono {H H' : Hp} {a : Addr} {lv hv : V} {rd : Addr} {LO HI : Rows} {ds : List Deed} {qs : List Pr} {ρ : Pr → Int} {p : Pr} {str : List Deed} {there : Int} {rep : List Int} (h : Sk w K H a lv hv rd LO HI ds qs ρ p str there rep) (s : Same H H') : Sk w K H' a lv hv rd LO HI ds qs ρ p str there rep :=
  ⟨h.sp.mono s, h.gm.mono s, h.gk, h.pl⟩
def spKept (w : World) (K : PySem.W.Frag) : Sp := fun vs H Q _ => ∃ (a : Addr) (pv : V) (tl : Addr) (rl : Addr) (wd : Int) (lv hv : V) (rd : Addr) (LO HI : Rows) (ds : List Deed) (qs : List Pr) (ρ : Pr → Int) (p : Pr) (str : List Deed) (there : Int) (rep : List Int) (tvs : List V),
  vs = [.ref a, pv, .ref tl, .bl (decide (rep.length = 0)), .ref rl, .int wd] ∧ Sk w K H a lv hv rd LO HI ds qs ρ p str there rep ∧ PairAt H pv p ∧ H tl = some (.lst tvs) ∧ Paired (DeedAt H) tvs str ∧ H rl = some (.lst (rep.map V.int)) ∧ 0 ≤ wd ∧ wd ≤ 40 ∧ rep.length ≤ 40 ∧ (∀ d ∈ str, DeedOk d) ∧ str.length ≤ 1000 ∧
  ∀ H', Same H H' → Q (.bl true) H'
theorem sc__law_kept : FnScope (["_law_spoiler", "_law_stand", "_law_stretch", "_law_won", "_law_replies_here", "_law_width", "_law_number", "_law_told"] : List Str) ["_law_spoiler", "_law_stand", "_law_stretch", "_law_won", "_law_replies_here", "_law_width"] (defScope s_kept_L) := ⟨rfl, rfl, rfl, by decide +kernel, rfl, by decide +kernel, by decide +kernel⟩
theorem ok_kept (F : TF K "_law_kept" s_kept_L) (T : Tx K mg) (D__law_refused : DOk P w K mg base 8 "_law_refused" ["_law_spoiler", "_law_reply"] (spRefused w K)) (D__law_same : DOk P w K mg base 4 "_law_same" ["_law_told", "_law_due"] (spSame K 3))
    (D_Spoiler_stand : POk P w K mg base 1 "Spoiler" "stand" (spStand K)) (D_Spoiler_stretch : POk P w K mg base 1 "Spoiler" "stretch" (spStretch K)) (D_Spoiler_won : POk P w K mg base 1 "Spoiler" "won" (spWon K)) :
    DOk P w K mg base 9 "_law_kept" ["_law_spoiler", "_law_stand", "_law_stretch", "_law_won", "_law_replies_here", "_law_width"] (spKept w K) := by
  refine dok F T.g__law_kept sc__law_kept (fun vs H Q E h => ?_) (fun _ _ _ _ _ _ us hl => match us, hl with | [_, _, _, _, _, _], _ => rfl) (fun cdv A outer s H vs Q E hr h => ?_)
  · obtain ⟨a, pv, tl, rl, wd, lv, hv, rd, LO, HI, ds, qs, ρ, p, str, there, rep, tvs, rfl, _⟩ := h
    rfl
  obtain ⟨a, sv, tl, rl, wd, lv, hv, rd, LO, HI, ds, qs, ρ, p, str, there, rep, tvs, rfl, sk, hsv, htl, hP, hrl, w0, w1, r40, dok, hl1, k⟩ := h
  refine ⟨_, (pss_cons (ps_for PassesOwn.never rfl (pi_range2 rfl T.f_range (pa_cons (pe_un un_neg pe_int) (pa_cons (pe_op op_add (pv 5) pe_int) pa_nil))) (pg_name (i := 6) sc__law_kept.nd rfl (Or.inl rfl)) (pss_one (ps_if (PW.pt (pw_and (pt_cmpR op_notIn_seq (pv 6) (pv 4) (by rfl)) (pw_and1 (pt_not (pt_val (pe_d D__law_refused (hr.mono (by decide)) (by rfl) (pa_cons (pv 0) (pa_cons (pv 6) pa_nil)))))))) (pss_one (ps_ret pe_bl)) pss_nil)))
    (pss_cons (ps_set (i := 7) sc__law_kept.nd rfl (Or.inl rfl) (pe_p D_Spoiler_stretch (hr.mono (by decide)) (pv 0)))
    (pss_cons (ps_if (pt_not (pt_val (pe_d D__law_same (hr.mono (by decide)) (by rfl) (pa_cons (pv 7) (pa_cons (pv 2) pa_nil))))) (pss_one (ps_ret pe_bl)) pss_nil)
    (pss_cons (ps_expr (pe_bm0 PySem.F.plainAttrs_list PySem.F.slot_list_clear PySem.F.type_list_clear mt_clear (pv 7)))
    (pss_one (ps_ret (pe_and (pe_d D__law_same (hr.mono (by decide)) (by rfl) (pa_cons (pe_p D_Spoiler_stretch (hr.mono (by decide)) (pv 0)) (pa_cons (pv 2) pa_nil))) (pe_and (pe_d D__law_same (hr.mono (by decide)) (by rfl) (pa_cons (pe_p D_Spoiler_stand (hr.mono (by decide)) (pv 0)) (pa_cons (pv 1) pa_nil))) (pe_one (pe_d D__law_same (hr.mono (by decide)) (by rfl) (pa_cons (pe_p D_Spoiler_won (hr.mono (by decide)) (pv 0)) (pa_cons (pv 3) pa_nil)))))))))))), ?_⟩
  have kd := kin_deeds dok (by omega)
  refine ⟨_, rfl, _, rfl, _, _, rfl, rfl, _, _, rfl, ⟨by omega, by omega, by omega, by omega⟩, ?_⟩
  refine for_range (Pv := fun i σ H1 => ∃ o6 : Option V, σ = [some (.ref a), some sv, some (.ref tl), some (.bl (decide (rep.length = 0))), some (.ref rl), some (.int wd), o6, none] ∧ Same H H1) ⟨none, rfl, Same.refl _⟩ ?_ ?_
  · rintro i σ H1 hi ⟨o6, rfl, s1⟩
    have sk1 := sk.mono s1
    generalize (-1 : Int) + (i : Int) = n
    refine ⟨_, rfl, _, rfl, rl, _, rfl, .inl (SqL.of (s1 _ _ hrl)), rfl, flat_ints _, _, rfl, ?_⟩
    rw [in_ints]
    by_cases hm : n ∈ rep
    · rw [decide_eq_true hm]
      exact iteF ⟨_, rfl, s1⟩
    · rw [decide_eq_false hm]
      refine iteT ⟨_, rfl, _, rfl, a, n, lv, hv, rd, LO, HI, ds, qs, ρ, p, str, there, rep, rfl, sk1.sp, sk1.gm, sk1.gk, fun r hr => ⟨(sk.pl.near r hr).1, (sk.pl.near r hr).2.1⟩, r40, hm, fun H2 s2 => ⟨_, rfl, iteF ⟨_, rfl, s1.trans s2⟩⟩⟩
  rintro σ H1 ⟨o6, rfl, s1⟩
  have sk1 := sk.mono s1
  obtain ⟨dx, fs, sv1, tl1, rl1, tvs1, g1, g2, g3, g4, g5, g6, g7, g8, g9, g10, g11⟩ := id sk1.sp.ex
  refine ⟨_, rfl, a, dx, fs, rfl, g1, a, lv, hv, rd, p, str, there, rep, rfl, sk1.sp, fun q tvs2 H2 hq s2 hq2 hP2 => ?_⟩
  have s12 := s1.trans s2
  refine ⟨_, rfl, _, rfl, .ref q, .ref tl, _, _, rfl, deeds_dp hq2 hP2, deeds_dp (s12 _ _ htl) (deeds_all hP (Tups.same s12)), kd, ?_⟩
  rw [eqv_deeds]
  refine ⟨_, rfl, iteF ?_⟩
  refine ⟨_, rfl, tyL hq2, q, _, rfl, rfl, hq2, ?_⟩
  have s3 : Same H1 (upd H2 q (.lst [])) := Same.mut s2 hq
  have s13 := s1.trans s3
  have sk3 := sk1.mono s3
  generalize upd H2 q (.lst []) = H3 at s3 s13 sk3
  refine ⟨_, rfl, a, dx, fs, rfl, s3 _ _ g1, a, lv, hv, rd, p, str, there, rep, rfl, sk3.sp, fun q4 tvs4 H4 hq4 s4 hq5 hP4 => ?_⟩
  have s14 := s13.trans s4
  refine ⟨_, rfl, .ref q4, .ref tl, _, _, rfl, deeds_dp hq5 hP4, deeds_dp (s14 _ _ htl) (deeds_all hP (Tups.same s14)), kd, ?_⟩
  rw [eqv_deeds]
  refine ⟨_, rfl, iteT ?_⟩
  have sk4 := sk3.mono s4
  refine ⟨_, rfl, a, dx, fs, rfl, s4 _ _ (s3 _ _ g1), a, lv, hv, rd, p, str, there, rep, rfl, sk4.sp, fun v hv4 => ?_⟩
  refine ⟨_, rfl, v, sv, _, _, rfl, PairAt.dp hv4, PairAt.dp (hsv.mono (Tups.same s14)), kin_pair p p 1, ?_⟩
  rw [eqv_pair, decide_eq_true (rfl : p = p)]
  refine ⟨_, rfl, iteT ?_⟩
  refine ⟨_, rfl, a, dx, fs, rfl, s4 _ _ (s3 _ _ g1), a, lv, hv, rd, p, str, there, rep, rfl, sk4.sp, ?_⟩
  refine ⟨_, rfl, _, _, _, _, rfl, .bl _, .bl _, .bl _ _, ?_⟩
  rw [show PyData.eqv (.bool (decide (rep.length = 0))) (.bool (decide (rep.length = 0))) = true by cases decide (rep.length = 0) <;> rfl]
  exact k _ s14
end
end Ct
/-! _law_turn. -/
namespace Ct
open PySem PySem.Spec PyProof.Rows L2 Nd
open CM (InR Wf Qt Rep row reps Leads)
theorem passN {X : Cx} : Passes (L2N.CX X.prog X.w) X E0 := fun _ _ _ _ _ _ _ h => by
  obtain ⟨_, _, _, _, _, _, _, _, _, _, _, _, z⟩ := h
  exact z.elim
section
variable {P : Program} {w : World} {K : PySem.W.Frag} {mg : Str → Option Value} {base : Heap}
/-- the law's own papers -/
structure Own (w : World) (H : Hp) (low : V) (tb rd2 : Addr) (lo hi LO HI : Rows) (ds : List Deed) (qs : List Pr) (ρ : Pr → Int) : Prop where
  lo : RowsAt H low lo
  tab : Tab w H tb hi ds
  rd : DM TP w H rd2 qs (fun p => .int (ρ p))
structure Ownk (lo hi LO HI : Rows) (ds : List Deed) : Prop where
  gl : Good ds lo
  gh : Good ds hi
  al : CM.Alike lo LO
  ah : CM.Alike hi HI
theorem Own.mono {H H' : Hp} {low : V} {tb rd2 : Addr} {lo hi LO HI : Rows} {ds : List Deed} {qs : List Pr} {ρ : Pr → Int} (o : Own w H low tb rd2 lo hi LO HI ds qs ρ) (s : Same H H') : Own w H' low tb rd2 lo hi LO HI ds qs ρ := by
  obtain ⟨x, hx⟩ := DM.at o.rd
  exact ⟨o.lo.mono s, o.tab.mono s, o.rd.mono (by rw [s _ _ hx, hx]) (Tups.same s)⟩
def spTurn (w : World) (K : PySem.W.Frag) : Sp := fun vs H Q _ => ∃ (a : Addr) (low : V) (wd : Int) (tb rd2 : Addr) (sv : V) (ch : Int) (lv hv : V) (rd : Addr) (lo hi LO HI : Rows) (ds : List Deed) (qs : List Pr) (ρ : Pr → Int) (p : Pr) (str : List Deed) (there : Int) (rep : List Int),
  vs = [.ref a, low, .int wd, .ref tb, .ref rd2, sv, .int ch] ∧ Sk w K H a lv hv rd LO HI ds qs ρ p str there rep ∧ Own w H low tb rd2 lo hi LO HI ds qs ρ ∧ Ownk lo hi LO HI ds ∧ PairAt H sv p ∧ p ∈ qs ∧ 0 ≤ wd ∧ wd ≤ 40 ∧
  (∀ q H', H q = none → Same H H' → H' q = some (.lst [.int 2, sv]) → Q (.ref q) H') ∧
  (∀ q pv2 r str2 there2 rep2 H', r ∈ rep → H q = none → But a H H' → H' q = some (.lst [.int 1, pv2]) → PairAt H' pv2 (there, r) → Sk w K H' a lv hv rd LO HI ds qs ρ (there, r) str2 there2 rep2 → Q (.ref q) H')
theorem sc__law_turn : FnScope (["_law_spoiler", "_law_low", "_law_width", "_law_table_here", "_law_rounds", "_law_stand", "_law_choice", "_law_told", "_law_at", "_law_stretch", "_law_replies_here", "_law_after"] : List Str) ["_law_spoiler", "_law_low", "_law_width", "_law_table_here", "_law_rounds", "_law_stand", "_law_choice"] (defScope s_turn_L) := ⟨rfl, rfl, rfl, by decide +kernel, rfl, by decide +kernel, by decide +kernel⟩
theorem ok_turn (F : TF K "_law_turn" s_turn_L) (T : Tx K mg) (U : Ty K mg) (hne : He.ga K "Web" ≠ He.ga K "Spoiler") (D__law_end : DOk P w K mg base 4 "_law_end" ["_law_low", "_law_at", "_law_stretch"] spEnd) (R : FnR P w K mg base (L2N.CX P w) 7 (He.ma K (He.ga K "Spoiler") "__call__") (spReply w K))
    (D__law_kept : DOk P w K mg base 9 "_law_kept" ["_law_spoiler", "_law_stand", "_law_stretch", "_law_won", "_law_replies_here", "_law_width"] (spKept w K)) (D__law_same : DOk P w K mg base 4 "_law_same" ["_law_told", "_law_due"] (spSame K 3))
    (D_Spoiler_stand : POk P w K mg base 1 "Spoiler" "stand" (spStand K)) (D_Spoiler_stretch : POk P w K mg base 1 "Spoiler" "stretch" (spStretch K)) :
    DOk P w K mg base 10 "_law_turn" ["_law_spoiler", "_law_low", "_law_width", "_law_table_here", "_law_rounds", "_law_stand", "_law_choice"] (spTurn w K) := by
  refine dok F T.g__law_turn sc__law_turn (fun vs H Q E h => ?_) (fun _ _ _ _ _ _ us hl => match us, hl with | [_, _, _, _, _, _, _], _ => rfl) (fun cdv A outer s H vs Q E hr h => ?_)
  · obtain ⟨a, low, wd, tb, rd2, sv, ch, lv, hv, rd, lo, hi, LO, HI, ds, qs, ρ, p, str, there, rep, rfl, _⟩ := h
    rfl
  obtain ⟨a, low, wd, tb, rd2, sv, ch, lv, hv, rd, lo, hi, LO, HI, ds, qs, ρ, p, str, there, rep, rfl, sk, ow, ok, hsv, hpq, w0, w1, won, goes⟩ := h
  have hu9 := hu9_of hr
  have CALLO : StX.CallO K (He.ga K "Spoiler") (He.ma K (He.ga K "Spoiler") "__call__") := U.call_Spoiler
  have hr7 := hr.mono (show 7 ≤ 9 by decide)
  refine ⟨_, (pss_cons (ps_set (i := 7) sc__law_turn.nd rfl (Or.inl rfl) (pe_p D_Spoiler_stretch (hr.mono (by decide)) (pv 0)))
    (pss_cons (ps_set (i := 8) sc__law_turn.nd rfl (Or.inl rfl) (pe_d D__law_end (hr.mono (by decide)) (by rfl) (pa_cons (pv 1) (pa_cons (pe_ix ix_tup (pv 5) pe_int (fun _ _ => rfl)) (pa_cons (pv 7) pa_nil)))))
    (pss_cons (ps_if (PW.pt (pw_or (pt_cmpR op_lt (pv 8) pe_int (nomark _)) (pw_or1 (pt_not (pt_val (pe_d D__law_same (hr.mono (by decide)) (by rfl) (pa_cons (pe_p D_Spoiler_stand (hr.mono (by decide)) (pv 0)) (pa_cons (pv 5) pa_nil)))))))) (pss_one (ps_ret (pe_lst (pa_cons pe_int (pa_cons (pv 5) pa_nil))))) pss_nil)
    (pss_cons (ps_set (i := 9) sc__law_turn.nd rfl (Or.inl rfl) (pe_callTy call_list_of (by rfl) T.f_list (by decide +kernel) (pa_cons (pv 7) pa_nil)))
    (pss_cons (ps_set (i := 10) sc__law_turn.nd rfl (Or.inl rfl) (pe_nget hu9 (pv 3) (pe_tup (pa_cons (pe_ix ix_tup (pv 5) pe_int (fun _ _ => rfl)) (pa_cons (pe_ix ix_list (pv 9) (pe_op op_sub (pe_callB call_len_seq (by rfl) T.f_len (by decide +kernel) (pa_cons (pv 9) pa_nil)) pe_int) (fun _ _ => rfl)) pa_nil))) (fun _ _ => rfl)))
    (pss_cons (ps_if (pt_not (pt_val (pe_d D__law_kept (hr.mono (by decide)) (by rfl) (pa_cons (pv 0) (pa_cons (pv 5) (pa_cons (pv 9) (pa_cons (pe_cmpR op_eq (pe_callB call_len_seq (by rfl) T.f_len (by decide +kernel) (pa_cons (pv 10) pa_nil)) pe_int (nomark _)) (pa_cons (pv 10) (pa_cons (pv 2) pa_nil))))))))) (pss_one (ps_ret (pe_lst (pa_cons pe_int (pa_cons (pv 5) pa_nil))))) pss_nil)
    (pss_cons (ps_if (pt_cmpR op_eq (pe_callB call_len_seq (by rfl) T.f_len (by decide +kernel) (pa_cons (pv 10) pa_nil)) pe_int (nomark _)) (pss_one (ps_ret (pe_lst (pa_cons pe_int (pa_cons (pv 5) pa_nil))))) pss_nil)
    (pss_cons (ps_set (i := 11) sc__law_turn.nd rfl (Or.inl rfl) (pe_tup (pa_cons (pv 8) (pa_cons (pe_ix ix_list (pv 10) (pe_op op_mod (pe_callTy call_int1 (by rfl) T.f_int (by decide +kernel) (pa_cons (pv 6) pa_nil)) (pe_callB call_len_seq (by rfl) T.f_len (by decide +kernel) (pa_cons (pv 10) pa_nil))) (fun _ _ => rfl)) pa_nil))))
    (pss_cons (ps_if (PW.pt (pw_or (pt_not (pt_val (pe_d D__law_same (hr.mono (by decide)) (by rfl) (pa_cons (StX.pe_callO (pv 0) U.call_Spoiler R hr7 passN (pa_cons (pe_ix ix_tup (pv 11) pe_int (fun _ _ => rfl)) pa_nil)) (pa_cons (pe_p D_Spoiler_stretch (hr.mono (by decide)) (pv 0)) pa_nil))))) (pw_or1 (pt_not (pt_val (pe_d D__law_same (hr.mono (by decide)) (by rfl) (pa_cons (pe_p D_Spoiler_stand (hr.mono (by decide)) (pv 0)) (pa_cons (pv 11) pa_nil)))))))) (pss_one (ps_ret (pe_lst (pa_cons pe_int (pa_cons (pv 5) pa_nil))))) pss_nil)
    (pss_cons (ps_if (PW.pt (pw_or (pt_cmpR op_lt (pe_nget2 hu9 (pv 4) (pv 11) pe_int ⟨rfl, rfl, rfl, rfl⟩) pe_int (nomark _)) (pw_or1 (pt_cmpR op_ge (pe_nget2 hu9 (pv 4) (pv 11) pe_int ⟨rfl, rfl, rfl, rfl⟩) (pe_nget hu9 (pv 4) (pv 5) (fun _ _ => rfl)) (nomark _))))) (pss_one (ps_ret (pe_lst (pa_cons pe_int (pa_cons (pv 5) pa_nil))))) pss_nil)
    (pss_one (ps_ret (pe_lst (pa_cons pe_int (pa_cons (pv 11) pa_nil))))))))))))))), ?_⟩
  obtain ⟨pa, rfl, hpa⟩ := id hsv
  obtain ⟨dx, fs, sv1, tl1, rl1, tvs1, g1, g2, g3, g4, g5, g6, g7, g8, g9, g10, g11⟩ := id sk.sp.ex
  obtain ⟨dl, hdl, hrep⟩ := sk.pl.last
  have hne' : str ≠ [] := fun e => by rw [e] at hdl; cases hdl
  have hpr := sk.gk.rng p hpq
  have dokOf : ∀ {x : Int} {str : List Deed} {cur : Int}, Chain LO x str cur → ∀ d ∈ str, d ∈ ds ∧ DeedOk d := by
    have key : ∀ {x : Int} {str : List Deed} {cur : Int}, Chain LO x str cur → ∀ d ∈ str, d ∈ ds := by
      intro x str cur h
      induction h with
      | nil => intro d hd; exact absurd hd List.not_mem_nil
      | snoc _ hr ih =>
        intro d hd
        rw [List.mem_append, List.mem_singleton] at hd
        rcases hd with hd | rfl
        · exact ih d hd
        · obtain ⟨ms, h1, h2⟩ := CM.row_mem hr
          exact ((sk.gk.gl.gd ms h1).2 _ h2).1
    exact fun {x str cur} h d hd => ⟨key h d hd, sk.gk.menu.ok d (key h d hd)⟩
  have dok := dokOf sk.pl.run
  refine ⟨_, rfl, a, dx, fs, rfl, g1, a, lv, hv, rd, p, str, there, rep, rfl, sk.sp, fun q1 tvs2 H1 hq1 s1 hq1' hP1 => ?_⟩
  refine ⟨_, rfl, _, rfl, pa, _, 0, _, rfl, rfl, SqT.of (s1 _ _ hpa), rfl, _, rfl, ?_⟩
  refine ⟨low, p.1, q1, tvs2, lo, ds, str, there, rfl, ow.lo.mono s1, ok.gl, sk.gk.menu, ?_, ?_, hq1', hP1, sk.pl.run.alike ok.al.symm, sk.pl.shape, hne', sk.pl.len, fun H2 s2 => ?_⟩
  · rw [ok.al.len]
    exact sk.gk.l40
  · rw [ok.al.len]
    exact hpr.1
  have s12 := s1.trans s2
  have hth : InR LO.length there := by
    cases hc : sk.pl.run with
    | nil => exact absurd rfl hne'
    | snoc _ m => exact sk.gk.gl.wf.move m
  have sk2 := sk.mono s12
  refine ⟨_, rfl, _, _, rfl, rfl, _, rfl, ite2 (fun c => absurd (of_decide_eq_true c) (by have := hth.1; omega)) fun _ => ?_⟩
  refine ⟨_, rfl, a, dx, fs, rfl, s12 _ _ g1, a, lv, hv, rd, p, str, there, rep, rfl, sk2.sp, fun v2 hv2 => ?_⟩
  refine ⟨_, rfl, v2, .ref pa, _, _, rfl, PairAt.dp hv2, PairAt.dp (hsv.mono (Tups.same s12)), kin_pair p p 1, ?_⟩
  rw [eqv_pair, decide_eq_true (rfl : p = p)]
  refine ⟨_, rfl, iteF ?_⟩
  refine ⟨_, rfl, q1, _, rfl, .inl (SqL.of (s2 _ _ hq1')), fun q3 hq3 => ?_⟩
  have s3 : Same H2 (upd H2 q3 (.lst tvs2)) := Same.new1 hq3
  have s13 := s12.trans s3
  have hP3 := deeds_all hP1 (Tups.same (s2.trans s3))
  have hq33 : (upd H2 q3 (.lst tvs2)) q3 = some (.lst tvs2) := upd_same
  have sk3 := sk2.mono s3
  have hlen := paired_len hP3
  generalize upd H2 q3 (.lst tvs2) = H3 at s3 s13 hP3 hq33 sk3
  have hpos : 0 < str.length := List.length_pos_iff.mpr hne'
  have hla : str[str.length - 1]? = some dl := by rw [← List.getLast?_eq_getElem?]; exact hdl
  obtain ⟨z, hz, hzd⟩ := paired_getR hP3 hla
  have hhd : hid dl = false := by rw [sk.pl.shape _ _ hla]; exact decide_eq_false (by omega)
  refine ⟨_, rfl, _, rfl, pa, _, 1, _, rfl, rfl, SqT.of (s13 _ _ hpa), rfl, _, rfl, _, rfl, q3, _, rfl, .inl (SqL.of hq33), _, _, rfl, rfl, ?_⟩
  refine ⟨q3, _, _, z, rfl, rfl, SqL.of hq33, atI_of (by omega) ?_, szk 2 rfl, fun t ht => ?_⟩
  · rw [show ((tvs2.length : Int) - 1).toNat = str.length - 1 by omega]
    exact hz
  have s4 : Same H3 (upd H3 t (.tup [.int p.2, z])) := Same.new1 ht
  have s14 := s13.trans s4
  have ht4 : (upd H3 t (.tup [.int p.2, z])) t = some (.tup [.int p.2, z]) := upd_same
  have sk4 := sk3.mono s4
  have ow4 := ow.mono s14
  have hzd4 := hzd.mono (Tups.same s4)
  have hP4 := deeds_all hP3 (Tups.same s4)
  have hq34 := s4 _ _ hq33
  generalize upd H3 t (.tup [.int p.2, z]) = H4 at s4 s14 ht4 sk4 ow4 hzd4 hP4 hq34
  obtain ⟨qsT, f, dmT, hin, hval⟩ := ow4.tab.ex
  have hqT := hin p.2 dl (by rw [ok.ah.len]; exact hpr.2) (dok dl (List.mem_of_getLast? hdl)).1 hhd
  obtain ⟨y, ey, hy⟩ := hval _ hqT
  have hrr : reps hid hi p.2 dl = rep := by rw [ok.ah.reps, ← hrep]
  rw [hrr] at hy
  refine ⟨tb, _, _, f (p.2, dl), rfl, dmT, isTD hzd4 ht4, by rw [mapD_get, if_pos hqT], ?_⟩
  rw [ey]
  have r40 : rep.length ≤ 40 := by
    have h1 : rep.Nodup := by rw [hrep]; exact (CM.reps_sorted HI p.2 dl).imp fun h => by omega
    have h2 := CM.nodup_le (n := HI.length) h1 fun x hx => by
      rw [hrep] at hx
      exact sk.gk.gh.wf.rep ((CM.mem_reps sk.gk.gh.wf).mp hx)
    have := sk.gk.h40
    omega
  refine ⟨_, rfl, _, rfl, _, rfl, _, rfl, y, _, rfl, .inl (SqL.of hy), rfl, ?_⟩
  have e0 : decide (V.int (((rep.map V.int).length : Nat) : Int) = V.int 0) = decide (rep.length = 0) := decide_eq_decide.mpr (by rw [V.int.injEq, List.length_map]; omega)
  rw [e0]
  refine ⟨_, rfl, _, rfl, a, .ref pa, q3, y, wd, lv, hv, rd, LO, HI, ds, qs, ρ, p, str, there, rep, tvs2, rfl, sk4, hsv.mono (Tups.same s14), hq34, hP4, hy, w0, w1, r40, fun d hd => (dok d hd).2, sk.pl.len, fun H5 s5 => ?_⟩
  have s15 := s14.trans s5
  refine ⟨_, rfl, iteF ?_⟩
  refine ⟨_, rfl, y, _, rfl, .inl (SqL.of (s5 _ _ hy)), rfl, ?_⟩
  rw [e0]
  refine ⟨_, rfl, ?_⟩
  by_cases hz0 : rep.length = 0
  · rw [decide_eq_true hz0]
    refine iteT ⟨_, rfl, szk 2 rfl, fun q hq => won q _ (fresh_back s15 hq) (s15.trans (Same.new1 hq)) upd_same⟩
  rw [decide_eq_false hz0]
  refine iteF ?_
  have hy5 := s5 _ _ hy
  refine ⟨_, rfl, _, rfl, _, rfl, .inl ⟨_, rfl, _, rfl, y, _, rfl, .inl (SqL.of hy5), _, _, rfl, rfl, ?_, ?_⟩⟩
  · show (0 : Int) < _
    rw [List.length_map]
    omega
  rw [List.length_map]
  have hk0 : 0 ≤ ch % (rep.length : Int) := Int.emod_nonneg _ (by omega)
  have hk1 : ch % (rep.length : Int) < (rep.length : Int) := Int.emod_lt_of_pos _ (by omega)
  obtain ⟨kk, ek⟩ : ∃ kk, kk = ch % (rep.length : Int) := ⟨_, rfl⟩
  rw [← ek] at hk0 hk1
  have hrk : rep[kk.toNat]? = some (rep[kk.toNat]'(by omega)) := List.getElem?_eq_getElem _
  have hrm : rep[kk.toNat]'(by omega) ∈ rep := List.getElem_mem _
  generalize rep[kk.toNat]'(by omega) = r at hrk hrm
  refine ⟨y, _, kk, _, rfl, by show V.int (ch % (rep.length : Int)) = V.int kk; rw [ek], SqL.of hy5, atI_ints hk0 hrk, szk 2 rfl, fun t2 ht2 => ?_⟩
  have s6 : Same H5 (upd H5 t2 (.tup [.int there, .int r])) := Same.new1 ht2
  have s16 := s15.trans s6
  have hpv : PairAt (upd H5 t2 (.tup [.int there, .int r])) (.ref t2) (there, r) := ⟨t2, rfl, upd_same⟩
  have sk6 := sk4.mono (s5.trans s6)
  generalize upd H5 t2 (.tup [.int there, .int r]) = H6 at s6 s16 hpv sk6
  obtain ⟨pt, ept, hpt⟩ := id hpv
  cases ept
  refine ⟨_, rfl, a, rfl, _, rfl, t2, _, 1, _, rfl, rfl, SqT.of hpt, rfl, .inr ⟨dx, fs, s16 _ _ g1⟩, ?_⟩
  refine ⟨a, r, lv, hv, rd, LO, HI, ds, qs, ρ, p, str, there, rep, rfl, sk6.sp, sk6.gm, sk6.gk, fun r hr => ⟨(sk.pl.near r hr).1, (sk.pl.near r hr).2.1⟩, r40, fun hn => absurd hrm hn, fun _ str2 there2 rep2 q7 tvs7 H7 b7 sp7 pl7 hq7 hP7 => ?_⟩
  obtain ⟨dx7, fs7, sv7, tl7, rl7, tvs9, f1, f2, f3, f4, f5, f6, f7, f8, f9, f10, f11⟩ := id sp7.ex
  refine ⟨_, rfl, a, dx7, fs7, rfl, f1, a, lv, hv, rd, (there, r), str2, there2, rep2, rfl, sp7, fun q8 tvs8 H8 hq8 s8 hq8' hP8 => ?_⟩
  have h1000 := pl7.len
  refine ⟨.ref q7, .ref q8, _, _, rfl, deeds_dp (s8 _ _ hq7) (deeds_all hP7 (Tups.same s8)), deeds_dp hq8' hP8, kin_deeds (fun d hd => (dokOf pl7.run d hd).2) (by omega), ?_⟩
  rw [eqv_deeds]
  refine ⟨_, rfl, iteF ?_⟩
  have sp8 := sp7.mono s8
  have ha6 := s16 _ _ g1
  have tt : Tups H6 H8 := fun x xs e => s8 _ _ (b7.tup ha6 x xs e)
  have hpv8 : PairAt H8 (.ref t2) (there, r) := hpv.mono tt
  refine ⟨_, rfl, a, dx7, fs7, rfl, s8 _ _ f1, a, lv, hv, rd, (there, r), str2, there2, rep2, rfl, sp8, fun v9 hv9 => ?_⟩
  refine ⟨_, rfl, v9, .ref t2, _, _, rfl, PairAt.dp hv9, PairAt.dp hpv8, kin_pair _ _ 1, ?_⟩
  rw [eqv_pair, decide_eq_true (rfl : ((there, r) : Pr) = (there, r))]
  refine ⟨_, rfl, iteF ?_⟩
  obtain ⟨ox, hx⟩ := DM.at ow.rd
  have dm8 : DM TP w H8 rd2 qs (fun p => .int (ρ p)) := ow.rd.mono (by rw [s8 _ _ (b7 _ _ (fun q => by rw [q, g1] at hx; cases hx) (s16 _ _ hx)), hx]) fun x xs e => tt x xs (s16 _ _ e)
  obtain ⟨n1, n2, n3⟩ := sk.pl.near r hrm
  refine ⟨_, rfl, rd2, rfl, ⟨_, dm8⟩, _, rfl, _, _, dm8, hpv8.isP, ?_⟩
  rw [mapD_get, if_pos n1]
  refine ⟨_, _, rfl, rfl, _, rfl, ite2 (fun c => absurd (of_decide_eq_true c) (by omega)) fun _ => ?_⟩
  refine ⟨_, rfl, rd2, rfl, ⟨_, dm8⟩, _, rfl, _, _, dm8, hpv8.isP, ?_⟩
  rw [mapD_get, if_pos n1]
  refine ⟨_, rfl, _, rfl, rd2, _, _, _, rfl, dm8, (hsv.mono fun x xs e => tt x xs (s16 _ _ e)).isP, by rw [mapD_get, if_pos hpq], ?_⟩
  refine ⟨_, _, rfl, rfl, _, rfl, ite2 (fun c => absurd (of_decide_eq_true c) (by omega)) fun _ => ?_⟩
  refine ⟨_, rfl, szk 2 rfl, fun q hq => ?_⟩
  have s9 : Same H8 (upd H8 q (.lst [.int 1, .ref t2])) := Same.new1 hq
  have hqH : H q = none := by
    cases e : H q with
    | none => rfl
    | some x =>
      by_cases hqa : q = a
      · have := s8 _ _ f1
        rw [← hqa, hq] at this
        cases this
      · have := s8 _ _ (b7 _ _ hqa (s16 _ _ e))
        rw [hq] at this
        cases this
  exact goes q (.ref t2) r str2 there2 rep2 _ hrm hqH (fun b u hb e => s9 _ _ (s8 _ _ (b7 b u hb (s16 _ _ e)))) upd_same (hpv8.mono (Tups.same s9)) ⟨sp8.mono s9, ((sk6.gm.but b7 ha6 hne).mono s8).mono s9, sk.gk, pl7⟩
end
end Ct
/-! _law_played. -/
namespace Ct
open PySem PySem.Spec PyProof.Rows L2 Nd
open CM (InR Wf Qt Rep row reps Leads)
theorem SpAt.but {K : PySem.W.Frag} {a a' dx : Addr} {fs : List (Str × V)} {H H' : Hp} {lv hv : V} {rd : Addr} {p : Pr} {str : List Deed} {there : Int} {rep : List Int} (h : SpAt K H a' lv hv rd p str there rep) (b : But a H H') (ha : H a = some (.ins (He.ga K "Spoiler") dx fs)) (ne : a' ≠ a) :
    SpAt K H' a' lv hv rd p str there rep := by
  obtain ⟨dx', fs', sv, tl, rl, tvs, h1, h2, h3, h4, h5, h6, h7, h8, h9, h10, h11⟩ := h.ex
  exact ⟨dx', fs', sv, tl, rl, tvs, b _ _ ne h1, h2, h3, h4, h5.mono (b.tup ha), h6, b.lst ha h7, deeds_all h8 (b.tup ha), h9, h10, b.lst ha h11⟩
/-- all but spoilers stays -/
def Kp (K : PySem.W.Frag) (H H' : Hp) : Prop := ∀ x o, H x = some o → (∀ dx fs, o ≠ .ins (He.ga K "Spoiler") dx fs) → H' x = some o
section
variable {K : PySem.W.Frag} {H H' H2 : Hp}
theorem Kp.same (s : Same H H') : Kp K H H' := fun x o e _ => s x o e
theorem Kp.trans (a : Kp K H H') (b : Kp K H' H2) : Kp K H H2 := fun x o e n => b x o (a x o e n) n
theorem Kp.of_but {a dx : Addr} {fs : List (Str × V)} (b : But a H H') (ha : H a = some (.ins (He.ga K "Spoiler") dx fs)) : Kp K H H' := fun x o e n => b x o (fun q => n dx fs (by rw [q, ha] at e; exact (Option.some.inj e).symm)) e
theorem Kp.upd {st : Addr} {o : HO} (k : Kp K H H') (h : H st = none) : Kp K H (upd H' st o) := fun x u e n => by
  rw [upd_ne (fun q => by rw [q, h] at e; cases e)]
  exact k x u e n
theorem Kp.lst (k : Kp K H H') {x : Addr} {l : List V} (e : H x = some (.lst l)) : H' x = some (.lst l) := k x _ e fun dx fs q => by cases q
theorem Kp.tup (k : Kp K H H') : Tups H H' := fun x l e => k x _ e fun dx fs q => by cases q
theorem Kp.dm {κ : Type} {T : KeyTy κ} {w : World} {c : Addr} {qs : List κ} {f : κ → V} (k : Kp K H H') (d : DM T w H c qs f) : DM T w H' c qs f := by
  obtain ⟨o, ho⟩ := DM.at d
  exact d.mono (by rw [k _ _ ho (fun dx fs q => by cases q), ho]) k.tup
theorem Kp.rows (k : Kp K H H') {v : V} {R : Rows} (h : RowsAt H v R) : RowsAt H' v R := by
  obtain ⟨a, vs, rfl, e, hP⟩ := h
  refine ⟨a, vs, rfl, k.lst e, Paired.mapP hP fun u l q => ?_⟩
  obtain ⟨y, ys, rfl, hy, hyP⟩ := q
  exact ⟨y, ys, rfl, k.lst hy, moves_all hyP k.tup⟩
theorem Kp.web (k : Kp K H H') (hne : He.ga K "Web" ≠ He.ga K "Spoiler") {v : V} {R : Rows} (h : WebAt K H v R) : WebAt K H' v R := by
  obtain ⟨x, xd, r, rfl, hx, hr⟩ := h
  refine ⟨x, xd, r, rfl, k _ _ hx (fun dx fs q => ?_), k.rows hr⟩
  injection q with e
  exact hne e
theorem Kp.gm (k : Kp K H H') (hne : He.ga K "Web" ≠ He.ga K "Spoiler") {w : World} {lv hv : V} {rd : Addr} {LO HI : Rows} {ds : List Deed} {qs : List Pr} {ρ : Pr → Int} (g : Gm w K H lv hv rd LO HI ds qs ρ) : Gm w K H' lv hv rd LO HI ds qs ρ :=
  ⟨k.web hne g.lo, k.web hne g.hi, k.dm g.dm⟩
theorem Kp.own (k : Kp K H H') {w : World} {low : V} {tb rd2 : Addr} {lo hi LO HI : Rows} {ds : List Deed} {qs : List Pr} {ρ : Pr → Int} (o : Own w H low tb rd2 lo hi LO HI ds qs ρ) : Own w H' low tb rd2 lo hi LO HI ds qs ρ := by
  refine ⟨k.rows o.lo, ?_, k.dm o.rd⟩
  obtain ⟨q, f, d, h1, h2⟩ := o.tab.ex
  refine ⟨q, f, k.dm d, h1, fun x hx => ?_⟩
  obtain ⟨a, e, h⟩ := h2 x hx
  exact ⟨a, e, k.lst h⟩
theorem SpAt.upd {a st q0 q1 : Addr} {lv hv : V} {rd : Addr} {p : Pr} {str : List Deed} {there : Int} {rep : List Int} {o l : List V} (h : SpAt K H a lv hv rd p str there rep) (hs : H st = some (.lst [.ref q0, .ref q1])) (hq : H q0 = some (.lst l)) :
    SpAt K (upd H st (.lst o)) a lv hv rd p str there rep := by
  obtain ⟨dx', fs', sv, tl, rl, tvs, h1, h2, h3, h4, h5, h6, h7, h8, h9, h10, h11⟩ := h.ex
  have tt : Tups H (L2.upd H st (.lst o)) := Tups.upd (not_tup hs)
  refine ⟨dx', fs', sv, tl, rl, tvs, ?_, h2, h3, h4, h5.mono tt, h6, ?_, deeds_all h8 tt, h9, h10, ?_⟩
  · rw [upd_ne (fun q => by rw [q, hs] at h1; cases h1)]
    exact h1
  · rw [upd_ne (fun q => ?_)]
    · exact h7
    · rw [q, hs] at h7
      injection h7 with e
      injection e with e
      subst e
      cases h8 with
      | cons x _ =>
        obtain ⟨z, e1, e2⟩ := x
        injection e1 with e1
        subst e1
        rw [hq] at e2
        cases e2
  · rw [upd_ne (fun q => ?_)]
    · exact h11
    · rw [q, hs] at h11
      injection h11 with e
      injection e with e
      cases rep with
      | nil => cases e
      | cons x r =>
        injection e with e _
        cases e
end
/-- one side of the play after m turns -/
structure Side (w : World) (K : PySem.W.Frag) (H : Hp) (a : Addr) (lv hv : V) (rd : Addr) (LO HI : Rows) (ds : List Deed) (qs : List Pr) (ρ : Pr → Int) (q : Addr) (m : Nat) : Prop where
  ex : ∃ (c : Int) (pv : V), H q = some (.lst [.int c, pv]) ∧ (c = 2 ∨ (c = 1 ∧ ∃ p str there rep, PairAt H pv p ∧ p ∈ qs ∧ 0 < ρ p ∧ ρ p + (m : Int) ≤ 999 ∧ Sk w K H a lv hv rd LO HI ds qs ρ p str there rep))
section
variable {w : World} {K : PySem.W.Frag} {H H' : Hp} {lv hv : V} {rd : Addr} {LO HI : Rows} {ds : List Deed} {qs : List Pr} {ρ : Pr → Int}
theorem Side.same {a q : Addr} {m : Nat} (h : Side w K H a lv hv rd LO HI ds qs ρ q m) (s : Same H H') : Side w K H' a lv hv rd LO HI ds qs ρ q m := by
  obtain ⟨c, pv, h1, h2⟩ := h.ex
  refine ⟨c, pv, s _ _ h1, h2.imp id fun ⟨e, p, str, there, rep, x1, x2, x3, x4, x5⟩ => ⟨e, p, str, there, rep, x1.mono (Tups.same s), x2, x3, x4, x5.mono s⟩⟩
theorem Side.but {a a' dx q : Addr} {fs : List (Str × V)} {m : Nat} (hne : He.ga K "Web" ≠ He.ga K "Spoiler") (h : Side w K H a' lv hv rd LO HI ds qs ρ q m) (b : But a H H') (ha : H a = some (.ins (He.ga K "Spoiler") dx fs)) (ne : a' ≠ a) : Side w K H' a' lv hv rd LO HI ds qs ρ q m := by
  obtain ⟨c, pv, h1, h2⟩ := h.ex
  refine ⟨c, pv, b.lst ha h1, h2.imp id fun ⟨e, p, str, there, rep, x1, x2, x3, x4, x5⟩ => ⟨e, p, str, there, rep, x1.mono (b.tup ha), x2, x3, x4, x5.sp.but b ha ne, x5.gm.but b ha hne, x5.gk, x5.pl⟩⟩
theorem Side.upd {a q st q0 q1 : Addr} {m : Nat} {o l : List V} (h : Side w K H a lv hv rd LO HI ds qs ρ q m) (hs : H st = some (.lst [.ref q0, .ref q1])) (hq : H q0 = some (.lst l)) (g : Gm w K (L2.upd H st (.lst o)) lv hv rd LO HI ds qs ρ) : Side w K (L2.upd H st (.lst o)) a lv hv rd LO HI ds qs ρ q m := by
  obtain ⟨c, pv, h1, h2⟩ := h.ex
  have tt : Tups H (L2.upd H st (.lst o)) := Tups.upd (not_tup hs)
  refine ⟨c, pv, ?_, h2.imp id fun ⟨e, p, str, there, rep, x1, x2, x3, x4, x5⟩ => ⟨e, p, str, there, rep, x1.mono tt, x2, x3, x4, x5.sp.upd hs hq, g, x5.gk, x5.pl⟩⟩
  rw [upd_ne (fun z => ?_)]
  · exact h1
  · rw [z, hs] at h1
    injection h1 with e
    injection e with e
    injection e with e _
    cases e
end
theorem at2 {f : Nat → V} {i : Nat} (h : i < 2) : atI [f 0, f 1] (0 + (i : Int)) = some (f i) := by
  rcases Nat.lt_or_ge i 1 with h1 | h1
  · obtain rfl : i = 0 := by omega
    rfl
  · obtain rfl : i = 1 := by omega
    rfl
theorem ixN_two {i : Nat} (h : i < 2) : ixN 2 (i : Int) = some i := by
  rcases Nat.lt_or_ge i 1 with h1 | h1
  · obtain rfl : i = 0 := by omega
    rfl
  · obtain rfl : i = 1 := by omega
    rfl
theorem set2 {q : Nat → Addr} {i : Nat} {x : Addr} (h : i < 2) : [V.ref (q 0), V.ref (q 1)].set i (.ref x) = [.ref (if 0 = i then x else q 0), .ref (if 1 = i then x else q 1)] := by
  rcases Nat.lt_or_ge i 1 with h1 | h1
  · obtain rfl : i = 0 := by omega
    rfl
  · obtain rfl : i = 1 := by omega
    rfl
section
variable {P : Program} {w : World} {K : PySem.W.Frag} {mg : Str → Option Value} {base : Heap}
def spPlayed (w : World) (K : PySem.W.Frag) : Sp := fun vs H Q _ => ∃ (g scr : Addr) (ns : List Int) (low high : V) (tb : Addr) (lv hv : V) (rd : Addr) (lo hi LO HI : Rows) (ds : List Deed) (qs : List Pr) (ρ : Pr → Int), vs = [.ref g, .ref scr, low, high, .ref tb] ∧
  SqL K H scr (ns.map V.int) ∧ ns.length ≤ 100000 ∧ GameAt w K H g lv hv rd LO HI ds qs ρ ∧ Gk LO HI ds qs ρ ∧ (0, 0) ∈ qs ∧ 0 < ρ (0, 0) ∧ RowsAt H low lo ∧ RowsAt H high hi ∧ Tab w H tb hi ds ∧ Ownk lo hi LO HI ds ∧ ∀ H', Q (.bl true) H'
theorem sc__law_played : FnScope (["_law_game", "_law_script", "_law_low", "_law_high", "_law_table_here", "_law_rounds", "_law_spoilers", "_law_draws_here", "_law_states", "_law_k", "_law_j", "_law_choice"] : List Str) ["_law_game", "_law_script", "_law_low", "_law_high", "_law_table_here"] (defScope s_played_L) := ⟨rfl, rfl, rfl, by decide +kernel, rfl, by decide +kernel, by decide +kernel⟩
theorem ok_played (F : TF K "_law_played" s_played_L) (T : Tx K mg) (hne : He.ga K "Web" ≠ He.ga K "Spoiler") (D_Game_rounds : MOk P w K mg base 1 "Game" "rounds" ["self"] (spGRounds w K)) (D_Game_spoiler : MOk P w K mg base 9 "Game" "spoiler" ["self"] (spGSpoiler w K))
    (D__law_draws : DOk P w K mg base 1 "_law_draws" ["_law_cell_here", "_law_spans"] spDraws) (D__law_cell : DOk P w K mg base 1 "_law_cell" ["_law_script", "_law_k"] (spCell K))
    (D__law_turn : DOk P w K mg base 10 "_law_turn" ["_law_spoiler", "_law_low", "_law_width", "_law_table_here", "_law_rounds", "_law_stand", "_law_choice"] (spTurn w K)) :
    DOk P w K mg base 11 "_law_played" ["_law_game", "_law_script", "_law_low", "_law_high", "_law_table_here"] (spPlayed w K) := by
  refine dok F T.g__law_played sc__law_played (fun vs H Q E h => ?_) (fun _ _ _ _ _ _ us hl => match us, hl with | [_, _, _, _, _], _ => rfl) (fun cdv A outer s H vs Q E hr h => ?_)
  · obtain ⟨g, scr, ns, low, high, tb, lv, hv, rd, lo, hi, LO, HI, ds, qs, ρ, rfl, _⟩ := h
    rfl
  obtain ⟨g, scr, ns, low, high, tb, lv, hv, rd, lo, hi, LO, HI, ds, qs, ρ, rfl, hscr, hns, hg, gk, hz, hρ, hlo, hhi, tab, ok, kk⟩ := h
  have hu9 := hu9_of hr
  have hu64 := hu64_of hr
  refine ⟨_, (pss_cons (ps_set (i := 5) sc__law_played.nd rfl (Or.inl rfl) (pe_m0 D_Game_rounds (hr.mono (by decide)) (pv 0)))
    (pss_cons (ps_set (i := 6) sc__law_played.nd rfl (Or.inl rfl) (pe_lst (pa_cons (pe_m0 D_Game_spoiler (hr.mono (by decide)) (pv 0)) (pa_cons (pe_m0 D_Game_spoiler (hr.mono (by decide)) (pv 0)) pa_nil))))
    (pss_cons (ps_if (PW.pt (pw_or (pt_cmpR op_isN (pe_ix ix_list (pv 6) pe_int (fun _ _ => rfl)) pe_non (nomark _)) (pw_or (pt_cmpR op_isN (pe_ix ix_list (pv 6) pe_int (fun _ _ => rfl)) pe_non (nomark _)) (pw_or1 (pt_cmpR op_lt (pe_nget2 hu9 (pv 5) (pe_tup (pa_cons pe_int (pa_cons pe_int pa_nil))) pe_int ⟨rfl, rfl, rfl, rfl⟩) pe_int (nomark _)))))) (pss_one (ps_ret pe_bl)) pss_nil)
    (pss_cons (ps_set (i := 7) sc__law_played.nd rfl (Or.inl rfl) (pe_lst (pa_cons (pe_d D__law_draws (hr.mono (by decide)) (by rfl) (pa_cons (pe_d D__law_cell (hr.mono (by decide)) (by rfl) (pa_cons (pv 1) (pa_cons pe_int pa_nil))) (pa_cons (pe_op op_rep (pe_lst (pa_cons pe_int pa_nil)) pe_int) pa_nil))) (pa_cons (pe_d D__law_draws (hr.mono (by decide)) (by rfl) (pa_cons (pe_d D__law_cell (hr.mono (by decide)) (by rfl) (pa_cons (pv 1) (pa_cons pe_int pa_nil))) (pa_cons (pe_op op_rep (pe_lst (pa_cons pe_int pa_nil)) pe_int) pa_nil))) pa_nil))))
    (pss_cons (ps_set (i := 8) sc__law_played.nd rfl (Or.inl rfl) (pe_lst (pa_cons (pe_lst (pa_cons pe_int (pa_cons (pe_tup (pa_cons pe_int (pa_cons pe_int pa_nil))) pa_nil))) (pa_cons (pe_lst (pa_cons pe_int (pa_cons (pe_tup (pa_cons pe_int (pa_cons pe_int pa_nil))) pa_nil))) pa_nil))))
    (pss_cons (ps_for PassesOwn.never rfl (pi_range1 rfl T.f_range (pa_cons pe_int pa_nil)) (pg_name (i := 9) sc__law_played.nd rfl (Or.inl rfl)) (pss_cons (ps_for PassesOwn.never rfl (pi_range1 rfl T.f_range (pa_cons pe_int pa_nil)) (pg_name (i := 10) sc__law_played.nd rfl (Or.inl rfl)) (pss_one (ps_if (pt_cmpR (op_eqD hu64) (pe_ix ix_list (pe_ix ix_list (pv 8) (pv 10) (fun _ _ => rfl)) pe_int (fun _ _ => rfl)) pe_int (nomark _)) (pss_cons (ps_set (i := 11) sc__law_played.nd rfl (Or.inl rfl) (pe_ix ix_list (pe_ix ix_list (pv 7) (pv 10) (fun _ _ => rfl)) (pe_op op_mod (pv 9) pe_int) (fun _ _ => rfl)))
    (pss_one (ps_asg (pe_d D__law_turn (hr.mono (by decide)) (by rfl) (pa_cons (pe_ix ix_list (pv 6) (pv 10) (fun _ _ => rfl)) (pa_cons (pv 2) (pa_cons (pe_callB call_len_seq (by rfl) T.f_len (by decide +kernel) (pa_cons (pv 3) pa_nil)) (pa_cons (pv 4) (pa_cons (pv 5) (pa_cons (pe_ix ix_list (pe_ix ix_list (pv 8) (pv 10) (fun _ _ => rfl)) pe_int (fun _ _ => rfl)) (pa_cons (pv 11) pa_nil)))))))) (pg_sub (pv 8) (pv 10) set_list)))) pss_nil)))
    (pss_one (ps_if (PW.pt (pw_and (pt_cmpR (op_neD hu64) (pe_ix ix_list (pe_ix ix_list (pv 8) pe_int (fun _ _ => rfl)) pe_int (fun _ _ => rfl)) pe_int (nomark _)) (pw_and1 (pt_cmpR (op_neD hu64) (pe_ix ix_list (pe_ix ix_list (pv 8) pe_int (fun _ _ => rfl)) pe_int (fun _ _ => rfl)) pe_int (nomark _))))) (pss_one (ps_ret (pe_and (pe_cmpR (op_eqD hu64) (pe_ix ix_list (pe_ix ix_list (pv 8) pe_int (fun _ _ => rfl)) pe_int (fun _ _ => rfl)) pe_int (nomark _)) (pe_one (pe_cmpR (op_eqD hu64) (pe_ix ix_list (pe_ix ix_list (pv 8) pe_int (fun _ _ => rfl)) pe_int (fun _ _ => rfl)) pe_int (nomark _)))))) pss_nil))))
    (pss_one (ps_ret pe_bl)))))))), ?_⟩
  obtain ⟨gdx, gfs, hga, hgf⟩ := id hg.ex
  refine ⟨_, rfl, g, gdx, gfs, rfl, hga, hgf.m2, g, lv, hv, rd, LO, HI, ds, qs, ρ, rfl, hg, gk, fun rd2 H1 hrd2 s1 dm1 => ?_⟩
  have hg1 := hg.mono s1
  refine ⟨_, rfl, g, gdx, gfs, rfl, s1 _ _ hga, hgf.m3, g, lv, hv, rd, LO, HI, ds, qs, ρ, rfl, hg1, gk, hz, fun e => absurd e (by omega), fun _ b0 str0 th0 rep0 H2 hb0 s2 sp0 pl0 => ?_⟩
  have hg2 := hg1.mono s2
  have s12 := s1.trans s2
  refine ⟨_, rfl, g, gdx, gfs, rfl, s12 _ _ hga, hgf.m3, g, lv, hv, rd, LO, HI, ds, qs, ρ, rfl, hg2, gk, hz, fun e => absurd e (by omega), fun _ b1 str1 th1 rep1 H3 hb1 s3 sp1 pl1 => ?_⟩
  have sp0' := sp0.mono s3
  have hg3 := hg2.mono s3
  have s13 := s12.trans s3
  obtain ⟨dx0, fs0, _, _, _, _, i0, _⟩ := id sp0'.ex
  have nb : b0 ≠ b1 := fun e => by
    obtain ⟨_, _, _, _, _, _, j0, _⟩ := id sp0.ex
    rw [e, hb1] at j0
    cases j0
  refine ⟨szk 2 rfl, fun sl hsl => ?_⟩
  have s4 : Same H3 (upd H3 sl (.lst [.ref b0, .ref b1])) := Same.new1 hsl
  have hsl4 : (upd H3 sl (.lst [.ref b0, .ref b1])) sl = some (.lst [.ref b0, .ref b1]) := upd_same
  have s14 := s13.trans s4
  refine ⟨_, rfl, sl, _, 0, _, rfl, rfl, SqL.of hsl4, rfl, rfl, _, rfl, iteF ?_⟩
  refine ⟨_, rfl, sl, _, 1, _, rfl, rfl, SqL.of hsl4, rfl, rfl, _, rfl, iteF ?_⟩
  obtain ⟨ox, hx⟩ := DM.at dm1
  have s24 : Same H1 (upd H3 sl (.lst [.ref b0, .ref b1])) := s2.trans (s3.trans s4)
  have dm4 := dm1.mono (H' := upd H3 sl (.lst [.ref b0, .ref b1])) (by rw [s24 _ _ hx, hx]) (Tups.same s24)
  refine ⟨_, rfl, rd2, rfl, ⟨_, dm4⟩, szk 2 rfl, fun t ht => ?_⟩
  have s5 : Same (upd H3 sl (.lst [.ref b0, .ref b1])) (upd (upd H3 sl (.lst [.ref b0, .ref b1])) t (.tup [.int 0, .int 0])) := Same.new1 ht
  have s25 := s24.trans s5
  have dm5 := dm1.mono (H' := upd (upd H3 sl (.lst [.ref b0, .ref b1])) t (.tup [.int 0, .int 0])) (by rw [s25 _ _ hx, hx]) (Tups.same s25)
  refine ⟨_, _, dm5, PairAt.isP (p := (0, 0)) ⟨t, rfl, upd_same⟩, ?_⟩
  rw [mapD_get, if_pos hz]
  refine ⟨_, _, rfl, rfl, _, rfl, ite2 (fun c => absurd (of_decide_eq_true c) (by omega)) fun _ => ?_⟩
  have s15 := s1.trans s25
  have g5 : ∀ {x : Addr} {o : HO}, (upd H3 sl (.lst [.ref b0, .ref b1])) x = some o → (upd (upd H3 sl (.lst [.ref b0, .ref b1])) t (.tup [.int 0, .int 0])) x = some o := fun e => s5 _ _ e
  have hsl5 := g5 hsl4
  have sp05 := (sp0'.mono s4).mono s5
  have sp15 := (sp1.mono s4).mono s5
  have hg5 := (hg3.mono s4).mono s5
  generalize upd (upd H3 sl (.lst [.ref b0, .ref b1])) t (.tup [.int 0, .int 0]) = H5 at s5 s25 s15 dm5 g5 hsl5 sp05 sp15 hg5
  have r60 : ∀ x ∈ List.replicate 30 (60 : Int), 0 < x ∧ x < 1000000 := fun x hx => by rw [List.eq_of_mem_replicate hx]; decide
  refine ⟨_, rfl, scr, ns, 5, rfl, sqSame hscr s15, hns, ⟨by decide, by decide⟩, fun c5 hc5 => ?_⟩
  refine ⟨szk 1 rfl, fun p1 hp1 => ⟨p1, 30, _, rfl, rfl, upd_same, by decide, by decide, szL (by decide), fun p2 hp2 => ?_⟩⟩
  have s6 : Same H5 (upd H5 p1 (.lst [.int 60])) := Same.new1 hp1
  have s7 : Same (upd H5 p1 (.lst [.int 60])) (upd (upd H5 p1 (.lst [.int 60])) p2 (.lst ((List.replicate 30 (60 : Int)).map V.int))) := Same.new1 hp2
  refine ⟨c5, p2, List.replicate 30 60, rfl, upd_same, by rw [List.length_replicate]; decide, r60, hc5, fun dr0 dp0 H8 hdp0 s8 hdr0 hdw0 => ?_⟩
  have s58 := s6.trans (s7.trans s8)
  refine ⟨_, rfl, scr, ns, 6, rfl, sqSame (sqSame hscr s15) s58, hns, ⟨by decide, by decide⟩, fun c6 hc6 => ?_⟩
  refine ⟨szk 1 rfl, fun p3 hp3 => ⟨p3, 30, _, rfl, rfl, upd_same, by decide, by decide, szL (by decide), fun p4 hp4 => ?_⟩⟩
  have s9 : Same H8 (upd H8 p3 (.lst [.int 60])) := Same.new1 hp3
  have s10 : Same (upd H8 p3 (.lst [.int 60])) (upd (upd H8 p3 (.lst [.int 60])) p4 (.lst ((List.replicate 30 (60 : Int)).map V.int))) := Same.new1 hp4
  refine ⟨c6, p4, List.replicate 30 60, rfl, upd_same, by rw [List.length_replicate]; decide, r60, hc6, fun dr1 dp1 HB hdp1 s11 hdr1 hdw1 => ?_⟩
  have s8B := s9.trans (s10.trans s11)
  have s5B := s58.trans s8B
  have hdr0B := s8B _ _ hdr0
  refine ⟨szk 2 rfl, fun dl hdl => ?_⟩
  have sC : Same HB (upd HB dl (.lst [.ref dp0, .ref dp1])) := Same.new1 hdl
  have hdlC : (upd HB dl (.lst [.ref dp0, .ref dp1])) dl = some (.lst [.ref dp0, .ref dp1]) := upd_same
  have hdr0C := sC _ _ hdr0B
  have hdr1C := sC _ _ hdr1
  have s5C := s5B.trans sC
  generalize upd HB dl (.lst [.ref dp0, .ref dp1]) = HC at sC hdlC hdr0C hdr1C s5C
  have dmC := (Kp.same (K := K) s5C).dm dm5
  have s1C := s15.trans s5C
  have owC : Own w HC low tb rd2 lo hi LO HI ds qs ρ := ⟨hlo.mono s1C, tab.mono s1C, dmC⟩
  have hhiC := hhi.mono s1C
  have gmC := (hg5.mono s5C).gm
  have sp0C := sp05.mono s5C
  have sp1C := sp15.mono s5C
  have hslC := s5C _ _ hsl5
  have l0 : dr0.length = 30 := by rw [hdw0.len, List.length_replicate]
  have l1 : dr1.length = 30 := by rw [hdw1.len, List.length_replicate]
  have q999 : ρ (0, 0) ≤ 999 := by
    have a1 := (gk.R.rng _ hz).2
    have a2 := gk.q9
    omega
  obtain ⟨bs, hb0', hb1'⟩ : ∃ f : Nat → Addr, f 0 = b0 ∧ f 1 = b1 := ⟨fun j => if j = 0 then b0 else b1, rfl, rfl⟩
  obtain ⟨dps, hd0', hd1'⟩ : ∃ f : Nat → Addr, f 0 = dp0 ∧ f 1 = dp1 := ⟨fun j => if j = 0 then dp0 else dp1, rfl, rfl⟩
  obtain ⟨drs, he0', he1'⟩ : ∃ f : Nat → List Int, f 0 = dr0 ∧ f 1 = dr1 := ⟨fun j => if j = 0 then dr0 else dr1, rfl, rfl⟩
  clear i0
  subst hb0' hb1' hd0' hd1' he0' he1'
  have hdrs : ∀ j, j < 2 → HC (dps j) = some (.lst ((drs j).map V.int)) ∧ (drs j).length = 30 := fun j hj => by
    rcases Nat.lt_or_ge j 1 with h1 | h1
    · obtain rfl : j = 0 := by omega
      exact ⟨hdr0C, l0⟩
    · obtain rfl : j = 1 := by omega
      exact ⟨hdr1C, l1⟩
  have nbs : ∀ i j, i < 2 → j < 2 → j ≠ i → bs j ≠ bs i := fun i j hi hj hn => by
    rcases Nat.lt_or_ge j 1 with h1 | h1
    · obtain rfl : j = 0 := by omega
      obtain rfl : i = 1 := by omega
      exact nb
    · obtain rfl : j = 1 := by omega
      obtain rfl : i = 0 := by omega
      exact fun e => nb e.symm
  refine ⟨szk 2 rfl, fun t0 ht0 => ?_⟩
  have c1 : Same HC (upd HC t0 (.tup [.int 0, .int 0])) := Same.new1 ht0
  have ht0' : (upd HC t0 (.tup [.int 0, .int 0])) t0 = some (.tup [.int 0, .int 0]) := upd_same
  generalize upd HC t0 (.tup [.int 0, .int 0]) = E1 at c1 ht0'
  refine ⟨szk 2 rfl, fun q0 hq0 => ?_⟩
  have c2 : Same E1 (upd E1 q0 (.lst [.int 1, .ref t0])) := Same.new1 hq0
  have hq0' : (upd E1 q0 (.lst [.int 1, .ref t0])) q0 = some (.lst [.int 1, .ref t0]) := upd_same
  generalize upd E1 q0 (.lst [.int 1, .ref t0]) = E2 at c2 hq0'
  refine ⟨szk 2 rfl, fun t1 ht1 => ?_⟩
  have c3 : Same E2 (upd E2 t1 (.tup [.int 0, .int 0])) := Same.new1 ht1
  have ht1' : (upd E2 t1 (.tup [.int 0, .int 0])) t1 = some (.tup [.int 0, .int 0]) := upd_same
  generalize upd E2 t1 (.tup [.int 0, .int 0]) = E3 at c3 ht1'
  refine ⟨szk 2 rfl, fun q1 hq1 => ?_⟩
  have c4 : Same E3 (upd E3 q1 (.lst [.int 1, .ref t1])) := Same.new1 hq1
  have hq1' : (upd E3 q1 (.lst [.int 1, .ref t1])) q1 = some (.lst [.int 1, .ref t1]) := upd_same
  generalize upd E3 q1 (.lst [.int 1, .ref t1]) = E4 at c4 hq1'
  refine ⟨szk 2 rfl, fun st hst => ?_⟩
  have c14 := c1.trans (c2.trans (c3.trans c4))
  have hstC : HC st = none := fresh_back c14 hst
  have c5 : Same E4 (upd E4 st (.lst [.ref q0, .ref q1])) := Same.new1 hst
  have hst' : (upd E4 st (.lst [.ref q0, .ref q1])) st = some (.lst [.ref q0, .ref q1]) := upd_same
  generalize upd E4 st (.lst [.ref q0, .ref q1]) = E5 at c5 hst'
  have cC := c14.trans c5
  let Cor := fun (m : Nat → Nat) (H1 : Hp) => Kp K HC H1 ∧ ∃ q : Nat → Addr, H1 st = some (.lst [.ref (q 0), .ref (q 1)]) ∧ ∀ j, j < 2 → Side w K H1 (bs j) lv hv rd LO HI ds qs ρ (q j) (m j)
  have cor0 : Cor (fun _ => 0) E5 := by
    refine ⟨Kp.same cC, fun j => if j = 0 then q0 else q1, hst', fun j hj => ?_⟩
    rcases Nat.lt_or_ge j 1 with h1 | h1
    · obtain rfl : j = 0 := by omega
      refine ⟨1, .ref t0, c5 _ _ (c4 _ _ (c3 _ _ hq0')), .inr ⟨rfl, (0, 0), _, _, _, ⟨t0, rfl, c5 _ _ (c4 _ _ (c3 _ _ (c2 _ _ ht0')))⟩, hz, hρ, by show ρ (0, 0) + ((0 : Nat) : Int) ≤ 999; omega, sp0C.mono cC, gmC.mono cC, gk, pl0⟩⟩
    · obtain rfl : j = 1 := by omega
      refine ⟨1, .ref t1, c5 _ _ hq1', .inr ⟨rfl, (0, 0), _, _, _, ⟨t1, rfl, c5 _ _ (c4 _ _ ht1')⟩, hz, hρ, by show ρ (0, 0) + ((0 : Nat) : Int) ≤ 999; omega, sp1C.mono cC, gmC.mono cC, gk, pl1⟩⟩
  obtain ⟨hga, hvs, rfl, hha, hhP⟩ := id hhiC
  have hhl := paired_len hhP
  have h40 : hi.length ≤ 40 := by rw [ok.ah.len]; exact gk.h40
  refine ⟨_, rfl, by decide, by decide, ?_⟩
  refine for_range (n := 1000) (Pv := fun k σ H1 => ∃ (o9 o10 o11 : Option V), σ = [some (.ref g), some (.ref scr), some low, some (.ref hga), some (.ref tb), some (.ref rd2), some (.ref sl), some (.ref dl), some (.ref st), o9, o10, o11] ∧ k ≤ 999 ∧ Cor (fun _ => k) H1) ⟨_, _, _, rfl, by decide, cor0⟩ ?_ ?_
  · rintro k σ H1 hk ⟨o9, o10, o11, rfl, hk9, cor⟩
    refine ⟨_, rfl, by decide, by decide, ?_⟩
    refine for_range (n := 2) (Pv := fun i σ H2 => ∃ (o10 o11 : Option V), σ = [some (.ref g), some (.ref scr), some low, some (.ref hga), some (.ref tb), some (.ref rd2), some (.ref sl), some (.ref dl), some (.ref st), some (.int (0 + (k : Int))), o10, o11] ∧ Cor (fun j => if j < i then k + 1 else k) H2) ⟨_, _, rfl, cor⟩ ?_ ?_
    · rintro i σ H2 hi2 ⟨o10, o11, rfl, kp, q, hst2, sd⟩
      obtain ⟨c, pv, hq, hc⟩ := (sd i hi2).ex
      have ej : ∀ j, j ≠ i → (if j < i + 1 then k + 1 else k) = (if j < i then k + 1 else k) := fun j hj => by
        by_cases h : j < i
        · rw [if_pos h, if_pos (by omega)]
        · rw [if_neg h, if_neg (by omega)]
      refine ⟨_, rfl, _, rfl, st, _, _, _, rfl, rfl, SqL.of hst2, at2 (f := fun j => .ref (q j)) hi2, q i, _, 0, _, rfl, rfl, SqL.of hq, rfl, _, _, .int _, .int _, rfl, rfl, _, rfl, ?_⟩
      rcases hc with rfl | ⟨rfl, p, str, there, rep, hpv, hpq, hpr, hm, sk⟩
      · refine iteF ⟨_, _, rfl, kp, q, hst2, fun j hj => ?_⟩
        by_cases hj' : j = i
        · subst hj'
          exact ⟨_, _, hq, .inl rfl⟩
        · simp only [ej j hj']
          exact sd j hj
      · refine iteT ?_
        have hm : ρ p + ((if i < i then k + 1 else k : Nat) : Int) ≤ 999 := hm
        rw [if_neg (Nat.lt_irrefl _)] at hm
        obtain ⟨dx9, fs9, _, _, _, _, ha9, _⟩ := id sk.sp.ex
        have fin : ∀ qa H3, Kp K H2 H3 → H3 st = some (.lst [.ref (q 0), .ref (q 1)]) → (∀ j, j < 2 → j ≠ i → Side w K H3 (bs j) lv hv rd LO HI ds qs ρ (q j) (if j < i then k + 1 else k)) →
            Side w K H3 (bs i) lv hv rd LO HI ds qs ρ qa (k + 1) → Cor (fun j => if j < i + 1 then k + 1 else k) (upd H3 st (.lst ([V.ref (q 0), V.ref (q 1)].set i (.ref qa)))) := by
          intro qa H3 kp3 hst3 sd3 new
          have kp4 : Kp K HC (upd H3 st (.lst ([V.ref (q 0), V.ref (q 1)].set i (.ref qa)))) := Kp.upd (kp.trans kp3) hstC
          have gm4 := kp4.gm hne gmC
          obtain ⟨z1, z2, hl, _⟩ := (sd 0 (by decide)).ex
          have hl := kp3.lst hl
          refine ⟨kp4, fun j => if j = i then qa else q j, by rw [upd_same, set2 hi2], fun j hj => ?_⟩
          by_cases hj' : j = i
          · subst hj'
            simp only [if_pos (rfl : j = j), if_pos (Nat.lt_succ_self j)]
            exact new.upd hst3 hl gm4
          · simp only [if_neg hj', ej j hj']
            exact (sd3 j hj hj').upd hst3 hl gm4
        obtain ⟨hdr, ldr⟩ := hdrs i hi2
        have hlt : k % 30 < (drs i).length := by rw [ldr]; exact Nat.mod_lt _ (by decide)
        have hat : atI ((drs i).map V.int) ((0 + (k : Int)) % 30) = some (.int (drs i)[k % 30]) := atI_ints (by omega) (by rw [show ((0 + (k : Int)) % 30).toNat = k % 30 by omega]; exact List.getElem?_eq_getElem hlt)
        refine ⟨_, rfl, _, rfl, dl, _, _, _, rfl, rfl, SqL.of (kp.lst hdlC), at2 (f := fun j => .ref (dps j)) hi2, _, rfl, _, _, rfl, rfl, show (0 : Int) < 30 by decide, dps i, _, _, _, rfl, rfl, SqL.of (kp.lst hdr), hat, ?_⟩
        refine ⟨_, rfl, _, rfl, sl, _, _, _, rfl, rfl, SqL.of (kp.lst hslC), at2 (f := fun j => .ref (bs j)) hi2, _, rfl, _, rfl, hga, _, rfl, .inl (SqL.of (kp.lst hha)), _, rfl, _, rfl, _, rfl, _, rfl, st, _, _, _, rfl, rfl, SqL.of hst2, at2 (f := fun j => .ref (q j)) hi2, q i, _, 1, _, rfl, rfl, SqL.of hq, rfl, _, rfl, ?_⟩
        refine ⟨bs i, low, _, tb, rd2, pv, _, lv, hv, rd, lo, hi, LO, HI, ds, qs, ρ, p, str, there, rep, rfl, sk, kp.own owC, ok, hpv, hpq, by omega, by omega, fun qa H3 hqa s3 hqa' => ?_, fun qa pv2 r str2 there2 rep2 H3 hr2 hqa b3 hqa' hpv2 sk2 => ?_⟩
        · refine ⟨_, rfl, _, rfl, st, _, _, i, rfl, rfl, s3 _ _ hst2, by rw [show (0 + (i : Int)) = (i : Int) by omega]; exact ixN_two hi2, ?_⟩
          exact ⟨_, _, rfl, fin qa H3 (Kp.same s3) (s3 _ _ hst2) (fun j hj _ => (sd j hj).same s3) ⟨_, _, hqa', .inl rfl⟩⟩
        · refine ⟨_, rfl, _, rfl, st, _, _, i, rfl, rfl, b3.lst ha9 hst2, by rw [show (0 + (i : Int)) = (i : Int) by omega]; exact ixN_two hi2, ?_⟩
          have nr := sk.pl.near r hr2
          exact ⟨_, _, rfl, fin qa H3 (Kp.of_but b3 ha9) (b3.lst ha9 hst2) (fun j hj hn => (sd j hj).but hne b3 ha9 (nbs i j hi2 hj hn)) ⟨_, _, hqa', .inr ⟨rfl, _, _, _, _, hpv2, nr.1, nr.2.1, by omega, sk2⟩⟩⟩
    · rintro σ H2 ⟨o10, o11, rfl, kp, q, hst2, sd⟩
      obtain ⟨d0, pv0, hq0, hc0⟩ := (sd 0 (by decide)).ex
      obtain ⟨d1, pv1, hq1, hc1⟩ := (sd 1 (by decide)).ex
      have nxt : ∀ j, j < 2 → Side w K H2 (bs j) lv hv rd LO HI ds qs ρ (q j) (k + 1) := fun j hj => by
        have h := sd j hj
        simp only [if_pos hj] at h
        exact h
      refine ⟨_, rfl, st, _, 0, _, rfl, rfl, SqL.of hst2, rfl, q 0, _, 0, _, rfl, rfl, SqL.of hq0, rfl, _, _, .int _, .int _, rfl, rfl, _, rfl, ?_⟩
      rcases hc0 with rfl | ⟨rfl, p, _, _, _, _, _, hp, hm, _⟩
      · refine iteT ?_
        refine ⟨_, rfl, st, _, 1, _, rfl, rfl, SqL.of hst2, rfl, q 1, _, 0, _, rfl, rfl, SqL.of hq1, rfl, _, _, .int _, .int _, rfl, rfl, _, rfl, ?_⟩
        rcases hc1 with rfl | ⟨rfl, p, _, _, _, _, _, hp, hm, _⟩
        · refine iteT ?_
          refine ⟨_, rfl, st, _, 0, _, rfl, rfl, SqL.of hst2, rfl, q 0, _, 0, _, rfl, rfl, SqL.of hq0, rfl, _, _, .int _, .int _, rfl, rfl, _, rfl, iteT ?_⟩
          refine ⟨_, rfl, st, _, 1, _, rfl, rfl, SqL.of hst2, rfl, q 1, _, 0, _, rfl, rfl, SqL.of hq1, rfl, _, _, .int _, .int _, rfl, rfl, ?_⟩
          exact kk _
        · have hm : ρ p + ((k + 1 : Nat) : Int) ≤ 999 := hm
          exact iteF ⟨_, _, _, rfl, by omega, kp, q, hst2, nxt⟩
      · have hm : ρ p + ((k + 1 : Nat) : Int) ≤ 999 := hm
        exact iteF (iteF ⟨_, _, _, rfl, by omega, kp, q, hst2, nxt⟩)
  · rintro σ H1 ⟨o9, o10, o11, rfl, hk9, cor⟩
    exact absurd hk9 (by decide)
end
end Ct
/-! The law. -/
namespace Ct
open PySem PySem.Spec PyProof.Rows L2 Nd
open CM (InR Wf Qt Rep row reps Leads Alike PermRows)
theorem perm_rev (R : Rows) : PermRows R (R.map List.reverse) := by
  induction R with
  | nil => trivial
  | cons a R ih => exact ⟨(List.reverse_perm a).symm, ih⟩
section
variable {P : Program} {w : World} {K : PySem.W.Frag} {mg : Str → Option Value} {base : Heap}
def spLaw (K : PySem.W.Frag) : Sp := fun vs H Q _ => ∃ (a : Addr) (ns : List Int), vs = [.ref a] ∧ SqL K H a (ns.map V.int) ∧ ns.length ≤ 100000 ∧ ∀ H', Q (.bl true) H'
theorem sc_law : FnScope (["_law_script", "_law_world_here", "_law_low", "_law_high", "_law_table_here", "_law_game"] : List Str) ["_law_script"] (defScope s_law) := ⟨rfl, rfl, rfl, by decide +kernel, rfl, by decide +kernel, by decide +kernel⟩
theorem law_body (T : Tx K mg) (D_Game_rounds : MOk P w K mg base 1 "Game" "rounds" ["self"] (spGRounds w K)) (D_Game_spoiler : MOk P w K mg base 9 "Game" "spoiler" ["self"] (spGSpoiler w K)) (D_Game_word : MOk P w K mg base 1 "Game" "word" ["self"] (spWord w K))
    (D__law_world : DOk P w K mg base 5 "_law_world" ["_law_script"] (spWorld K)) (D__law_table : DOk P w K mg base 3 "_law_table" ["_law_rows", "_law_deeds"] (spTable w)) (D__law_copy : DOk P w K mg base 1 "_law_copy" ["_law_rows"] spCopy)
    (D__law_turned : DOk P w K mg base 1 "_law_turned" ["_law_rows"] (fun vs H Q _ => ∃ r R, vs = [r] ∧ RowsAt H r R ∧ R.length ≤ 4000 ∧ ∀ q ms H', H q = none → Same H H' → H' q = some (.lst ms) → Paired (MovesAt H') ms (R.map List.reverse) → Q (.ref q) H'))
    (D_Web_init : KOk P w K mg base 5 "Web" ["self", "rows"] (spWebInit K)) (D_Game_init : KOk P w K mg base 8 "Game" ["self", "low", "high"] (spGInit w K))
    (D__law_played : DOk P w K mg base 11 "_law_played" ["_law_game", "_law_script", "_law_low", "_law_high", "_law_table_here"] (spPlayed w K)) :
    Body P w K mg base (["_law_script", "_law_world_here", "_law_low", "_law_high", "_law_table_here", "_law_game"] : List Str) 11 (spLaw K) "law" s_law (He.ga K "law") := by
  intro cdv A outer s H vs Q E hr h
  obtain ⟨a, ns, rfl, ha, hn, k⟩ := h
  have hu9 := hu9_of hr
  refine ⟨_, (pss_cons (ps_set (i := 1) sc_law.nd rfl (Or.inl rfl) (pe_d D__law_world (hr.mono (by decide)) (by rfl) (pa_cons (pv 0) pa_nil)))
    (pss_cons (ps_set (i := 2) sc_law.nd rfl (Or.inl rfl) (pe_ix ix_list (pv 1) pe_int (fun _ _ => rfl)))
    (pss_cons (ps_set (i := 3) sc_law.nd rfl (Or.inl rfl) (pe_ix ix_list (pv 1) pe_int (fun _ _ => rfl)))
    (pss_cons (ps_set (i := 4) sc_law.nd rfl (Or.inl rfl) (pe_d D__law_table (hr.mono (by decide)) (by rfl) (pa_cons (pv 3) (pa_cons (pe_ix ix_list (pv 1) pe_int (fun _ _ => rfl)) pa_nil))))
    (pss_cons (ps_set (i := 5) sc_law.nd rfl (Or.inl rfl) (pe_k D_Game_init (hr.mono (by decide)) (by rfl) (pa_cons (pe_k D_Web_init (hr.mono (by decide)) (by rfl) (pa_cons (pe_d D__law_copy (hr.mono (by decide)) (by rfl) (pa_cons (pv 2) pa_nil)) pa_nil)) (pa_cons (pe_k D_Web_init (hr.mono (by decide)) (by rfl) (pa_cons (pe_d D__law_turned (hr.mono (by decide)) (by rfl) (pa_cons (pv 3) pa_nil)) pa_nil)) pa_nil))))
    (pss_cons (ps_if (pt_cmpR op_eq (pe_m0 D_Game_word (hr.mono (by decide)) (pv 5)) pe_str (nomark _)) (pss_one (ps_ret (pe_and (pe_cmpR op_isN (pe_m0 D_Game_spoiler (hr.mono (by decide)) (pv 5)) pe_non (nomark _)) (pe_one (pe_cmpR op_eq (pe_nget2 hu9 (pe_m0 D_Game_rounds (hr.mono (by decide)) (pv 5)) (pe_tup (pa_cons pe_int (pa_cons pe_int pa_nil))) pe_int ⟨rfl, rfl, rfl, rfl⟩) pe_int (nomark _)))))) pss_nil)
    (pss_one (ps_ret (pe_d D__law_played (hr.mono (by decide)) (by rfl) (pa_cons (pv 5) (pa_cons (pv 0) (pa_cons (pv 2) (pa_cons (pv 3) (pa_cons (pv 4) pa_nil)))))))))))))), ?_⟩
  refine ⟨_, rfl, a, ns, rfl, ha, hn, fun q lv hv mv lo hi ds H1 hq s1 hq1 hlo hhi hm wd => ?_⟩
  obtain ⟨l40, h40⟩ := wd.l40
  refine ⟨_, rfl, q, _, 0, _, rfl, rfl, SqL.of hq1, rfl, ?_⟩
  refine ⟨_, rfl, q, _, 1, _, rfl, rfl, SqL.of hq1, rfl, ?_⟩
  refine ⟨_, rfl, _, rfl, q, _, 2, _, rfl, rfl, SqL.of hq1, rfl, ?_⟩
  refine ⟨hv, hi, mv, ds, rfl, hhi, wd.gh.wf, by omega, wd.gh.ok wd.menu, hm, wd.menu.ok, wd.menu.le, fun tb H2 htb s2 tab => ?_⟩
  have s12 := s1.trans s2
  have hlo2 := hlo.mono s2
  have hhi2 := hhi.mono s2
  refine ⟨_, rfl, lv, lo, rfl, hlo2, by omega, fun c1 ms1 H3 hc1 s3 hc1' hP1 => ?_⟩
  have hl3 : RowsAt H3 (.ref c1) lo := ⟨c1, ms1, rfl, hc1', hP1⟩
  refine fun x xd hx hxd hxx => ?_
  have s4 := Same.new1 (o := .own x) hxd
  have hx4 : (upd H3 xd (.own x)) x = none := by rw [upd_ne (Ne.symm hxx)]; exact hx
  have s5 := Same.new1 (o := .ins (He.ga K "Web") xd []) hx4
  refine ⟨x, xd, .ref c1, lo, ds, rfl, upd_same, hl3.mono (s4.trans s5), wd.gl, l40, wd.menu, fun LO H6 b6 web6 pr6 => ⟨rfl, ?_⟩⟩
  have s36 : Same H3 H6 := But.same b6 (s4.trans s5) hx
  have s26 := s3.trans s36
  refine ⟨_, rfl, hv, hi, rfl, hhi2.mono s26, by omega, fun c2 ms2 H7 hc2 s7 hc2' hP2 => ?_⟩
  have hl7 : RowsAt H7 (.ref c2) (hi.map List.reverse) := ⟨c2, ms2, rfl, hc2', hP2⟩
  refine fun y yd hy hyd hyy => ?_
  have s8 := Same.new1 (o := .own y) hyd
  have hy8 : (upd H7 yd (.own y)) y = none := by rw [upd_ne (Ne.symm hyy)]; exact hy
  have s9 := Same.new1 (o := .ins (He.ga K "Web") yd []) hy8
  have gt := perm_good wd.gh (perm_rev hi)
  refine ⟨y, yd, .ref c2, hi.map List.reverse, ds, rfl, upd_same, hl7.mono (s8.trans s9), gt, by rw [List.length_map]; exact h40, wd.menu, fun HI HA bA webA prA => ⟨rfl, ?_⟩⟩
  have s7A : Same H7 HA := But.same bA (s8.trans s9) hy
  have s6A := s7.trans s7A
  have s2A := s26.trans s6A
  have al : Alike lo LO := pr6.alike
  have ah : Alike hi HI := (PermRows.trans (perm_rev hi) prA).alike
  have gL := perm_good wd.gl pr6
  have gH := perm_good gt prA
  obtain ⟨S, cls⟩ := wd.cls wd.gl.wf wd.gh.wf al ah
  obtain ⟨W, clw⟩ := wd.clw wd.gl.wf wd.gh.wf gH.wf al ah
  have hLO : LO.length ≤ 40 := by rw [← al.len]; exact l40
  have hHI : HI.length ≤ 40 := by rw [← ah.len]; exact h40
  refine fun g gd hg hgd hgg => ?_
  have sB := Same.new1 (o := .own g) hgd
  have hgB : (upd HA gd (.own g)) g = none := by rw [upd_ne (Ne.symm hgg)]; exact hg
  have sC := Same.new1 (o := .ins (He.ga K "Game") gd []) hgB
  refine ⟨g, gd, .ref x, .ref y, LO, HI, ds, S, W, rfl, upd_same, web6.mono (s6A.trans (sB.trans sC)), webA.mono (sB.trans sC), gL, gH, hLO, hHI, wd.menu, cls, clw, fun rd qs ρ HD bD gat gk hz => ⟨rfl, ?_⟩⟩
  have sAD : Same HA HD := But.same bD (sB.trans sC) hg
  have s2D := s2A.trans sAD
  obtain ⟨gdx, gfs, hga, hgf⟩ := id gat.ex
  refine ⟨_, rfl, g, gdx, gfs, rfl, hga, hgf.m1, g, .ref x, .ref y, rd, LO, HI, ds, qs, ρ, rfl, gat, hz, fun z HE sE hw => ?_⟩
  have gatE := gat.mono sE
  refine ⟨rfl, _, rfl, ite2 (fun e => ?_) (fun e => ?_)⟩
  · have e0 : ρ (0, 0) = 0 := hw.mp (V.str.inj (of_decide_eq_true e))
    refine ⟨_, rfl, g, gdx, gfs, rfl, sE _ _ hga, hgf.m3, g, .ref x, .ref y, rd, LO, HI, ds, qs, ρ, rfl, gatE, gk, hz, fun _ HF sF => ?_, fun h => absurd h (by omega)⟩
    refine ⟨rfl, _, rfl, iteT ?_⟩
    refine ⟨_, rfl, g, gdx, gfs, rfl, sF _ _ (sE _ _ hga), hgf.m2, g, .ref x, .ref y, rd, LO, HI, ds, qs, ρ, rfl, gatE.mono sF, gk, fun p HG hp sG dm => ?_⟩
    refine ⟨p, rfl, ⟨_, dm⟩, szk 2 rfl, fun t ht => ?_⟩
    obtain ⟨ox, hox⟩ := DM.at dm
    have sH : Same HG (upd HG t (.tup [.int 0, .int 0])) := Same.new1 ht
    refine ⟨_, _, dm.mono (by rw [sH _ _ hox, hox]) (Tups.same sH), PairAt.isP (p := (0, 0)) ⟨t, rfl, upd_same⟩, ?_⟩
    rw [mapD_get, if_pos hz]
    refine ⟨rfl, ?_⟩
    rw [e0]
    exact k _
  · have hpos : 0 < ρ (0, 0) := by
      have h1 : ¬ ρ (0, 0) = 0 := fun h => e (by rw [hw.mpr h]; exact decide_eq_true rfl)
      have h2 := (gk.R.rng _ hz).1
      omega
    have s2E := s2D.trans sE
    refine ⟨_, rfl, _, rfl, _, rfl, _, rfl, _, rfl, ?_⟩
    exact ⟨g, a, ns, lv, hv, tb, .ref x, .ref y, rd, lo, hi, LO, HI, ds, qs, ρ, rfl, sqSame (sqSame ha s12) s2E, hn, gatE, gk, hz, hpos, hlo2.mono s2E, hhi2.mono s2E, tab.mono s2E, ⟨wd.gl, wd.gh, al, ah⟩, k⟩
end
end Ct
set_option maxHeartbeats 0
/-! What the top leaves. Printed by gen_hd.py. -/
namespace Ct
open PySem PySem.Spec PyProof.Rows L2
/-- the object, the function behind a property of C -/
def prP (K : PySem.W.Frag) (C f : Str) : Addr := match PySem.W.findIn K (.ref (He.ga K C)) f with
  | some (some (.ref p)) => p
  | _ => 0
def prG (K : PySem.W.Frag) (C f : Str) : Addr := match PySem.W.recIn K (prP K C f) "property" with
  | some (.ref g :: _) => g
  | _ => 0
def optB (a b : Option Bool) : Bool := decide (a = b)
theorem optB_ok {a b : Option Bool} (h : optB a b = true) : a = b := of_decide_eq_true h
def optV (a b : Option Value) : Bool := decide (a = b)
theorem optV_ok {a b : Option Value} (h : optV a b = true) : a = b := of_decide_eq_true h
def prB (K : PySem.W.Frag) (C f : Str) : Bool := He.eqO (PySem.W.findIn K (.ref (He.ga K C)) f) (some (some (.ref (prP K C f)))) && (He.eqO (PySem.W.specialIn K (.ref (prP K C f)) "__get__") (some (some (.builtin "property.__get__"))) &&
  (optB (PySem.W.takesIn K (.ref (prP K C f))) (some true) && (match PySem.W.recIn K (prP K C f) "property" with
  | some (.ref g :: _) => decide (g = prG K C f)
  | _ => false)))
theorem prB_ok {K : PySem.W.Frag} {C f : Str} (h : prB K C f = true) : PropOf K (He.ga K C) f (prP K C f) (prG K C f) := by
  obtain ⟨c1, h⟩ := He.ba h
  obtain ⟨c2, h⟩ := He.ba h
  obtain ⟨c3, c4⟩ := He.ba h
  refine ⟨He.eqO_ok c1, He.eqO_ok c2, optB_ok c3, ?_⟩
  cases e : PySem.W.recIn K (prP K C f) "property" with
  | none => rw [e] at c4; cases c4
  | some l =>
    rw [e] at c4
    cases l with
    | nil => cases c4
    | cons v r =>
      cases v with
      | ref g =>
        have e2 : g = prG K C f := of_decide_eq_true c4
        exact ⟨r, by rw [e2]⟩
      | _ => cases c4
/-- a def of the text: where it stands, its names, its statement, what it closes over, whether it is to be kept -/
structure FD where
  at_ : PySem.W.Frag → Addr
  name : Str
  qual : Str
  st : Stmt
  cl : List Str
  kp : Bool
abbrev FV : Type := Option (Str × Str × Arguments × FuncBody × Scope × Addr × List Str × Addr)
def fnC (K : PySem.W.Frag) (a : Addr) : FV := match K.lookup a with
  | some ⟨_, _, .func fd, _⟩ => some (fd.name, fd.qualname, fd.params, fd.body, fd.scope, fd.globals, fd.closure.map Prod.fst, fd.builtins)
  | _ => none
def FD.val (d : FD) : FV := some (d.name, d.qual, defArgs d.st, .stmts (defBody d.st), defScope d.st, mainGlobals, d.cl, builtinsNs)
def nonB : Value → Bool
  | .none => true
  | _ => false
theorem nonB_ok {v : Value} (h : nonB v = true) : v = .none := by
  cases v <;> first | rfl | cases h
def FD.ok (K : PySem.W.Frag) (d : FD) : Bool := (!d.kp || PySem.W.keepIn K (.ref (d.at_ K))) && (match K.lookup (d.at_ K) with
  | some ⟨_, _, .func fd, _⟩ => PySem.W.codeIn K fd.code d.qual && nonB fd.defaults
  | _ => false)
theorem FD.fn {K : PySem.W.Frag} {d : FD} (e : fnC K (d.at_ K) = d.val) (c : d.ok K = true) :
    ∃ oc od cl kV doc pm an cdv ct osl, K.lookup (d.at_ K) = some ⟨oc, od, .func (PySem.W.fnX d.name d.qual (defArgs d.st) (defBody d.st) (defScope d.st) cl .none kV doc pm an cdv ct), osl⟩ ∧ cl.map Prod.fst = d.cl ∧ PySem.W.codeIn K cdv d.qual = true ∧
      (d.kp = true → PySem.W.keepIn K (.ref (d.at_ K)) = true) := by
  obtain ⟨kp, c2⟩ := He.ba c
  have kp' : d.kp = true → PySem.W.keepIn K (.ref (d.at_ K)) = true := fun h => by
    rw [h] at kp
    exact kp
  unfold fnC at e
  cases lq : K.lookup (d.at_ K) with
  | none =>
    rw [lq] at c2
    cases c2
  | some o =>
    obtain ⟨oc, od, dt, osl⟩ := o
    rw [lq] at c2 e
    cases dt with
    | func fd =>
      obtain ⟨r1, r2, r3, r4, r5, r6, r7, r8, r9, r10, r11, r12, r13, r14, r15⟩ := fd
      have e2 : (some (r1, r2, r3, r4, r5, r6, r7.map Prod.fst, r15) : FV) = some (d.name, d.qual, defArgs d.st, .stmts (defBody d.st), defScope d.st, mainGlobals, d.cl, builtinsNs) := e
      simp only [Option.some.injEq, Prod.mk.injEq] at e2
      obtain ⟨j1, j2, j3, j4, j5, j6, j7, j8⟩ := e2
      subst j1 j2 j3 j4 j5 j6 j8
      obtain ⟨k1, k2⟩ := He.ba (show (PySem.W.codeIn K r13 d.qual && nonB r8) = true from c2)
      cases r8 with
      | none => exact ⟨oc, od, r7, r9, r10, r11, r12, r13, r14, osl, rfl, j7, k1, kp'⟩
      | _ => cases k2
    | _ => cases c2
theorem FD.fun_ {K : PySem.W.Frag} {d : FD} (e : fnC K (d.at_ K) = d.val) (c : d.ok K = true) (hcl : d.cl = []) (hk : d.kp = true) : ∃ fd, Fun K d.name d.qual d.st (d.at_ K) fd := by
  obtain ⟨oc, od, cl, kV, doc, pm, an, cdv, ct, osl, h1, h2, h3, h4⟩ := FD.fn e c
  rw [hcl] at h2
  cases cl with
  | nil => exact ⟨_, ⟨oc, od, kV, doc, pm, an, cdv, ct, osl, rfl, h1, h3⟩, h4 hk⟩
  | cons x r => cases h2

def fa0 : List He.Fa := [.free "ValueError", .free "abs", .free "bool", .free "enumerate", .free "int", .free "isinstance", .free "len", .free "list", .free "min", .free "range", .free "sorted", .free "str", .free "super", .free "tuple", .glo "is_name", .glo "is_whole", .glo "is_number", .glo "replies_of", .glo "led_from", .glo "rounds_of", .glo "sets_of", .glo "union_of", .glo "is_deed", .glo "is_move", .glo "_law_cell", .glo "_law_draws", .glo "_law_menu", .glo "_law_free", .glo "_law_quiet", .glo "_law_replies"]
def fa1 : List He.Fa := [.glo "_law_same", .glo "_law_copy", .glo "_law_turned", .glo "_law_table", .glo "_law_union", .glo "_law_options", .glo "_law_picked", .glo "_law_cover", .glo "_law_lookers", .glo "_law_doubled", .glo "_law_added", .glo "_law_ladder", .glo "_law_branch", .glo "_law_world", .glo "_law_end", .glo "_law_refused", .glo "_law_kept", .glo "_law_turn", .glo "_law_played", .glo "law", .glo "Game", .glo "Spoiler", .glo "Web", .glo "CoreError", .glo "BadRun", .glo "BadReply", .int "MOST_games" 20000, .int "MOST_webs" 4000, .str "LETTERS" "abcdefghijklmnopqrstuvwxyz", .cls "Game"]
def fa2 : List He.Fa := [.cls "Spoiler", .cls "Web", .noat "Game" "low", .noat "Game" "high", .noat "Game" "own_rounds", .noat "Game" "own_ways", .noat "Game" "own_gap", .noat "Spoiler" "own_low", .noat "Spoiler" "own_high", .noat "Spoiler" "own_rounds", .noat "Spoiler" "own_stand", .noat "Spoiler" "own_stretch", .noat "Spoiler" "own_there", .noat "Spoiler" "own_replies", .noat "Web" "own_rows", .mkr "Game", .mkr "Spoiler", .mkr "Web", .meth "Game" "word", .meth "Game" "rounds", .meth "Game" "spoiler", .meth "Spoiler" "own_begin", .meth "Spoiler" "own_falling", .meth "Web" "moves", .meth "Web" "replies", .meth "Web" "own_check", .meth "Web" "own_quiet"]
def fa : List He.Fa := fa0 ++ fa1 ++ fa2
def fds0 : List FD := [⟨fun K => He.ga K "is_name", "is_name", "is_name", s_is_name, [], true⟩, ⟨fun K => He.ga K "is_whole", "is_whole", "is_whole", s_is_whole, [], true⟩, ⟨fun K => He.ga K "is_number", "is_number", "is_number", s_is_number, [], true⟩, ⟨fun K => He.ga K "replies_of", "replies_of", "replies_of", s_replies_of, [], true⟩, ⟨fun K => He.ga K "led_from", "led_from", "led_from", s_led_from, [], true⟩, ⟨fun K => He.ga K "rounds_of", "rounds_of", "rounds_of", s_rounds_of, [], true⟩, ⟨fun K => He.ga K "sets_of", "sets_of", "sets_of", s_sets_of, [], true⟩, ⟨fun K => He.ga K "union_of", "union_of", "union_of", s_union_of, [], true⟩, ⟨fun K => He.ga K "is_deed", "is_deed", "is_deed", s_is_deed, [], true⟩, ⟨fun K => He.ga K "is_move", "is_move", "is_move", s_is_move, [], true⟩, ⟨fun K => He.ga K "_law_cell", "_law_cell", "_law_cell", s_cell_L, [], true⟩, ⟨fun K => He.ga K "_law_draws", "_law_draws", "_law_draws", s_draws_L, [], true⟩, ⟨fun K => He.ga K "_law_menu", "_law_menu", "_law_menu", s_menu_L, [], true⟩, ⟨fun K => He.ga K "_law_free", "_law_free", "_law_free", s_free_L, [], true⟩, ⟨fun K => He.ga K "_law_quiet", "_law_quiet", "_law_quiet", s_quiet_L, [], true⟩, ⟨fun K => He.ga K "_law_replies", "_law_replies", "_law_replies", s_replies_L, [], true⟩, ⟨fun K => He.ga K "_law_same", "_law_same", "_law_same", s_same_L, [], true⟩, ⟨fun K => He.ga K "_law_copy", "_law_copy", "_law_copy", s_copy_L, [], true⟩, ⟨fun K => He.ga K "_law_turned", "_law_turned", "_law_turned", s_turned_L, [], true⟩, ⟨fun K => He.ga K "_law_table", "_law_table", "_law_table", s_table_L, [], true⟩]
def fds1 : List FD := [⟨fun K => He.ga K "_law_union", "_law_union", "_law_union", s_union_L, [], true⟩, ⟨fun K => He.ga K "_law_options", "_law_options", "_law_options", s_options_L, [], true⟩, ⟨fun K => He.ga K "_law_picked", "_law_picked", "_law_picked", s_picked_L, [], true⟩, ⟨fun K => He.ga K "_law_cover", "_law_cover", "_law_cover", s_cover_L, [], true⟩, ⟨fun K => He.ga K "_law_lookers", "_law_lookers", "_law_lookers", s_lookers_L, [], true⟩, ⟨fun K => He.ga K "_law_doubled", "_law_doubled", "_law_doubled", s_doubled_L, [], true⟩, ⟨fun K => He.ga K "_law_added", "_law_added", "_law_added", s_added_L, [], true⟩, ⟨fun K => He.ga K "_law_ladder", "_law_ladder", "_law_ladder", s_ladder_L, [], true⟩, ⟨fun K => He.ga K "_law_branch", "_law_branch", "_law_branch", s_branch_L, [], true⟩, ⟨fun K => He.ga K "_law_world", "_law_world", "_law_world", s_world_L, [], true⟩, ⟨fun K => He.ga K "_law_end", "_law_end", "_law_end", s_end_L, [], true⟩, ⟨fun K => He.ga K "_law_refused", "_law_refused", "_law_refused", s_refused_L, [], true⟩, ⟨fun K => He.ga K "_law_kept", "_law_kept", "_law_kept", s_kept_L, [], true⟩, ⟨fun K => He.ga K "_law_turn", "_law_turn", "_law_turn", s_turn_L, [], true⟩, ⟨fun K => He.ga K "_law_played", "_law_played", "_law_played", s_played_L, [], true⟩, ⟨fun K => He.ga K "law", "law", "law", s_law, [], true⟩, ⟨fun K => He.ma K (He.ga K "Game") "__init__", "__init__", "Game.__init__", s_Game_init, [], true⟩, ⟨fun K => He.ma K (He.ga K "Game") "word", "word", "Game.word", s_Game_word, [], true⟩, ⟨fun K => He.ma K (He.ga K "Game") "rounds", "rounds", "Game.rounds", s_Game_rounds, [], true⟩, ⟨fun K => He.ma K (He.ga K "Game") "spoiler", "spoiler", "Game.spoiler", s_Game_spoiler, [], true⟩]
def fds2 : List FD := [⟨fun K => He.ma K (He.ga K "Spoiler") "__init__", "__init__", "Spoiler.__init__", s_Spoiler_init, [], true⟩, ⟨fun K => prG K "Spoiler" "stand", "stand", "Spoiler.stand", s_Spoiler_stand, [], true⟩, ⟨fun K => prG K "Spoiler" "stretch", "stretch", "Spoiler.stretch", s_Spoiler_stretch, [], true⟩, ⟨fun K => prG K "Spoiler" "won", "won", "Spoiler.won", s_Spoiler_won, [], true⟩, ⟨fun K => He.ma K (He.ga K "Spoiler") "__call__", "__call__", "Spoiler.__call__", s_Spoiler_call, [], true⟩, ⟨fun K => He.ma K (He.ga K "Spoiler") "own_begin", "own_begin", "Spoiler.own_begin", s_Spoiler_own_begin, [], true⟩, ⟨fun K => He.ma K (He.ga K "Spoiler") "own_falling", "own_falling", "Spoiler.own_falling", s_Spoiler_own_falling, [], true⟩, ⟨fun K => He.ma K (He.ga K "Web") "__init__", "__init__", "Web.__init__", s_Web_init, [], true⟩, ⟨fun K => He.ma K (He.ga K "Web") "__len__", "__len__", "Web.__len__", s_Web_len, [], true⟩, ⟨fun K => He.ma K (He.ga K "Web") "moves", "moves", "Web.moves", s_Web_moves, [], true⟩, ⟨fun K => He.ma K (He.ga K "Web") "replies", "replies", "Web.replies", s_Web_replies, [], true⟩, ⟨fun K => He.ma K (He.ga K "Web") "own_check", "own_check", "Web.own_check", s_Web_own_check, [], true⟩, ⟨fun K => He.ma K (He.ga K "Web") "own_quiet", "own_quiet", "Web.own_quiet", s_Web_own_quiet, [], true⟩, ⟨fun K => He.ma K (He.ga K "BadReply") "__init__", "__init__", "BadReply.__init__", s_BadReply_init, ["__class__"], false⟩]
def fds : List FD := fds0 ++ fds1 ++ fds2
def loose0 : List PySem.Str := ["_wall", "CoreError", "TooLarge", "BadWeb", "NoStanding", "BadRun", "BadReply", "LETTERS", "is_name", "is_whole", "is_number", "MOST_games", "replies_of", "led_from", "rounds_of", "sets_of", "union_of", "Game", "Spoiler", "MOST_webs", "is_deed", "is_move", "Web", "_law_cell", "_law_draws", "_law_menu", "_law_free", "_law_quiet", "_law_replies", "_law_same"]
def loose1 : List PySem.Str := ["_law_copy", "_law_turned", "_law_table", "_law_union", "_law_options", "_law_picked", "_law_cover", "_law_lookers", "_law_doubled", "_law_added", "_law_ladder", "_law_branch", "_law_world", "_law_lead", "_law_end", "_law_refused", "_law_kept", "_law_turn", "_law_played"]
def loose : List PySem.Str := loose0 ++ loose1
abbrev R : PySem.W.OpenRow := PySem.W.OpenLaw.row PySem.Challenge.rw_coretower_k11_whole_spoiler_beats_all
/-- the class of the bad reply -/
def brCls (K : PySem.W.Frag) (C : Addr) : Bool := match K.lookup C with
  | some ⟨.type n, _, .cls cd, sl⟩ => decide (n = "type") && (match cd.mro, sl.toList with
    | .ref C' :: bm, [_, _, _, _, some (.builtin i), _] => decide (C' = C) && (decide (i = "ValueError.__new__") && (!cd.hasDel && (cd.hasDict && (PySem.HandSPX.refsVE bm && He.eqO (PySem.W.alongIn K "__init__" bm) (some (some (.builtin "ValueError.__init__")))))))
    | _, _ => false)
  | _ => false
theorem brCls_ok {K : PySem.W.Frag} {C : Addr} (h : brCls K C = true) : ∃ nm q N bs bm sn sub ab col dd k0 k1 k2 k3 k5, K.lookup C = some (excClassObj nm q C N bs bm true sn sub ab col dd k0 k1 k2 k3 k5 "ValueError.__new__") ∧ PySem.HandSPX.refsVE bm = true ∧
    PySem.W.alongIn K "__init__" bm = some (some (.builtin "ValueError.__init__")) := by
  unfold brCls at h
  split at h
  · rename_i n dd cd sl ho
    obtain ⟨h0, h⟩ := He.ba h
    split at h
    · rename_i C' bm k0 k1 k2 k3 i k5 hm hs
      obtain ⟨h1, h⟩ := He.ba h
      obtain ⟨h2, h⟩ := He.ba h
      obtain ⟨h3, h⟩ := He.ba h
      obtain ⟨h4, h⟩ := He.ba h
      obtain ⟨h5, h6⟩ := He.ba h
      have h0 : n = "type" := of_decide_eq_true h0
      have h1 : C' = C := of_decide_eq_true h1
      have h2 : i = "ValueError.__new__" := of_decide_eq_true h2
      subst h0 h1 h2
      rw [Bool.not_eq_true'] at h3
      obtain ⟨nm, bs, mro, nsa, qn, hdc, sn, sub, ab, col, del⟩ := cd
      dsimp only at hm h3 h4
      subst hm h3 h4
      have hsl : sl = #[k0, k1, k2, k3, some (.builtin "ValueError.__new__"), k5] := by
        obtain ⟨l⟩ := sl
        simp only at hs
        rw [hs]
      subst hsl
      exact ⟨nm, qn, nsa, bs, bm, sn, sub, ab, col, dd, k0, k1, k2, k3, k5, ho, h5, He.eqO_ok h6⟩
    · cases h
  · cases h
/-- the maker of the bad reply: its code's file, the cell of its class -/
def brFn (K : PySem.W.Frag) (C fI : Addr) (file : Str) : Bool := match K.lookup fI with
  | some ⟨_, _, .func fd, _⟩ => nonB fd.kwdefaults && ((match fd.code with
    | .ref cda => (match K.lookup cda with
      | some ⟨_, _, .fields vs, _⟩ => (match (vs[2]? : Option Value) with
        | some (Value.str f _) => file == f
        | _ => false)
      | _ => false)
    | _ => false) && (match fd.closure with
    | [(_, cc)] => (match K.lookup cc with
      | some ⟨_, _, .cell (some (.ref D)), _⟩ => decide (D = C)
      | _ => false)
    | _ => false))
  | _ => false
theorem brFn_ok {K : PySem.W.Frag} {C fI : Addr} {file : Str} (h : brFn K C fI file = true) {oc : Value} {od : Option Addr} {fd : FuncData} {osl : Array (Option Value)} (hl : K.lookup fI = some ⟨oc, od, .func fd, osl⟩) :
    ∃ cda ccl cdd vs ccs f tf x cc cl cld csl, fd.kwdefaults = .none ∧ fd.code = .ref cda ∧ K.lookup cda = some ⟨ccl, cdd, .fields vs, ccs⟩ ∧ vs[2]? = some (.str f tf) ∧ (file == f) = true ∧ fd.closure = [(x, cc)] ∧ K.lookup cc = some ⟨cl, cld, .cell (some (.ref C)), csl⟩ := by
  unfold brFn at h
  rw [hl] at h
  obtain ⟨h0, h⟩ := He.ba h
  obtain ⟨h1, h2⟩ := He.ba h
  have h0 : fd.kwdefaults = .none := nonB_ok h0
  split at h1
  · rename_i cda hc
    split at h1
    · rename_i ccl cdd vs ccs hcda
      split at h1
      · rename_i f tf hv
        split at h2
        · rename_i x cc hcl
          split at h2
          · rename_i cl cld D csl hcc
            have e : D = C := of_decide_eq_true h2
            subst e
            exact ⟨cda, ccl, cdd, vs, ccs, f, tf, x, cc, cl, cld, csl, h0, hc, hcda, hv, h1, hcl, hcc⟩
          · cases h2
        · cases h2
      · cases h1
    · cases h1
  · cases h1
def C0 (K : PySem.W.Frag) : Addr := He.ga K "BadReply"
def I0 (K : PySem.W.Frag) : Addr := He.ma K (C0 K) "__init__"
/-- what else is to stand -/
def exs (K : PySem.W.Frag) : List Bool := [decide (He.ga K "Web" ≠ He.ga K "Spoiler"),
  decide (He.ga K "Web" ≠ He.ga K "Game"),
  prB K "Spoiler" "stand",
  prB K "Spoiler" "stretch",
  prB K "Spoiler" "won",
  He.eqO (PySem.W.findIn K (.ref (He.ga K "Web")) "__len__") (some (some (.ref (He.ma K (He.ga K "Web") "__len__")))),
  PySem.W.isFn K (.ref (He.ma K (He.ga K "Web") "__len__")),
  He.eqO (PySem.W.findIn K (.ref (He.ga K "Spoiler")) "__call__") (some (some (.ref (He.ma K (He.ga K "Spoiler") "__call__")))),
  PySem.W.isFn K (.ref (He.ma K (He.ga K "Spoiler") "__call__")),
  PySem.W.fnIn K (He.ma K (He.ga K "Spoiler") "__call__"),
  brCls K (C0 K),
  He.eqO (PySem.W.findIn K (.ref (C0 K)) "__setattr__") (some (some (.builtin "object.__setattr__"))),
  He.eqO (PySem.W.findIn K (.ref (C0 K)) "__getattribute__") (some (some (.builtin "BaseException.__getattribute__"))),
  He.eqO (PySem.W.findIn K (.ref (C0 K)) "__getattr__") (some none),
  He.eqO (PySem.W.findIn K (.ref (C0 K)) "at") (some none),
  He.eqO (PySem.W.findIn K (.ref (C0 K)) "__init__") (some (some (.ref (I0 K)))),
  optV (PySem.W.typeIn K (.ref (I0 K))) (some (.type "function")),
  PySem.W.keepIn K (.ref (C0 K)),
  optB (PySem.W.subIn K (.ref (C0 K)) (.type "BaseException")) (some true),
  optV (PySem.W.typeIn K (.ref (C0 K))) (some (.type "type")),
  PySem.W.hasDictIn K (C0 K),
  optB (PySem.W.exmOne K (.ref (C0 K)) (.ref (C0 K))) (some true),
  optB (PySem.W.subIn K (.ref (C0 K)) (.type "ValueError")) (some true),
  optB (PySem.W.mroIn K (C0 K) (.ref (C0 K))) (some true),
  He.eqO (PySem.W.nsIn K cStatics "thirdparty.any") (some none),
  brFn K (C0 K) (I0 K) R.prog.main.file,
  optB (PySem.W.kitOne K (.ref (C0 K)) (.ref (He.ga K "CoreError"))) (some true),
  optB (PySem.W.kitOne K (.ref (C0 K)) (.type "ValueError")) (some true),
  optB (PySem.W.kitOne K (.ref (C0 K)) (.ref (He.ga K "BadRun"))) (some false),
  He.eqO (PySem.W.findIn K (.ref (C0 K)) "__class__") (some (some (.builtin "object.__class__"))),
  He.eqO (PySem.W.specialIn K (.builtin "object.__class__") "__get__") (some (some (.builtin "getset_descriptor.__get__"))),
  optB (PySem.W.takesIn K (.builtin "object.__class__")) (some true),
  optB (PySem.W.mroIn K (C0 K) (.type "object")) (some true)]
/-! ### the hook -/
def refV1 : Value → List Addr
  | .ref a => [a]
  | _ => []
/-- where one looks on from an object -/
def refs1 (o : Obj) : List Addr := match o.data with
  | .dict es _ => es.toList.flatMap fun e => refV1 e.val
  | .func fd => refV1 fd.code ++ fd.closure.map Prod.snd
  | .cls cd => [cd.ns]
  | .fields vs => (match o.cls with
    | .type n => (match decide (n = "property") with
      | true => vs.toList.flatMap refV1
      | false => [])
    | _ => [])
  | _ => []
def next1 (g : Addr → Option Obj) (as : List Addr) : List Addr := as.flatMap fun a => match g a with
  | some o => refs1 o
  | none => []
def reach1 (g : Addr → Option Obj) : Nat → List Addr → List Addr
  | 0, as => as
  | n + 1, as => as ++ reach1 g n (next1 g as)
abbrev Al1 : Type := Bool × List FV
def obs1 (K : PySem.W.Frag) : Al1 := ((fa.all fun f => f.ok K) && ((fds.all fun d => d.ok K) && (exs K).all id), fds.map fun d => fnC K (d.at_ K))
def val1 : Al1 := (true, fds.map FD.val)
def Says (K : PySem.W.Frag) : Prop := obs1 K = val1
def obsG1 (g : Addr → Option Obj) : Al1 := obs1 (He.frG g (reach1 g 5 [mainGlobals, cStatics]))
def hk : PySem.W.Hook where
  α := Al1
  obs := fun s => obsG1 s.heap.get?
  val := fun _ => val1
  says := fun _ h => ∃ K : PySem.W.Frag, K.In h ∧ Says K
  of := fun _ _ e => ⟨_, He.frG_in, e⟩
  keeps := fun _ _ _ ⟨L, hL, c⟩ k => ⟨L, PySem.W.Frag.In.keeps hL k, c⟩
theorem obsG1_eq {g : Addr → Option Obj} {s : Shared} (h : ∀ a, g a = s.heap.get? a) : obsG1 g = hk.obs s := by
  have eg : g = s.heap.get? := funext h
  rw [eg] <;> rfl
def ob (s : PySem.W.SharedT) : Al1 := obsG1 (HandSHeadRun.getT s)
theorem ob_eq (s : PySem.W.SharedT) : ob s = hk.obs s.abs := obsG1_eq (HandSHeadRun.getT_eq s)
section
variable {K : PySem.W.Frag} {h : Heap} {mg : Str → Option Value}
theorem Says.fact (c : Says K) (i : Nat) {f : He.Fa} (h : fa[i]? = some f := by rfl) : f.ok K = true := by
  have c1 := (He.ba (show ((fa.all fun f => f.ok K) && ((fds.all fun d => d.ok K) && (exs K).all id)) = true from congrArg (fun z : Al1 => z.1) c)).1
  exact List.all_eq_true.mp c1 f (List.mem_of_getElem? h)
theorem Says.ex (c : Says K) (i : Nat) {b : Bool} (h : (exs K)[i]? = some b := by rfl) : b = true := by
  have c1 := (He.ba (He.ba (show ((fa.all fun f => f.ok K) && ((fds.all fun d => d.ok K) && (exs K).all id)) = true from congrArg (fun z : Al1 => z.1) c)).2).2
  exact List.all_eq_true.mp c1 b (List.mem_of_getElem? h)
theorem Says.at_ (c : Says K) (i : Nat) {d : FD} (h : fds[i]? = some d) : fnC K (d.at_ K) = d.val ∧ d.ok K = true := by
  have c1 := (He.ba (He.ba (show ((fa.all fun f => f.ok K) && ((fds.all fun d => d.ok K) && (exs K).all id)) = true from congrArg (fun z : Al1 => z.1) c)).2).1
  have e : fds.map (fun d => fnC K (d.at_ K)) = fds.map FD.val := congrArg (fun z : Al1 => z.2) c
  have e2 : (fds.map fun d => fnC K (d.at_ K))[i]? = (fds.map FD.val)[i]? := by rw [e]
  rw [List.getElem?_map, List.getElem?_map, h] at e2
  exact ⟨Option.some.inj e2, List.all_eq_true.mp c1 d (List.mem_of_getElem? h)⟩
theorem Says.fun_ (c : Says K) (i : Nat) {d : FD} (h : fds[i]? = some d := by rfl) (hcl : d.cl = [] := by rfl) (hk : d.kp = true := by rfl) : ∃ fd, Fun K d.name d.qual d.st (d.at_ K) fd :=
  FD.fun_ (c.at_ i h).1 (c.at_ i h).2 hcl hk
theorem fd_s_is_name (c : Says K) : TF K "is_name" s_is_name := ⟨c.fun_ 0 (d := ⟨fun K => He.ga K "is_name", "is_name", "is_name", s_is_name, [], true⟩)⟩
theorem fd_s_is_whole (c : Says K) : TF K "is_whole" s_is_whole := ⟨c.fun_ 1 (d := ⟨fun K => He.ga K "is_whole", "is_whole", "is_whole", s_is_whole, [], true⟩)⟩
theorem fd_s_is_number (c : Says K) : TF K "is_number" s_is_number := ⟨c.fun_ 2 (d := ⟨fun K => He.ga K "is_number", "is_number", "is_number", s_is_number, [], true⟩)⟩
theorem fd_s_replies_of (c : Says K) : TF K "replies_of" s_replies_of := ⟨c.fun_ 3 (d := ⟨fun K => He.ga K "replies_of", "replies_of", "replies_of", s_replies_of, [], true⟩)⟩
theorem fd_s_led_from (c : Says K) : TF K "led_from" s_led_from := ⟨c.fun_ 4 (d := ⟨fun K => He.ga K "led_from", "led_from", "led_from", s_led_from, [], true⟩)⟩
theorem fd_s_rounds_of (c : Says K) : TF K "rounds_of" s_rounds_of := ⟨c.fun_ 5 (d := ⟨fun K => He.ga K "rounds_of", "rounds_of", "rounds_of", s_rounds_of, [], true⟩)⟩
theorem fd_s_sets_of (c : Says K) : TF K "sets_of" s_sets_of := ⟨c.fun_ 6 (d := ⟨fun K => He.ga K "sets_of", "sets_of", "sets_of", s_sets_of, [], true⟩)⟩
theorem fd_s_union_of (c : Says K) : TF K "union_of" s_union_of := ⟨c.fun_ 7 (d := ⟨fun K => He.ga K "union_of", "union_of", "union_of", s_union_of, [], true⟩)⟩
theorem fd_s_is_deed (c : Says K) : TF K "is_deed" s_is_deed := ⟨c.fun_ 8 (d := ⟨fun K => He.ga K "is_deed", "is_deed", "is_deed", s_is_deed, [], true⟩)⟩
theorem fd_s_is_move (c : Says K) : TF K "is_move" s_is_move := ⟨c.fun_ 9 (d := ⟨fun K => He.ga K "is_move", "is_move", "is_move", s_is_move, [], true⟩)⟩
theorem fd_s_cell_L (c : Says K) : TF K "_law_cell" s_cell_L := ⟨c.fun_ 10 (d := ⟨fun K => He.ga K "_law_cell", "_law_cell", "_law_cell", s_cell_L, [], true⟩)⟩
theorem fd_s_draws_L (c : Says K) : TF K "_law_draws" s_draws_L := ⟨c.fun_ 11 (d := ⟨fun K => He.ga K "_law_draws", "_law_draws", "_law_draws", s_draws_L, [], true⟩)⟩
theorem fd_s_menu_L (c : Says K) : TF K "_law_menu" s_menu_L := ⟨c.fun_ 12 (d := ⟨fun K => He.ga K "_law_menu", "_law_menu", "_law_menu", s_menu_L, [], true⟩)⟩
theorem fd_s_free_L (c : Says K) : TF K "_law_free" s_free_L := ⟨c.fun_ 13 (d := ⟨fun K => He.ga K "_law_free", "_law_free", "_law_free", s_free_L, [], true⟩)⟩
theorem fd_s_quiet_L (c : Says K) : TF K "_law_quiet" s_quiet_L := ⟨c.fun_ 14 (d := ⟨fun K => He.ga K "_law_quiet", "_law_quiet", "_law_quiet", s_quiet_L, [], true⟩)⟩
theorem fd_s_replies_L (c : Says K) : TF K "_law_replies" s_replies_L := ⟨c.fun_ 15 (d := ⟨fun K => He.ga K "_law_replies", "_law_replies", "_law_replies", s_replies_L, [], true⟩)⟩
theorem fd_s_same_L (c : Says K) : TF K "_law_same" s_same_L := ⟨c.fun_ 16 (d := ⟨fun K => He.ga K "_law_same", "_law_same", "_law_same", s_same_L, [], true⟩)⟩
theorem fd_s_copy_L (c : Says K) : TF K "_law_copy" s_copy_L := ⟨c.fun_ 17 (d := ⟨fun K => He.ga K "_law_copy", "_law_copy", "_law_copy", s_copy_L, [], true⟩)⟩
theorem fd_s_turned_L (c : Says K) : TF K "_law_turned" s_turned_L := ⟨c.fun_ 18 (d := ⟨fun K => He.ga K "_law_turned", "_law_turned", "_law_turned", s_turned_L, [], true⟩)⟩
theorem fd_s_table_L (c : Says K) : TF K "_law_table" s_table_L := ⟨c.fun_ 19 (d := ⟨fun K => He.ga K "_law_table", "_law_table", "_law_table", s_table_L, [], true⟩)⟩
theorem fd_s_union_L (c : Says K) : TF K "_law_union" s_union_L := ⟨c.fun_ 20 (d := ⟨fun K => He.ga K "_law_union", "_law_union", "_law_union", s_union_L, [], true⟩)⟩
theorem fd_s_options_L (c : Says K) : TF K "_law_options" s_options_L := ⟨c.fun_ 21 (d := ⟨fun K => He.ga K "_law_options", "_law_options", "_law_options", s_options_L, [], true⟩)⟩
theorem fd_s_picked_L (c : Says K) : TF K "_law_picked" s_picked_L := ⟨c.fun_ 22 (d := ⟨fun K => He.ga K "_law_picked", "_law_picked", "_law_picked", s_picked_L, [], true⟩)⟩
theorem fd_s_cover_L (c : Says K) : TF K "_law_cover" s_cover_L := ⟨c.fun_ 23 (d := ⟨fun K => He.ga K "_law_cover", "_law_cover", "_law_cover", s_cover_L, [], true⟩)⟩
theorem fd_s_lookers_L (c : Says K) : TF K "_law_lookers" s_lookers_L := ⟨c.fun_ 24 (d := ⟨fun K => He.ga K "_law_lookers", "_law_lookers", "_law_lookers", s_lookers_L, [], true⟩)⟩
theorem fd_s_doubled_L (c : Says K) : TF K "_law_doubled" s_doubled_L := ⟨c.fun_ 25 (d := ⟨fun K => He.ga K "_law_doubled", "_law_doubled", "_law_doubled", s_doubled_L, [], true⟩)⟩
theorem fd_s_added_L (c : Says K) : TF K "_law_added" s_added_L := ⟨c.fun_ 26 (d := ⟨fun K => He.ga K "_law_added", "_law_added", "_law_added", s_added_L, [], true⟩)⟩
theorem fd_s_ladder_L (c : Says K) : TF K "_law_ladder" s_ladder_L := ⟨c.fun_ 27 (d := ⟨fun K => He.ga K "_law_ladder", "_law_ladder", "_law_ladder", s_ladder_L, [], true⟩)⟩
theorem fd_s_branch_L (c : Says K) : TF K "_law_branch" s_branch_L := ⟨c.fun_ 28 (d := ⟨fun K => He.ga K "_law_branch", "_law_branch", "_law_branch", s_branch_L, [], true⟩)⟩
theorem fd_s_world_L (c : Says K) : TF K "_law_world" s_world_L := ⟨c.fun_ 29 (d := ⟨fun K => He.ga K "_law_world", "_law_world", "_law_world", s_world_L, [], true⟩)⟩
theorem fd_s_end_L (c : Says K) : TF K "_law_end" s_end_L := ⟨c.fun_ 30 (d := ⟨fun K => He.ga K "_law_end", "_law_end", "_law_end", s_end_L, [], true⟩)⟩
theorem fd_s_refused_L (c : Says K) : TF K "_law_refused" s_refused_L := ⟨c.fun_ 31 (d := ⟨fun K => He.ga K "_law_refused", "_law_refused", "_law_refused", s_refused_L, [], true⟩)⟩
theorem fd_s_kept_L (c : Says K) : TF K "_law_kept" s_kept_L := ⟨c.fun_ 32 (d := ⟨fun K => He.ga K "_law_kept", "_law_kept", "_law_kept", s_kept_L, [], true⟩)⟩
theorem fd_s_turn_L (c : Says K) : TF K "_law_turn" s_turn_L := ⟨c.fun_ 33 (d := ⟨fun K => He.ga K "_law_turn", "_law_turn", "_law_turn", s_turn_L, [], true⟩)⟩
theorem fd_s_played_L (c : Says K) : TF K "_law_played" s_played_L := ⟨c.fun_ 34 (d := ⟨fun K => He.ga K "_law_played", "_law_played", "_law_played", s_played_L, [], true⟩)⟩
theorem fd_s_law (c : Says K) : TF K "law" s_law := ⟨c.fun_ 35 (d := ⟨fun K => He.ga K "law", "law", "law", s_law, [], true⟩)⟩
theorem fd_s_Game_init (c : Says K) : TM K "__init__" "Game.__init__" s_Game_init (He.ma K (He.ga K "Game") "__init__") := ⟨c.fun_ 36 (d := ⟨fun K => He.ma K (He.ga K "Game") "__init__", "__init__", "Game.__init__", s_Game_init, [], true⟩)⟩
theorem fd_s_Game_word (c : Says K) : TM K "word" "Game.word" s_Game_word (He.ma K (He.ga K "Game") "word") := ⟨c.fun_ 37 (d := ⟨fun K => He.ma K (He.ga K "Game") "word", "word", "Game.word", s_Game_word, [], true⟩)⟩
theorem fd_s_Game_rounds (c : Says K) : TM K "rounds" "Game.rounds" s_Game_rounds (He.ma K (He.ga K "Game") "rounds") := ⟨c.fun_ 38 (d := ⟨fun K => He.ma K (He.ga K "Game") "rounds", "rounds", "Game.rounds", s_Game_rounds, [], true⟩)⟩
theorem fd_s_Game_spoiler (c : Says K) : TM K "spoiler" "Game.spoiler" s_Game_spoiler (He.ma K (He.ga K "Game") "spoiler") := ⟨c.fun_ 39 (d := ⟨fun K => He.ma K (He.ga K "Game") "spoiler", "spoiler", "Game.spoiler", s_Game_spoiler, [], true⟩)⟩
theorem fd_s_Spoiler_init (c : Says K) : TM K "__init__" "Spoiler.__init__" s_Spoiler_init (He.ma K (He.ga K "Spoiler") "__init__") := ⟨c.fun_ 40 (d := ⟨fun K => He.ma K (He.ga K "Spoiler") "__init__", "__init__", "Spoiler.__init__", s_Spoiler_init, [], true⟩)⟩
theorem fd_s_Spoiler_stand (c : Says K) : TM K "stand" "Spoiler.stand" s_Spoiler_stand (prG K "Spoiler" "stand") := ⟨c.fun_ 41 (d := ⟨fun K => prG K "Spoiler" "stand", "stand", "Spoiler.stand", s_Spoiler_stand, [], true⟩)⟩
theorem fd_s_Spoiler_stretch (c : Says K) : TM K "stretch" "Spoiler.stretch" s_Spoiler_stretch (prG K "Spoiler" "stretch") := ⟨c.fun_ 42 (d := ⟨fun K => prG K "Spoiler" "stretch", "stretch", "Spoiler.stretch", s_Spoiler_stretch, [], true⟩)⟩
theorem fd_s_Spoiler_won (c : Says K) : TM K "won" "Spoiler.won" s_Spoiler_won (prG K "Spoiler" "won") := ⟨c.fun_ 43 (d := ⟨fun K => prG K "Spoiler" "won", "won", "Spoiler.won", s_Spoiler_won, [], true⟩)⟩
theorem fd_s_Spoiler_call (c : Says K) : TM K "__call__" "Spoiler.__call__" s_Spoiler_call (He.ma K (He.ga K "Spoiler") "__call__") := ⟨c.fun_ 44 (d := ⟨fun K => He.ma K (He.ga K "Spoiler") "__call__", "__call__", "Spoiler.__call__", s_Spoiler_call, [], true⟩)⟩
theorem fd_s_Spoiler_own_begin (c : Says K) : TM K "own_begin" "Spoiler.own_begin" s_Spoiler_own_begin (He.ma K (He.ga K "Spoiler") "own_begin") := ⟨c.fun_ 45 (d := ⟨fun K => He.ma K (He.ga K "Spoiler") "own_begin", "own_begin", "Spoiler.own_begin", s_Spoiler_own_begin, [], true⟩)⟩
theorem fd_s_Spoiler_own_falling (c : Says K) : TM K "own_falling" "Spoiler.own_falling" s_Spoiler_own_falling (He.ma K (He.ga K "Spoiler") "own_falling") := ⟨c.fun_ 46 (d := ⟨fun K => He.ma K (He.ga K "Spoiler") "own_falling", "own_falling", "Spoiler.own_falling", s_Spoiler_own_falling, [], true⟩)⟩
theorem fd_s_Web_init (c : Says K) : TM K "__init__" "Web.__init__" s_Web_init (He.ma K (He.ga K "Web") "__init__") := ⟨c.fun_ 47 (d := ⟨fun K => He.ma K (He.ga K "Web") "__init__", "__init__", "Web.__init__", s_Web_init, [], true⟩)⟩
theorem fd_s_Web_len (c : Says K) : TM K "__len__" "Web.__len__" s_Web_len (He.ma K (He.ga K "Web") "__len__") := ⟨c.fun_ 48 (d := ⟨fun K => He.ma K (He.ga K "Web") "__len__", "__len__", "Web.__len__", s_Web_len, [], true⟩)⟩
theorem fd_s_Web_moves (c : Says K) : TM K "moves" "Web.moves" s_Web_moves (He.ma K (He.ga K "Web") "moves") := ⟨c.fun_ 49 (d := ⟨fun K => He.ma K (He.ga K "Web") "moves", "moves", "Web.moves", s_Web_moves, [], true⟩)⟩
theorem fd_s_Web_replies (c : Says K) : TM K "replies" "Web.replies" s_Web_replies (He.ma K (He.ga K "Web") "replies") := ⟨c.fun_ 50 (d := ⟨fun K => He.ma K (He.ga K "Web") "replies", "replies", "Web.replies", s_Web_replies, [], true⟩)⟩
theorem fd_s_Web_own_check (c : Says K) : TM K "own_check" "Web.own_check" s_Web_own_check (He.ma K (He.ga K "Web") "own_check") := ⟨c.fun_ 51 (d := ⟨fun K => He.ma K (He.ga K "Web") "own_check", "own_check", "Web.own_check", s_Web_own_check, [], true⟩)⟩
theorem fd_s_Web_own_quiet (c : Says K) : TM K "own_quiet" "Web.own_quiet" s_Web_own_quiet (He.ma K (He.ga K "Web") "own_quiet") := ⟨c.fun_ 52 (d := ⟨fun K => He.ma K (He.ga K "Web") "own_quiet", "own_quiet", "Web.own_quiet", s_Web_own_quiet, [], true⟩)⟩
theorem tx_of (X : K.In h) (G : h.Ns mainGlobals mg) (c : Says K) : Tx K mg :=
  { f_ValueError := He.free_ok X G (c.fact 0 (f := .free "ValueError") rfl),
    f_abs := He.free_ok X G (c.fact 1 (f := .free "abs") rfl),
    f_bool := He.free_ok X G (c.fact 2 (f := .free "bool") rfl),
    f_enumerate := He.free_ok X G (c.fact 3 (f := .free "enumerate") rfl),
    f_int := He.free_ok X G (c.fact 4 (f := .free "int") rfl),
    f_isinstance := He.free_ok X G (c.fact 5 (f := .free "isinstance") rfl),
    f_len := He.free_ok X G (c.fact 6 (f := .free "len") rfl),
    f_list := He.free_ok X G (c.fact 7 (f := .free "list") rfl),
    f_min := He.free_ok X G (c.fact 8 (f := .free "min") rfl),
    f_range := He.free_ok X G (c.fact 9 (f := .free "range") rfl),
    f_sorted := He.free_ok X G (c.fact 10 (f := .free "sorted") rfl),
    f_str := He.free_ok X G (c.fact 11 (f := .free "str") rfl),
    f_super := He.free_ok X G (c.fact 12 (f := .free "super") rfl),
    f_tuple := He.free_ok X G (c.fact 13 (f := .free "tuple") rfl),
    g_is_name := He.glo_ok X G (c.fact 14 (f := .glo "is_name") rfl),
    k_is_name := (fd_s_is_name c).ex.elim fun _ F => F.kp,
    g_is_whole := He.glo_ok X G (c.fact 15 (f := .glo "is_whole") rfl),
    k_is_whole := (fd_s_is_whole c).ex.elim fun _ F => F.kp,
    g_is_number := He.glo_ok X G (c.fact 16 (f := .glo "is_number") rfl),
    k_is_number := (fd_s_is_number c).ex.elim fun _ F => F.kp,
    g_replies_of := He.glo_ok X G (c.fact 17 (f := .glo "replies_of") rfl),
    k_replies_of := (fd_s_replies_of c).ex.elim fun _ F => F.kp,
    g_led_from := He.glo_ok X G (c.fact 18 (f := .glo "led_from") rfl),
    k_led_from := (fd_s_led_from c).ex.elim fun _ F => F.kp,
    g_rounds_of := He.glo_ok X G (c.fact 19 (f := .glo "rounds_of") rfl),
    k_rounds_of := (fd_s_rounds_of c).ex.elim fun _ F => F.kp,
    g_sets_of := He.glo_ok X G (c.fact 20 (f := .glo "sets_of") rfl),
    k_sets_of := (fd_s_sets_of c).ex.elim fun _ F => F.kp,
    g_union_of := He.glo_ok X G (c.fact 21 (f := .glo "union_of") rfl),
    k_union_of := (fd_s_union_of c).ex.elim fun _ F => F.kp,
    g_is_deed := He.glo_ok X G (c.fact 22 (f := .glo "is_deed") rfl),
    k_is_deed := (fd_s_is_deed c).ex.elim fun _ F => F.kp,
    g_is_move := He.glo_ok X G (c.fact 23 (f := .glo "is_move") rfl),
    k_is_move := (fd_s_is_move c).ex.elim fun _ F => F.kp,
    g__law_cell := He.glo_ok X G (c.fact 24 (f := .glo "_law_cell") rfl),
    k__law_cell := (fd_s_cell_L c).ex.elim fun _ F => F.kp,
    g__law_draws := He.glo_ok X G (c.fact 25 (f := .glo "_law_draws") rfl),
    k__law_draws := (fd_s_draws_L c).ex.elim fun _ F => F.kp,
    g__law_menu := He.glo_ok X G (c.fact 26 (f := .glo "_law_menu") rfl),
    k__law_menu := (fd_s_menu_L c).ex.elim fun _ F => F.kp,
    g__law_free := He.glo_ok X G (c.fact 27 (f := .glo "_law_free") rfl),
    k__law_free := (fd_s_free_L c).ex.elim fun _ F => F.kp,
    g__law_quiet := He.glo_ok X G (c.fact 28 (f := .glo "_law_quiet") rfl),
    k__law_quiet := (fd_s_quiet_L c).ex.elim fun _ F => F.kp,
    g__law_replies := He.glo_ok X G (c.fact 29 (f := .glo "_law_replies") rfl),
    k__law_replies := (fd_s_replies_L c).ex.elim fun _ F => F.kp,
    g__law_same := He.glo_ok X G (c.fact 30 (f := .glo "_law_same") rfl),
    k__law_same := (fd_s_same_L c).ex.elim fun _ F => F.kp,
    g__law_copy := He.glo_ok X G (c.fact 31 (f := .glo "_law_copy") rfl),
    k__law_copy := (fd_s_copy_L c).ex.elim fun _ F => F.kp,
    g__law_turned := He.glo_ok X G (c.fact 32 (f := .glo "_law_turned") rfl),
    k__law_turned := (fd_s_turned_L c).ex.elim fun _ F => F.kp,
    g__law_table := He.glo_ok X G (c.fact 33 (f := .glo "_law_table") rfl),
    k__law_table := (fd_s_table_L c).ex.elim fun _ F => F.kp,
    g__law_union := He.glo_ok X G (c.fact 34 (f := .glo "_law_union") rfl),
    k__law_union := (fd_s_union_L c).ex.elim fun _ F => F.kp,
    g__law_options := He.glo_ok X G (c.fact 35 (f := .glo "_law_options") rfl),
    k__law_options := (fd_s_options_L c).ex.elim fun _ F => F.kp,
    g__law_picked := He.glo_ok X G (c.fact 36 (f := .glo "_law_picked") rfl),
    k__law_picked := (fd_s_picked_L c).ex.elim fun _ F => F.kp,
    g__law_cover := He.glo_ok X G (c.fact 37 (f := .glo "_law_cover") rfl),
    k__law_cover := (fd_s_cover_L c).ex.elim fun _ F => F.kp,
    g__law_lookers := He.glo_ok X G (c.fact 38 (f := .glo "_law_lookers") rfl),
    k__law_lookers := (fd_s_lookers_L c).ex.elim fun _ F => F.kp,
    g__law_doubled := He.glo_ok X G (c.fact 39 (f := .glo "_law_doubled") rfl),
    k__law_doubled := (fd_s_doubled_L c).ex.elim fun _ F => F.kp,
    g__law_added := He.glo_ok X G (c.fact 40 (f := .glo "_law_added") rfl),
    k__law_added := (fd_s_added_L c).ex.elim fun _ F => F.kp,
    g__law_ladder := He.glo_ok X G (c.fact 41 (f := .glo "_law_ladder") rfl),
    k__law_ladder := (fd_s_ladder_L c).ex.elim fun _ F => F.kp,
    g__law_branch := He.glo_ok X G (c.fact 42 (f := .glo "_law_branch") rfl),
    k__law_branch := (fd_s_branch_L c).ex.elim fun _ F => F.kp,
    g__law_world := He.glo_ok X G (c.fact 43 (f := .glo "_law_world") rfl),
    k__law_world := (fd_s_world_L c).ex.elim fun _ F => F.kp,
    g__law_end := He.glo_ok X G (c.fact 44 (f := .glo "_law_end") rfl),
    k__law_end := (fd_s_end_L c).ex.elim fun _ F => F.kp,
    g__law_refused := He.glo_ok X G (c.fact 45 (f := .glo "_law_refused") rfl),
    k__law_refused := (fd_s_refused_L c).ex.elim fun _ F => F.kp,
    g__law_kept := He.glo_ok X G (c.fact 46 (f := .glo "_law_kept") rfl),
    k__law_kept := (fd_s_kept_L c).ex.elim fun _ F => F.kp,
    g__law_turn := He.glo_ok X G (c.fact 47 (f := .glo "_law_turn") rfl),
    k__law_turn := (fd_s_turn_L c).ex.elim fun _ F => F.kp,
    g__law_played := He.glo_ok X G (c.fact 48 (f := .glo "_law_played") rfl),
    k__law_played := (fd_s_played_L c).ex.elim fun _ F => F.kp,
    g_law := He.glo_ok X G (c.fact 49 (f := .glo "law") rfl),
    k_law := (fd_s_law c).ex.elim fun _ F => F.kp,
    g_Game := He.glo_ok X G (c.fact 50 (f := .glo "Game") rfl),
    c_Game := He.cls_ok (c.fact 59 (f := .cls "Game") rfl),
    mk_Game := He.mkr_ok (c.fact 75 (f := .mkr "Game") rfl),
    g_Spoiler := He.glo_ok X G (c.fact 51 (f := .glo "Spoiler") rfl),
    c_Spoiler := He.cls_ok (c.fact 60 (f := .cls "Spoiler") rfl),
    mk_Spoiler := He.mkr_ok (c.fact 76 (f := .mkr "Spoiler") rfl),
    g_Web := He.glo_ok X G (c.fact 52 (f := .glo "Web") rfl),
    c_Web := He.cls_ok (c.fact 61 (f := .cls "Web") rfl),
    mk_Web := He.mkr_ok (c.fact 77 (f := .mkr "Web") rfl),
    n_Game_low := He.noat_ok (c.fact 62 (f := .noat "Game" "low") rfl),
    n_Game_high := He.noat_ok (c.fact 63 (f := .noat "Game" "high") rfl),
    n_Game_own_rounds := He.noat_ok (c.fact 64 (f := .noat "Game" "own_rounds") rfl),
    n_Game_own_ways := He.noat_ok (c.fact 65 (f := .noat "Game" "own_ways") rfl),
    n_Game_own_gap := He.noat_ok (c.fact 66 (f := .noat "Game" "own_gap") rfl),
    n_Spoiler_own_low := He.noat_ok (c.fact 67 (f := .noat "Spoiler" "own_low") rfl),
    n_Spoiler_own_high := He.noat_ok (c.fact 68 (f := .noat "Spoiler" "own_high") rfl),
    n_Spoiler_own_rounds := He.noat_ok (c.fact 69 (f := .noat "Spoiler" "own_rounds") rfl),
    n_Spoiler_own_stand := He.noat_ok (c.fact 70 (f := .noat "Spoiler" "own_stand") rfl),
    n_Spoiler_own_stretch := He.noat_ok (c.fact 71 (f := .noat "Spoiler" "own_stretch") rfl),
    n_Spoiler_own_there := He.noat_ok (c.fact 72 (f := .noat "Spoiler" "own_there") rfl),
    n_Spoiler_own_replies := He.noat_ok (c.fact 73 (f := .noat "Spoiler" "own_replies") rfl),
    n_Web_own_rows := He.noat_ok (c.fact 74 (f := .noat "Web" "own_rows") rfl),
    m_Game_word := He.meth_ok (c.fact 78 (f := .meth "Game" "word") rfl),
    m_Game_rounds := He.meth_ok (c.fact 79 (f := .meth "Game" "rounds") rfl),
    m_Game_spoiler := He.meth_ok (c.fact 80 (f := .meth "Game" "spoiler") rfl),
    m_Spoiler_own_begin := He.meth_ok (c.fact 81 (f := .meth "Spoiler" "own_begin") rfl),
    m_Spoiler_own_falling := He.meth_ok (c.fact 82 (f := .meth "Spoiler" "own_falling") rfl),
    m_Web_moves := He.meth_ok (c.fact 83 (f := .meth "Web" "moves") rfl),
    m_Web_replies := He.meth_ok (c.fact 84 (f := .meth "Web" "replies") rfl),
    m_Web_own_check := He.meth_ok (c.fact 85 (f := .meth "Web" "own_check") rfl),
    m_Web_own_quiet := He.meth_ok (c.fact 86 (f := .meth "Web" "own_quiet") rfl),
    p_Spoiler_stand := ⟨_, _, prB_ok (c.ex 2 (b := prB K "Spoiler" "stand") rfl), fd_s_Spoiler_stand c⟩,
    p_Spoiler_stretch := ⟨_, _, prB_ok (c.ex 3 (b := prB K "Spoiler" "stretch") rfl), fd_s_Spoiler_stretch c⟩,
    p_Spoiler_won := ⟨_, _, prB_ok (c.ex 4 (b := prB K "Spoiler" "won") rfl), fd_s_Spoiler_won c⟩,
    i_MOST_games := He.int_ok X G (c.fact 56 (f := .int "MOST_games" 20000) rfl),
    i_MOST_webs := He.int_ok X G (c.fact 57 (f := .int "MOST_webs" 4000) rfl),
    s_LETTERS := He.str_ok X G (c.fact 58 (f := .str "LETTERS" "abcdefghijklmnopqrstuvwxyz") rfl) }
theorem ex_neS (c : Says K) : He.ga K "Web" ≠ He.ga K "Spoiler" := of_decide_eq_true (c.ex 0 (b := decide (He.ga K "Web" ≠ He.ga K "Spoiler")) rfl)
theorem ex_neG (c : Says K) : He.ga K "Web" ≠ He.ga K "Game" := of_decide_eq_true (c.ex 1 (b := decide (He.ga K "Web" ≠ He.ga K "Game")) rfl)
theorem ex_p_stand (c : Says K) : prB K "Spoiler" "stand" = true := c.ex 2 (b := prB K "Spoiler" "stand") rfl
theorem ex_p_stretch (c : Says K) : prB K "Spoiler" "stretch" = true := c.ex 3 (b := prB K "Spoiler" "stretch") rfl
theorem ex_p_won (c : Says K) : prB K "Spoiler" "won" = true := c.ex 4 (b := prB K "Spoiler" "won") rfl
theorem ex_lenW (c : Says K) : PySem.W.findIn K (.ref (He.ga K "Web")) "__len__" = some (some (.ref (He.ma K (He.ga K "Web") "__len__"))) := He.eqO_ok (c.ex 5 (b := He.eqO (PySem.W.findIn K (.ref (He.ga K "Web")) "__len__") (some (some (.ref (He.ma K (He.ga K "Web") "__len__"))))) rfl)
theorem ex_lenF (c : Says K) : PySem.W.isFn K (.ref (He.ma K (He.ga K "Web") "__len__")) = true := id (c.ex 6 (b := PySem.W.isFn K (.ref (He.ma K (He.ga K "Web") "__len__"))) rfl)
theorem ex_calA (c : Says K) : PySem.W.findIn K (.ref (He.ga K "Spoiler")) "__call__" = some (some (.ref (He.ma K (He.ga K "Spoiler") "__call__"))) := He.eqO_ok (c.ex 7 (b := He.eqO (PySem.W.findIn K (.ref (He.ga K "Spoiler")) "__call__") (some (some (.ref (He.ma K (He.ga K "Spoiler") "__call__"))))) rfl)
theorem ex_calF (c : Says K) : PySem.W.isFn K (.ref (He.ma K (He.ga K "Spoiler") "__call__")) = true := id (c.ex 8 (b := PySem.W.isFn K (.ref (He.ma K (He.ga K "Spoiler") "__call__"))) rfl)
theorem ex_calI (c : Says K) : PySem.W.fnIn K (He.ma K (He.ga K "Spoiler") "__call__") = true := id (c.ex 9 (b := PySem.W.fnIn K (He.ma K (He.ga K "Spoiler") "__call__")) rfl)
theorem ex_cls (c : Says K) : brCls K (C0 K) = true := c.ex 10 (b := brCls K (C0 K)) rfl
theorem ex_sa (c : Says K) : PySem.W.findIn K (.ref (C0 K)) "__setattr__" = some (some (.builtin "object.__setattr__")) := He.eqO_ok (c.ex 11 (b := He.eqO (PySem.W.findIn K (.ref (C0 K)) "__setattr__") (some (some (.builtin "object.__setattr__")))) rfl)
theorem ex_ga (c : Says K) : PySem.W.findIn K (.ref (C0 K)) "__getattribute__" = some (some (.builtin "BaseException.__getattribute__")) := He.eqO_ok (c.ex 12 (b := He.eqO (PySem.W.findIn K (.ref (C0 K)) "__getattribute__") (some (some (.builtin "BaseException.__getattribute__")))) rfl)
theorem ex_gg (c : Says K) : PySem.W.findIn K (.ref (C0 K)) "__getattr__" = some none := He.eqO_ok (c.ex 13 (b := He.eqO (PySem.W.findIn K (.ref (C0 K)) "__getattr__") (some none)) rfl)
theorem ex_noN (c : Says K) : PySem.W.findIn K (.ref (C0 K)) "at" = some none := He.eqO_ok (c.ex 14 (b := He.eqO (PySem.W.findIn K (.ref (C0 K)) "at") (some none)) rfl)
theorem ex_iC (c : Says K) : PySem.W.findIn K (.ref (C0 K)) "__init__" = some (some (.ref (I0 K))) := He.eqO_ok (c.ex 15 (b := He.eqO (PySem.W.findIn K (.ref (C0 K)) "__init__") (some (some (.ref (I0 K))))) rfl)
theorem ex_tC (c : Says K) : PySem.W.typeIn K (.ref (I0 K)) = some (.type "function") := optV_ok (c.ex 16 (b := optV (PySem.W.typeIn K (.ref (I0 K))) (some (.type "function"))) rfl)
theorem ex_kC (c : Says K) : PySem.W.keepIn K (.ref (C0 K)) = true := id (c.ex 17 (b := PySem.W.keepIn K (.ref (C0 K))) rfl)
theorem ex_exC (c : Says K) : PySem.W.subIn K (.ref (C0 K)) (.type "BaseException") = some true := optB_ok (c.ex 18 (b := optB (PySem.W.subIn K (.ref (C0 K)) (.type "BaseException")) (some true)) rfl)
theorem ex_tyC (c : Says K) : PySem.W.typeIn K (.ref (C0 K)) = some (.type "type") := optV_ok (c.ex 19 (b := optV (PySem.W.typeIn K (.ref (C0 K))) (some (.type "type"))) rfl)
theorem ex_hdC (c : Says K) : PySem.W.hasDictIn K (C0 K) = true := id (c.ex 20 (b := PySem.W.hasDictIn K (C0 K)) rfl)
theorem ex_te (c : Says K) : PySem.W.exmOne K (.ref (C0 K)) (.ref (C0 K)) = some true := optB_ok (c.ex 21 (b := optB (PySem.W.exmOne K (.ref (C0 K)) (.ref (C0 K))) (some true)) rfl)
theorem ex_sV (c : Says K) : PySem.W.subIn K (.ref (C0 K)) (.type "ValueError") = some true := optB_ok (c.ex 22 (b := optB (PySem.W.subIn K (.ref (C0 K)) (.type "ValueError")) (some true)) rfl)
theorem ex_own (c : Says K) : PySem.W.mroIn K (C0 K) (.ref (C0 K)) = some true := optB_ok (c.ex 23 (b := optB (PySem.W.mroIn K (C0 K) (.ref (C0 K))) (some true)) rfl)
theorem ex_noT (c : Says K) : PySem.W.nsIn K cStatics "thirdparty.any" = some none := He.eqO_ok (c.ex 24 (b := He.eqO (PySem.W.nsIn K cStatics "thirdparty.any") (some none)) rfl)
theorem ex_fn (c : Says K) : brFn K (C0 K) (I0 K) R.prog.main.file = true := c.ex 25 (b := brFn K (C0 K) (I0 K) R.prog.main.file) rfl
theorem ex_core (c : Says K) : PySem.W.kitOne K (.ref (C0 K)) (.ref (He.ga K "CoreError")) = some true := optB_ok (c.ex 26 (b := optB (PySem.W.kitOne K (.ref (C0 K)) (.ref (He.ga K "CoreError"))) (some true)) rfl)
theorem ex_val (c : Says K) : PySem.W.kitOne K (.ref (C0 K)) (.type "ValueError") = some true := optB_ok (c.ex 27 (b := optB (PySem.W.kitOne K (.ref (C0 K)) (.type "ValueError")) (some true)) rfl)
theorem ex_run (c : Says K) : PySem.W.kitOne K (.ref (C0 K)) (.ref (He.ga K "BadRun")) = some false := optB_ok (c.ex 28 (b := optB (PySem.W.kitOne K (.ref (C0 K)) (.ref (He.ga K "BadRun"))) (some false)) rfl)
theorem ex_bcls (c : Says K) : PySem.W.findIn K (.ref (C0 K)) "__class__" = some (some (.builtin "object.__class__")) := He.eqO_ok (c.ex 29 (b := He.eqO (PySem.W.findIn K (.ref (C0 K)) "__class__") (some (some (.builtin "object.__class__")))) rfl)
theorem ex_bget (c : Says K) : PySem.W.specialIn K (.builtin "object.__class__") "__get__" = some (some (.builtin "getset_descriptor.__get__")) := He.eqO_ok (c.ex 30 (b := He.eqO (PySem.W.specialIn K (.builtin "object.__class__") "__get__") (some (some (.builtin "getset_descriptor.__get__")))) rfl)
theorem ex_btak (c : Says K) : PySem.W.takesIn K (.builtin "object.__class__") = some true := optB_ok (c.ex 31 (b := optB (PySem.W.takesIn K (.builtin "object.__class__")) (some true)) rfl)
theorem ex_bobj (c : Says K) : PySem.W.mroIn K (C0 K) (.type "object") = some true := optB_ok (c.ex 32 (b := optB (PySem.W.mroIn K (C0 K) (.type "object")) (some true)) rfl)
theorem gl_CoreError (X : K.In h) (G : h.Ns mainGlobals mg) (c : Says K) : mg "CoreError" = some (.ref (He.ga K "CoreError")) := He.glo_ok X G (c.fact 53 (f := .glo "CoreError") rfl)
theorem gl_BadRun (X : K.In h) (G : h.Ns mainGlobals mg) (c : Says K) : mg "BadRun" = some (.ref (He.ga K "BadRun")) := He.glo_ok X G (c.fact 54 (f := .glo "BadRun") rfl)
theorem gl_BadReply (X : K.In h) (G : h.Ns mainGlobals mg) (c : Says K) : mg "BadReply" = some (.ref (He.ga K "BadReply")) := He.glo_ok X G (c.fact 55 (f := .glo "BadReply") rfl)
theorem init_of (c : Says K) : ∃ oc od cl kV doc pm an cdv ct osl, K.lookup (I0 K) = some ⟨oc, od, .func (PySem.W.fnX "__init__" "BadReply.__init__" (defArgs s_BadReply_init) (defBody s_BadReply_init) (defScope s_BadReply_init) cl .none kV doc pm an cdv ct), osl⟩ ∧ cl.map Prod.fst = (["__class__"] : List PySem.Str) ∧ PySem.W.codeIn K cdv "BadReply.__init__" = true := by
  obtain ⟨h1, h2⟩ := c.at_ 53 (d := ⟨fun K => He.ma K (He.ga K "BadReply") "__init__", "__init__", "BadReply.__init__", s_BadReply_init, ["__class__"], false⟩) rfl
  obtain ⟨oc, od, cl, kV, doc, pm, an, cdv, ct, osl, e1, e2, e3, _⟩ := FD.fn h1 h2
  exact ⟨oc, od, cl, kV, doc, pm, an, cdv, ct, osl, e1, e2, e3⟩
end
theorem run (w : World) : HandSHeadRun.RunEq R (PySem.W.view R.prog [54]) hk ob 20000 loose w := by
  intro os
  kernel_rfl
end Ct
set_option maxHeartbeats 4000000
/-! All together. -/
namespace Ct
open PySem PySem.Spec PyProof.Rows L2
section
variable {w : World} {K : PySem.W.Frag} {h : Heap} {mg : Str → Option Value} {base : Heap}
theorem no_super : ((R.prog).main.scope.names.lookup ("super" : Str)).isSome = false := by kernel_rfl
theorem ty_of (c : Says K) : Ty K mg := ⟨ex_lenW c, ex_lenF c, ⟨ex_calA c, ex_calF c, ex_calI c⟩⟩
theorem br_of (X : K.In h) (G : h.Ns mainGlobals mg) (c : Says K) : Br (R.prog) K mg (He.ga K "BadReply") (He.ma K (He.ga K "BadReply") "__init__") := by
  obtain ⟨oc, od, cl, kV, doc, pm, an, cdv, ct, osl, e1, e2, e3⟩ := init_of c
  obtain ⟨cda, ccl, cdd, vs, ccs, f, tf, x, cc, l, cld, csl, k0, k1, k2, k3, k4, k5, k6⟩ := brFn_ok (ex_fn c) e1
  have k0 : kV = .none := k0
  have k1 : cdv = .ref cda := k1
  have k5 : cl = [(x, cc)] := k5
  subst k0 k1 k5
  have e2 : [x] = (["__class__"] : List PySem.Str) := e2
  injection e2 with e2 _
  subst e2
  exact ⟨gl_BadReply X G c, brCls_ok (ex_cls c), ex_sa c, ex_ga c, ex_gg c, ex_noN c, ex_iC c, ex_tC c, ex_kC c, ex_exC c, ex_tyC c, ex_hdC c, ex_te c, ex_sV c, ex_own c, (tx_of X G c).f_super, ex_noT c, no_super,
    ⟨oc, od, doc, pm, an, cda, ct, cc, osl, ccl, cdd, vs, ccs, f, tf, l, cld, csl, e1, e3, k2, k3, k4, k6⟩⟩
theorem br2_of (X : K.In h) (G : h.Ns mainGlobals mg) (c : Says K) : Br2 K mg :=
  ⟨gl_CoreError X G c, gl_BadRun X G c, ex_core c, ex_val c, ex_run c, ⟨ex_bcls c, ex_bget c, ex_btak c, ex_bobj c⟩⟩
theorem all_of (X : K.In h) (G : h.Ns mainGlobals mg) (c : Says K) : Body (R.prog) w K mg base (["_law_script", "_law_world_here", "_law_low", "_law_high", "_law_table_here", "_law_game"] : List Str) 11 (spLaw K) "law" s_law (He.ga K "law") := by
  have T := tx_of X G c
  have U : Ty K mg := ty_of c
  have B := br_of X G c
  have B2 := br2_of X G c
  have neS := ex_neS c
  have neG := ex_neG c
  have whole : DOk (R.prog) w K mg base 1 "is_whole" ["x", "least", "most"] spWhole := ok_whole (fd_s_is_whole c) T
  have number := ok_number (fd_s_is_number c) T whole
  have name : DOk (R.prog) w K mg base 1 "is_name" ["x"] spName := ok_name (fd_s_is_name c) T
  have deed := ok_deed (fd_s_is_deed c) T whole number name
  have move := ok_move (fd_s_is_move c) T whole deed
  have cell : DOk (R.prog) w K mg base 1 "_law_cell" ["_law_script", "_law_k"] (spCell K) := ok_cell (fd_s_cell_L c) T
  have draws : DOk (R.prog) w K mg base 1 "_law_draws" ["_law_cell_here", "_law_spans"] spDraws := ok_draws (fd_s_draws_L c) T
  have check := ok_check (fd_s_Web_own_check c) T whole
  have quiet : MOk (R.prog) w K mg base 1 "Web" "own_quiet" ["self", "at"] (spQuiet K) := ok_quiet (fd_s_Web_own_quiet c) T
  have moves := ok_moves (fd_s_Web_moves c) T check
  have replies := ok_replies (fd_s_Web_replies c) T check quiet deed
  have quietL : DOk (R.prog) w K mg base 1 "_law_quiet" ["_law_rows", "_law_at"] spQuietL := ok_quietL (fd_s_quiet_L c) T
  have repliesL := ok_repliesL (fd_s_replies_L c) T quietL
  have same2 : DOk (R.prog) w K mg base 3 "_law_same" ["_law_told", "_law_due"] (spSame K 2) := ok_same (fd_s_same_L c) T 2
  have same3 : DOk (R.prog) w K mg base 4 "_law_same" ["_law_told", "_law_due"] (spSame K 3) := ok_same (fd_s_same_L c) T 3
  have copy : DOk (R.prog) w K mg base 1 "_law_copy" ["_law_rows"] spCopy := ok_copy (fd_s_copy_L c) T
  have turned := ok_turned (P := R.prog) (w := w) (base := base) (fd_s_turned_L c) T
  have table := ok_table (fd_s_table_L c) T repliesL
  have union : DOk (R.prog) w K mg base 1 "_law_union" ["_law_table_here", "_law_here", "_law_deed"] (spUnion w) := ok_union (fd_s_union_L c) T
  have menu := ok_menu (fd_s_menu_L c) T draws
  have free := ok_free (fd_s_free_L c) T draws
  have options := ok_options (fd_s_options_L c) T quietL repliesL
  have picked : DOk (R.prog) w K mg base 1 "_law_picked" ["_law_options_here", "_law_draws_here"] spPicked := ok_picked (fd_s_picked_L c) T
  have cover := ok_cover (fd_s_cover_L c) T draws options picked
  have doubled := ok_doubled (fd_s_doubled_L c) T draws
  have added := ok_added (fd_s_added_L c) T draws copy
  have lookers := ok_lookers (fd_s_lookers_L c) T draws table union
  have ladder := ok_ladder (fd_s_ladder_L c) T draws added
  have branch := ok_branch (fd_s_branch_L c) T draws
  have world := ok_world (fd_s_world_L c) T draws cell menu free branch ladder doubled lookers cover added
  have repliesOf := ok_repliesOf (fd_s_replies_of c) T replies
  have unionOf := ok_unionOf (fd_s_union_of c) T repliesOf
  have led := ok_led (fd_s_led_from c) T repliesOf moves
  have rounds : DOk (R.prog) w K mg base 1 "rounds_of" ["leads"] (spRounds w) := ok_rounds (fd_s_rounds_of c) T
  have sets := ok_sets (fd_s_sets_of c) T unionOf moves
  have webInit := ok_webInit (fd_s_Web_init c) T move
  have webLen : ROk (R.prog) w K mg base 1 (He.ma K (He.ga K "Web") "__len__") (spLen K) := ok_webLen (fd_s_Web_len c) T
  have fall := ok_fall (fd_s_Spoiler_own_falling c) T moves replies
  have begin_ := ok_begin (fd_s_Spoiler_own_begin c) T neS fall replies
  have stand : POk (R.prog) w K mg base 1 "Spoiler" "stand" (spStand K) := ok_stand T
  have stretch : POk (R.prog) w K mg base 1 "Spoiler" "stretch" (spStretch K) := ok_stretch T
  have won : POk (R.prog) w K mg base 1 "Spoiler" "won" (spWon K) := ok_won T
  have spInit := ok_spInit (fd_s_Spoiler_init c) T neS begin_
  have word : MOk (R.prog) w K mg base 1 "Game" "word" ["self"] (spWord w K) := ok_word (fd_s_Game_word c) T
  have gRounds : MOk (R.prog) w K mg base 1 "Game" "rounds" ["self"] (spGRounds w K) := ok_gRounds (fd_s_Game_rounds c) T
  have gSpoiler := ok_gSpoiler (fd_s_Game_spoiler c) T spInit
  have gInit := ok_gInit (fd_s_Game_init c) T neG rounds led sets
  have end_ := ok_end (fd_s_end_L c) T same2
  have reply := ok_reply (fd_s_Spoiler_call c) T U B neS whole webLen begin_
  have refused : DOk (R.prog) w K mg base 8 "_law_refused" ["_law_spoiler", "_law_reply"] (spRefused w K) := ok_refused (fd_s_refused_L c) T U B B2 reply (fd_s_same_L c)
  have kept := ok_kept (fd_s_kept_L c) T refused same3 stand stretch won
  have turn := ok_turn (fd_s_turn_L c) T U neS end_ reply kept same3 stand stretch
  have played := ok_played (fd_s_played_L c) T neS gRounds gSpoiler draws cell turn
  exact law_body T gRounds gSpoiler word world table copy turned webInit gInit played
end
theorem facts {w : World} {K : PySem.W.Frag} {h : Heap} {mg : Str → Option Value} {f : Addr} (X : K.In h) (G : h.Ns mainGlobals mg) (hfa : mg ("law" : Str) = some (.ref f)) (c : Says K) :
    ∃ fd : FuncData, (∀ (s : Shared) (v : Value), BindsTo s fd ⟨[v], []⟩ [("_law_script", v)]) ∧ ∀ base : Heap, K.In base → base.Ns mainGlobals mg → FnOk (R.prog) w K mg base CX0 12 f fd ["_law_script"] (spLaw K) := by
  have e := hfa.symm.trans (tx_of X G c).g_law
  cases e
  obtain ⟨fd, F⟩ := (fd_s_law c).ex
  obtain ⟨oc, od, kV, doc, pm, an, cdv, ct, osl, e1, e2, e3⟩ := id F.ex
  refine ⟨fd, fun s v => ?_, fun base _ _ => F.ok sc_law (fun vs H Q E h => ?_) (all_of X G c)⟩
  · rw [e1]
    exact .of_eq rfl
  · obtain ⟨a, ns, rfl, _⟩ := h
    rfl
end Ct
open PySem PySem.W PySem.Calls PyProof.Rows
theorem PySem.Challenge.cw_coretower_k11_whole_spoiler_beats_all_holds : PySem.Challenge.rw_coretower_k11_whole_spoiler_beats_all.Holds := by
  w_on; o_law
  refine HandSHeadRun.head_any (r := OpenLaw.row PySem.Challenge.rw_coretower_k11_whole_spoiler_beats_all) (q := view (OpenLaw.row PySem.Challenge.rw_coretower_k11_whole_spoiler_beats_all).prog [54]) (H := Ct.hk) (ob := Ct.ob) (M := 20000) (loose := Ct.loose)
    (d := HandSHeadRun.topDef (OpenLaw.row PySem.Challenge.rw_coretower_k11_whole_spoiler_beats_all).prog 54) (kwd := []) Ct.ob_eq
    (by kernel_rfl) (fun s => by kernel_rfl) Ct.run (by kernel_rfl) (by kernel_rfl) (by kernel_rfl) (by rfl) (by first | assumption | decide +kernel) (by decide +kernel) ⟨rfl, rfl, rfl, rfl, rfl, by decide +kernel⟩ ?hw ?hc
  case hw => w_witness2
  case hc =>
    refine L2.walk_ofE (l := PySem.Challenge.rw_coretower_k11_whole_spoiler_beats_all) (n := 63) (k := 12) (x := "_law_script") (CX := L2.CX0) rfl (by decide) (by kernel_rfl) ⟨rfl, by decide, by decide⟩ ?F (fun _ _ _ _ z => z)
    intro w mg fa h Y G hmg0
    obtain ⟨K, KX, c⟩ := Y
    have hmg : mg ("law" : PySem.Str) = some (.ref fa) := by
      have e : (HandSHeadRun.topDef (OpenLaw.row PySem.Challenge.rw_coretower_k11_whole_spoiler_beats_all).prog 54).name = ("law" : PySem.Str) := by kernel_rfl
      rw [← e]
      exact hmg0
    obtain ⟨fd, hb, hF⟩ := Ct.facts (w := w) KX G hmg c
    exact ⟨K, fd, Ct.spLaw K, KX, hb, fun H a ns hl _ hS => ⟨a, ns, rfl, hS, by omega, fun _ => rfl⟩, hF⟩
