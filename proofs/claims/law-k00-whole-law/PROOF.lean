import PyProof.Rows.All
import Wide.All
import OpenK.AllK
import Wide.FinOn
import HandS.ForMost
import HandS.ForSpec
import HandS.Conv
import HandS.Style
import HandS.IsInst
import HandS.TupAny
import HandS.TupMul
import HandS.Deep
import HandS.EndTab
import HandS.AnyAll
import HandS.Defaults
import HandS.CallRecv
import KE.KDictKeyed
import KE.KDictWalk
import KE.KDictCopyH
import HandS.Iter
import KE.GoesMore
import HandS.GenList
import KE.KExcIs
import HandS.ExcInit
import HandS.ExcIs
import HandS.Lambda
import HandS.HeadHook1
import KE.KStateDown
import KE.KExcInit
import HandS.Ends
import HandS.More
import HandS.Words
import HandS.WordsExc
import HandS.Head0
import HandS.Head1
import HandS.Head2
import HandS.HeadEnd
import HandS.HeadHook2
import HandS.HeadHook3
import HandS.HeadHook4
import HandS.HeadWalk
import PySem.Challenge.RW_lostlines_k00_whole_law

/-! # LLCore -/
set_option Elab.async false
set_option linter.all false
set_option maxRecDepth 100000
set_option maxHeartbeats 2000000
namespace L2.LL
open PySem PySem.Spec PyProof.Rows

/-! ## data: trees in the heap of values -/
abbrev T := NestedKey
mutual
/-- the value v is the datum t in the abstract heap H -/
inductive RT (H : Hp) : T → V → Prop
  | none : RT H .none .non
  | num (i : Int) : RT H (.num i) (.int i)
  | text (x : Str) : RT H (.text x) (.str x)
  | tup {a : Addr} {ts : List T} {vs : List V} : H a = some (.tup vs) → RTs H ts vs → RT H (.tup ts) (.ref a)
inductive RTs (H : Hp) : List T → List V → Prop
  | nil : RTs H [] []
  | cons {t : T} {v : V} {ts : List T} {vs : List V} : RT H t v → RTs H ts vs → RTs H (t :: ts) (v :: vs)
end
/-- tuples stay -/
def TLe (H H' : Hp) : Prop := ∀ b xs, H b = some (.tup xs) → H' b = some (.tup xs)
theorem TLe.rfl {H : Hp} : TLe H H := fun _ _ h => h
theorem TLe.trans {H H1 H2 : Hp} (a : TLe H H1) (b : TLe H1 H2) : TLe H H2 := fun c xs h => b c xs (a c xs h)
mutual
theorem RT.mono {H H' : Hp} (e : TLe H H') : ∀ (t : T) (v : V), RT H t v → RT H' t v
  | .none, _, h => by cases h; exact .none
  | .num i, _, h => by cases h; exact .num i
  | .text x, _, h => by cases h; exact .text x
  | .tup ts, _, h => by
    cases h with
    | tup h1 h2 => exact .tup (e _ _ h1) (RTs.mono e ts _ h2)
theorem RTs.mono {H H' : Hp} (e : TLe H H') : ∀ (ts : List T) (vs : List V), RTs H ts vs → RTs H' ts vs
  | [], _, h => by cases h; exact .nil
  | t :: ts, _, h => by
    cases h with
    | cons h1 h2 => exact .cons (RT.mono e t _ h1) (RTs.mono e ts _ h2)
end
mutual
theorem RT.inj {H : Hp} : ∀ (t u : T) (v : V), RT H t v → RT H u v → t = u
  | .none, _, _, h, h' => by cases h; cases h'; rfl
  | .num i, _, _, h, h' => by cases h; cases h'; rfl
  | .text x, _, _, h, h' => by cases h; cases h'; rfl
  | .tup ts, _, _, h, h' => by
    cases h with
    | tup h1 h2 =>
      cases h' with
      | tup k1 k2 =>
        rw [h1] at k1; cases k1
        rw [RTs.inj ts _ _ h2 k2]
theorem RTs.inj {H : Hp} : ∀ (ts us : List T) (vs : List V), RTs H ts vs → RTs H us vs → ts = us
  | [], _, _, h, h' => by cases h; cases h'; rfl
  | t :: ts, _, _, h, h' => by
    cases h with
    | cons h1 h2 =>
      cases h' with
      | cons k1 k2 => rw [RT.inj t _ _ h1 k1, RTs.inj ts _ _ h2 k2]
end
section
variable {H : Hp} {ts us : List T} {vs ws : List V}
theorem RTs.length (h : RTs H ts vs) : ts.length = vs.length := by
  induction ts generalizing vs with
  | nil => cases h; rfl
  | cons t ts ih => cases h with | cons _ h2 => simp [ih h2]
theorem RTs.append (h : RTs H ts vs) (k : RTs H us ws) : RTs H (ts ++ us) (vs ++ ws) := by
  induction ts generalizing vs with
  | nil => cases h; exact k
  | cons t ts ih => cases h with | cons h1 h2 => exact .cons h1 (ih h2)
theorem RTs.get (h : RTs H ts vs) {i : Nat} {t : T} (e : ts[i]? = some t) : ∃ v, vs[i]? = some v ∧ RT H t v := by
  induction ts generalizing vs i with
  | nil => simp at e
  | cons t' ts ih =>
    cases h with
    | cons h1 h2 =>
      cases i with
      | zero => simp at e; subst e; exact ⟨_, rfl, h1⟩
      | succ i => obtain ⟨v, q, r⟩ := ih h2 (by simpa using e); exact ⟨v, by simpa using q, r⟩
theorem RTs.got (h : RTs H ts vs) {i : Nat} {v : V} (e : vs[i]? = some v) : ∃ t, ts[i]? = some t ∧ RT H t v := by
  induction ts generalizing vs i with
  | nil => cases h; simp at e
  | cons t' ts ih =>
    cases h with
    | cons h1 h2 =>
      cases i with
      | zero => simp at e; subst e; exact ⟨_, rfl, h1⟩
      | succ i => obtain ⟨t, q, r⟩ := ih h2 (by simpa using e); exact ⟨t, by simpa using q, r⟩
theorem RTs.take (h : RTs H ts vs) (n : Nat) : RTs H (ts.take n) (vs.take n) := by
  induction ts generalizing vs n with
  | nil => cases h; simp; exact .nil
  | cons t ts ih =>
    cases h with
    | cons h1 h2 => cases n with
      | zero => exact .nil
      | succ n => exact .cons h1 (ih h2 n)
theorem RTs.drop (h : RTs H ts vs) (n : Nat) : RTs H (ts.drop n) (vs.drop n) := by
  induction ts generalizing vs n with
  | nil => cases h; simp; exact .nil
  | cons t ts ih =>
    cases h with
    | cons h1 h2 => cases n with
      | zero => exact .cons h1 h2
      | succ n => exact ih h2 n
end
mutual
/-- in the machine's heap the datum is the key -/
theorem RT.key {P : Program} {w : World} {H : Hp} {h : Heap} (ok : HOk P w H h) : ∀ (t : T) (v : V) (u : Value), RT H t v → RelV v u → NestedIs h t u
  | .none, _, _, x, r => by cases x; cases r; exact .none
  | .num i, _, _, x, r => by cases x; obtain ⟨t, rfl⟩ := r; exact .int _ _
  | .text y, _, _, x, r => by cases x; obtain ⟨t, rfl⟩ := r; exact .text _ _
  | .tup ts, _, _, x, r => by
    cases x with
    | tup h1 h2 =>
      cases r
      obtain ⟨_, its, rv, o, ho, hc, n, hd⟩ := ok _ _ h1
      exact .tup ho hc hd (RTs.key ok ts _ _ h2 (by simpa using rv))
theorem RTs.key {P : Program} {w : World} {H : Hp} {h : Heap} (ok : HOk P w H h) : ∀ (ts : List T) (vs : List V) (us : List Value), RTs H ts vs → Vals vs us → NestedAll h ts us
  | [], _, _, x, r => by cases x; cases r; exact .nil
  | t :: ts, _, _, x, r => by
    cases x with
    | cons h1 h2 =>
      cases r with
      | cons r1 r2 => exact .cons (RT.key ok t _ _ h1 r1) (RTs.key ok ts _ _ h2 r2)
end

/-! ## values: data, bools, mutable objects by their number in the store -/
inductive D where
  | bl (b : Bool) | ref (n : Nat) | raw (v : V) | dat (t : T)
  deriving DecidableEq
/-- a mutable object -/
inductive AO where
  | lst (ds : List D)
  | dct (kvs : List (T × D)) (ep : Nat)
  | ins (C : Addr) (fs : List (Str × D))
abbrev Sto := List AO
def RD (m : List Addr) (H : Hp) : D → V → Prop
  | .bl b, v => v = .bl b
  | .ref n, v => ∃ a, m[n]? = some a ∧ v = .ref a
  | .raw u, v => v = u
  | .dat t, v => RT H t v
abbrev RDs (m : List Addr) (H : Hp) : List D → List V → Prop := Paired (RD m H)
/-- the raw entries of a dict -/
def DEnt (w : World) (e : DictEntry) (x : T × V × V) : Prop := e.hash = x.1.hash w ∧ RelV x.2.1 e.key ∧ RelV x.2.2 e.val
def dphi (w : World) (a : Addr) (ep : Nat) (xs : List (T × V × V)) : Heap → Prop := fun h =>
  ∃ (o : Obj) (es : Array DictEntry), h.get? a = some o ∧ o.ExactDict ∧ o.data = .dict es ep ∧ Paired (DEnt w) es.toList xs
/-- how a dict's keys and values lie -/
def DKV (m : List Addr) (H : Hp) (p : T × D) (x : T × V × V) : Prop := p.1 = x.1 ∧ RT H p.1 x.2.1 ∧ RD m H p.2 x.2.2
def noText : T → Bool
  | .text _ => false
  | _ => true
structure DOk (kvs : List (T × D)) : Prop where
  nd : (kvs.map (·.1)).Nodup
  sz : kvs.length ≤ sizeLine
  dp : ∀ p ∈ kvs, p.1.depth ≤ 8 ∧ noText p.1 = true
def RO (w : World) (m : List Addr) (H : Hp) (a : Addr) : AO → Prop
  | .lst ds => ∃ vs, H a = some (.lst vs) ∧ RDs m H ds vs
  | .dct kvs ep => (a == sysModules) = false ∧ DOk kvs ∧ ∃ xs, H a = some (.ext (dphi w a ep xs)) ∧ Paired (DKV m H) kvs xs
  | .ins C fs => ∃ dx vfs, H a = some (.ins C dx vfs) ∧ Paired (fun (p : Str × D) (q : Str × V) => p.1 = q.1 ∧ RD m H p.2 q.2) fs vfs
/-- what the whole run leans on: the tables of code objects that generators may grow, those that stay empty, the script -/
structure Gp where
  Z : List Addr
  L : List Addr
  sa : Addr
  ns : List Int
  cS : Addr
def ScrK (K : PySem.W.Frag) (g : Gp) : Prop :=
  ∃ (o : Obj) (its : Array Value) (n : Nat), K.lookup g.sa = some o ∧ o.cls = .type "list" ∧ o.dict = none ∧ o.data = .seq its n ∧ its.size ≤ sizeLine ∧ Vals (g.ns.map V.int) its.toList
def ScrAt (K : PySem.W.Frag) (g : Gp) (m : List Addr) (H : Hp) : Prop :=
  (∃ u, H g.sa = some u ∧ (u = .lst (g.ns.map V.int) ∨ ∃ o, u = .frz o (.lst (g.ns.map V.int))) ∧ g.sa ∉ m) ∨ ScrK K g
/-- it is not the script -/
def NotScr (K : PySem.W.Frag) (g : Gp) (p : Addr) : Prop := ScrK K g ∨ p ≠ g.sa
theorem ScrAt.sq {K : PySem.W.Frag} {g : Gp} {m : List Addr} {H : Hp} (h : ScrAt K g m H) : SqL K H g.sa (g.ns.map V.int) := by
  rcases h with ⟨u, e, rfl | ⟨o, rfl⟩, _⟩ | h
  · exact .inl (.inl e)
  · exact .inl (.inr ⟨o, e⟩)
  · exact .inr h
structure RS (K : PySem.W.Frag) (w : World) (g : Gp) (m : List Addr) (S : Sto) (H : Hp) : Prop where
  len : m.length = S.length
  nd : m.Nodup
  obj : ∀ (n : Nat) (a : Addr) (o : AO), m[n]? = some a → S[n]? = some o → RO w m H a o
  tz : ∀ P ∈ g.Z, ∃ ps : Array Value, H P = some (.tbl ps) ∧ TriplesOk ps.toList
  tl : ∀ P ∈ g.L, H P = some (.tbl #[])
  sc : ScrAt K g m H
structure Le (m : List Addr) (H : Hp) (m' : List Addr) (H' : Hp) : Prop where
  pre : m <+: m'
  tup : TLe H H'
  kp : ∀ b o, b ∉ m → H b = some o → ∃ o', H' b = some o' ∧ ((∀ ps, o ≠ .tbl ps) → o' = o)
  nw : ∀ b ∈ m', b ∈ m ∨ H b = none
theorem Le.rfl {m : List Addr} {H : Hp} : Le m H m H := ⟨List.prefix_refl m, TLe.rfl, fun _ o _ h => ⟨o, h, fun _ => _root_.rfl⟩, fun _ h => .inl h⟩
theorem Le.trans {m m1 m2 : List Addr} {H H1 H2 : Hp} (a : Le m H m1 H1) (b : Le m1 H1 m2 H2) : Le m H m2 H2 where
  pre := a.pre.trans b.pre
  tup := a.tup.trans b.tup
  kp := fun c o hc h => by
    obtain ⟨o1, h1, e1⟩ := a.kp c o hc h
    have hc1 : c ∉ m1 := fun z => (a.nw c z).elim hc fun n => by rw [h] at n; cases n
    obtain ⟨o2, h2, e2⟩ := b.kp c o1 hc1 h1
    refine ⟨o2, h2, fun ht => ?_⟩
    have e := e1 ht
    subst e
    exact e2 ht
  nw := fun c h => by
    rcases b.nw c h with z | z
    · exact a.nw c z
    · by_cases hm : c ∈ m
      · exact .inl hm
      · right
        cases q : H c with
        | none => rfl
        | some o => obtain ⟨o1, h1, _⟩ := a.kp c o hm q; rw [z] at h1; cases h1
theorem Le.at {m m' : List Addr} {H H' : Hp} (e : Le m H m' H') {n : Nat} {a : Addr} (h : m[n]? = some a) : m'[n]? = some a := by
  obtain ⟨t, rfl⟩ := e.pre
  rw [List.getElem?_append_left (List.getElem?_eq_some_iff.mp h).1]; exact h
/-- an object that the store does not name stays -/
theorem Le.kept {m m' : List Addr} {H H' : Hp} (e : Le m H m' H') {b : Addr} {o : HO} (hb : b ∉ m) (h : H b = some o) (ht : ∀ ps, o ≠ .tbl ps) : H' b = some o ∧ b ∉ m' := by
  obtain ⟨o', h', q⟩ := e.kp b o hb h
  refine ⟨by rw [h', q ht], fun z => (e.nw b z).elim hb fun n => by rw [h] at n; cases n⟩
section
variable {m m' : List Addr} {H H' : Hp} {w : World} {K : PySem.W.Frag} {g : Gp} {S : Sto}
theorem RD.mono (e : Le m H m' H') : ∀ {d : D} {v : V}, RD m H d v → RD m' H' d v
  | .bl _, _, h => h
  | .ref _, _, ⟨a, h1, h2⟩ => ⟨a, e.at h1, h2⟩
  | .raw _, _, h => h
  | .dat t, _, h => RT.mono e.tup t _ h
theorem rd_app {m l : List Addr} {H : Hp} : ∀ {d : D} {v : V}, RD m H d v → RD (m ++ l) H d v
  | .bl _, _, h => h
  | .ref n, _, ⟨a, h1, h2⟩ => ⟨a, by rw [List.getElem?_append_left (List.getElem?_eq_some_iff.mp h1).1]; exact h1, h2⟩
  | .raw _, _, h => h
  | .dat _, _, h => h
theorem Paired.imp {α β : Type} {F G : α → β → Prop} (f : ∀ a b, F a b → G a b) {l : List α} {r : List β} (h : Paired F l r) : Paired G l r := by
  induction h with
  | nil => exact .nil
  | cons a _ ih => exact .cons (f _ _ a) ih
theorem RDs.mono (e : Le m H m' H') {ds : List D} {vs : List V} (h : RDs m H ds vs) : RDs m' H' ds vs := Paired.imp (fun _ _ => RD.mono e) h
theorem RO.mono (e : Le m H m' H') {a : Addr} (ha : H' a = H a) : ∀ {o : AO}, RO w m H a o → RO w m' H' a o
  | .lst ds, ⟨vs, h1, h2⟩ => ⟨vs, ha.trans h1, h2.mono e⟩
  | .dct kvs _, ⟨h0, h1, xs, h2, h3⟩ => ⟨h0, h1, xs, ha.trans h2, Paired.imp (fun _ _ q => ⟨q.1, RT.mono e.tup _ _ q.2.1, RD.mono e q.2.2⟩) h3⟩
  | .ins C fs, ⟨dx, vfs, h1, h2⟩ => ⟨dx, vfs, ha.trans h1, Paired.imp (fun _ _ q => ⟨q.1, RD.mono e q.2⟩) h2⟩
/-- what stands at a mutable object's place -/
def MutK : HO → Prop
  | .lst _ => True
  | .ext _ => True
  | .ins _ _ _ => True
  | _ => False
theorem RO.kind {a : Addr} : ∀ {o : AO}, RO w m H a o → ∃ u, H a = some u ∧ MutK u
  | .lst _, ⟨_, h, _⟩ => ⟨_, h, trivial⟩
  | .dct _ _, ⟨_, _, _, h, _⟩ => ⟨_, h, trivial⟩
  | .ins _ _, ⟨_, _, h, _⟩ => ⟨_, h, trivial⟩
theorem RS.at (R : RS K w g m S H) {n : Nat} {o : AO} (h : S[n]? = some o) : ∃ a, m[n]? = some a ∧ RO w m H a o := by
  have hn : n < m.length := by rw [R.len]; exact (List.getElem?_eq_some_iff.mp h).1
  exact ⟨m[n], List.getElem?_eq_getElem hn, R.obj n _ _ (List.getElem?_eq_getElem hn) h⟩
theorem RS.known (R : RS K w g m S H) {a : Addr} (h : a ∈ m) : ∃ u, H a = some u ∧ MutK u := by
  obtain ⟨n, hn⟩ := List.mem_iff_getElem?.mp h
  have hl : n < S.length := by rw [← R.len]; exact (List.getElem?_eq_some_iff.mp hn).1
  exact (R.obj n a _ hn (List.getElem?_eq_getElem hl)).kind
theorem RS.notin (R : RS K w g m S H) {p : Addr} (hp : H p = none) : p ∉ m := fun h => by
  obtain ⟨u, e, _⟩ := R.known h
  rw [hp] at e; cases e
theorem tle_new {p : Addr} {o : HO} (hp : H p = none) : TLe H (upd H p o) := fun b xs e => by
  rw [upd_ne (ne_of_none e hp)]; exact e
theorem le_new {p : Addr} {o : HO} (hp : H p = none) : Le m H m (upd H p o) :=
  ⟨List.prefix_refl m, tle_new hp, fun b u _ e => ⟨u, by rw [upd_ne (ne_of_none e hp)]; exact e, fun _ => rfl⟩, fun _ h => .inl h⟩
theorem le_reg {p : Addr} {o : HO} (hp : H p = none) : Le m H (m ++ [p]) (upd H p o) :=
  ⟨List.prefix_append m [p], tle_new hp, fun b u _ e => ⟨u, by rw [upd_ne (ne_of_none e hp)]; exact e, fun _ => rfl⟩, fun b h => by
    rcases List.mem_append.mp h with h | h
    · exact .inl h
    · have e : b = p := by simpa using h
      subst e; exact .inr hp⟩
theorem ScrAt.new {p : Addr} {o : HO} (hp : H p = none) (h : ScrAt K g m H) : ScrAt K g m (upd H p o) := by
  rcases h with ⟨u, e, h2, h3⟩ | h
  · exact .inl ⟨u, by rw [upd_ne (ne_of_none e hp)]; exact e, h2, h3⟩
  · exact .inr h
/-- a new object that the store does not name -/
theorem RS.fresh (R : RS K w g m S H) {p : Addr} {o : HO} (hp : H p = none) : RS K w g m S (upd H p o) where
  len := R.len
  nd := R.nd
  obj := fun n a ob h1 h2 => (R.obj n a ob h1 h2).mono (le_new hp) (by
    obtain ⟨u, e, _⟩ := (R.obj n a ob h1 h2).kind
    rw [upd_ne (ne_of_none e hp)])
  tz := fun P hP => let ⟨ps, e, t⟩ := R.tz P hP; ⟨ps, by rw [upd_ne (ne_of_none e hp)]; exact e, t⟩
  tl := fun P hP => by rw [upd_ne (ne_of_none (R.tl P hP) hp)]; exact R.tl P hP
  sc := R.sc.new hp
/-- a new object that the store names last -/
theorem RS.reg (R : RS K w g m S H) {p : Addr} {o : HO} {ao : AO} (hp : H p = none) (h : RO w (m ++ [p]) (upd H p o) p ao) : RS K w g (m ++ [p]) (S ++ [ao]) (upd H p o) where
  len := by simp [R.len]
  nd := by
    rw [List.nodup_append]
    refine ⟨R.nd, by simp, fun a ha b hb e => ?_⟩
    have hb' : b = p := by simpa using hb
    subst hb'; subst e
    exact R.notin hp ha
  obj := fun n a ob h1 h2 => by
    by_cases hn : n < m.length
    · rw [List.getElem?_append_left hn] at h1
      rw [List.getElem?_append_left (by rw [← R.len]; exact hn)] at h2
      refine (R.obj n a ob h1 h2).mono (le_reg hp) ?_
      obtain ⟨u, e, _⟩ := (R.obj n a ob h1 h2).kind
      rw [upd_ne (ne_of_none e hp)]
    · have e : n = m.length := by
        have := (List.getElem?_eq_some_iff.mp h1).1
        simp at this; omega
      subst e
      rw [List.getElem?_append_right (Nat.le_refl _)] at h1
      rw [R.len, List.getElem?_append_right (Nat.le_refl _)] at h2
      simp at h1 h2
      subst h1; subst h2
      exact h
  tz := (R.fresh (o := o) hp).tz
  tl := (R.fresh (o := o) hp).tl
  sc := by
    rcases R.sc with ⟨u, e, h2, h3⟩ | h
    · refine .inl ⟨u, by rw [upd_ne (ne_of_none e hp)]; exact e, h2, fun hm => ?_⟩
      rcases List.mem_append.mp hm with hm | hm
      · exact h3 hm
      · exact ne_of_none e hp (by simpa using hm)
    · exact .inr h
theorem mutk_ne {a b : Addr} {u o : HO} (h : H a = some u) (k : MutK u) (h' : H b = some o) (k' : ¬ MutK o) : b ≠ a := fun e => by
  subst e; rw [h] at h'; cases h'; exact k' k
theorem tle_mut {a : Addr} {u o : HO} (h : H a = some u) (k : MutK u) : TLe H (upd H a o) := fun b xs e => by
  rw [upd_ne (mutk_ne h k e (fun z => z))]; exact e
theorem le_mut {a : Addr} {u o : HO} (ha : a ∈ m) (h : H a = some u) (k : MutK u) : Le m H m (upd H a o) :=
  ⟨List.prefix_refl m, tle_mut h k, fun b v hb e => ⟨v, by rw [upd_ne (fun z : b = a => hb (by rw [z]; exact ha))]; exact e, fun _ => rfl⟩, fun _ h => .inl h⟩
/-- a mutable object is written -/
theorem RS.mut (R : RS K w g m S H) {n : Nat} {a : Addr} {o : HO} {ao : AO} (hn : m[n]? = some a) (h : RO w m (upd H a o) a ao) : RS K w g m (S.set n ao) (upd H a o) := by
  obtain ⟨u, hu, ku⟩ := R.known (List.mem_of_getElem? hn)
  refine ⟨by simp [R.len], R.nd, fun j b ob h1 h2 => ?_, fun P hP => ?_, fun P hP => ?_, ?_⟩
  · by_cases hj : j = n
    · subst hj
      rw [hn] at h1; cases h1
      have hl : j < S.length := by rw [← R.len]; exact (List.getElem?_eq_some_iff.mp hn).1
      rw [List.getElem?_set_self hl] at h2; cases h2
      exact h
    · rw [List.getElem?_set_ne (Ne.symm hj)] at h2
      refine (R.obj j b ob h1 h2).mono (le_mut (List.mem_of_getElem? hn) hu ku) (upd_ne fun e => ?_)
      subst e
      exact hj ((List.getElem?_inj (List.getElem?_eq_some_iff.mp h1).1 R.nd).mp (h1.trans hn.symm))
  · obtain ⟨ps, e, t⟩ := R.tz P hP
    exact ⟨ps, by rw [upd_ne (mutk_ne hu ku e (fun z => z))]; exact e, t⟩
  · rw [upd_ne (mutk_ne hu ku (R.tl P hP) (fun z => z))]; exact R.tl P hP
  · rcases R.sc with ⟨v, e, h2, h3⟩ | hk
    · exact .inl ⟨v, by rw [upd_ne (fun z : g.sa = a => h3 (by rw [z]; exact List.mem_of_getElem? hn))]; exact e, h2, h3⟩
    · exact .inr hk
/-- an object that stands already is named -/
theorem RS.name (R : RS K w g m S H) {p : Addr} {ao : AO} (hp : p ∉ m) (hs : NotScr K g p) (h : RO w (m ++ [p]) H p ao) : RS K w g (m ++ [p]) (S ++ [ao]) H where
  len := by simp [R.len]
  nd := by
    rw [List.nodup_append]
    refine ⟨R.nd, by simp, fun a ha b hb e => ?_⟩
    have hb' : b = p := by simpa using hb
    subst hb'; subst e
    exact hp ha
  obj := fun n a ob h1 h2 => by
    by_cases hn : n < m.length
    · rw [List.getElem?_append_left hn] at h1
      rw [List.getElem?_append_left (by rw [← R.len]; exact hn)] at h2
      cases ob with
      | lst ds => obtain ⟨vs, e1, e2⟩ := R.obj n a _ h1 h2; exact ⟨vs, e1, Paired.imp (fun d v q => rd_app q) e2⟩
      | dct kvs ep => obtain ⟨e0, e1, xs, e2, e3⟩ := R.obj n a _ h1 h2; exact ⟨e0, e1, xs, e2, Paired.imp (fun _ _ q => ⟨q.1, q.2.1, rd_app q.2.2⟩) e3⟩
      | ins C fs => obtain ⟨dx, vfs, e1, e2⟩ := R.obj n a _ h1 h2; exact ⟨dx, vfs, e1, Paired.imp (fun _ _ q => ⟨q.1, rd_app q.2⟩) e2⟩
    · have e : n = m.length := by
        have := (List.getElem?_eq_some_iff.mp h1).1
        simp at this; omega
      subst e
      rw [List.getElem?_append_right (Nat.le_refl _)] at h1
      rw [R.len, List.getElem?_append_right (Nat.le_refl _)] at h2
      simp at h1 h2
      subst h1; subst h2
      exact h
  tz := R.tz
  tl := R.tl
  sc := by
    rcases hs with hs | hs
    · exact .inr hs
    rcases R.sc with ⟨u, e, h2, h3⟩ | h
    · refine .inl ⟨u, e, h2, fun hm => ?_⟩
      rcases List.mem_append.mp hm with hm | hm
      · exact h3 hm
      · exact hs (by simpa using hm : g.sa = p).symm
    · exact .inr h
theorem RS.notScr (R : RS K w g m S H) {p : Addr} (hp : H p = none) : NotScr K g p := by
  rcases R.sc with ⟨u, e, _, _⟩ | h
  · exact .inr (ne_of_none e hp).symm
  · exact .inl h
end
end L2.LL

/-! # LLRules -/
set_option Elab.async false
set_option linter.all false
set_option maxRecDepth 100000
set_option maxHeartbeats 2000000
namespace L2.LL
open PySem PySem.Spec PyProof.Rows

/-! ## readings over data -/
abbrev SD := List (Option D)
abbrev DQ := D → Sto → Prop
abbrev ED := SD → Sto → DQ → Prop
abbrev XD := SD → Sto → (Bool → Sto → Prop) → Prop
abbrev AD := SD → Sto → (List D → Sto → Prop) → Prop
structure EndsD where
  nx : SD → Sto → Prop
  rt : DQ
  bk : SD → Sto → Prop := fun _ _ => False
  ct : SD → Sto → Prop := fun _ _ => False
abbrev BD := EndsD → SD → Sto → Prop
/-- a def by what it hands back -/
abbrev FD := List D → Sto → DQ → Prop
def RSl (m : List Addr) (H : Hp) (σ : SD) (σv : St) : Prop := σ.length = σv.length ∧ ∀ (i : Nat) (d : D), σ[i]? = some (some d) → ∃ v, σv[i]? = some (some v) ∧ RD m H d v
section
variable {m m' : List Addr} {H H' : Hp}
theorem RSl.mono (e : Le m H m' H') {σ : SD} {σv : St} (h : RSl m H σ σv) : RSl m' H' σ σv := ⟨h.1, fun i d q => let ⟨v, a, b⟩ := h.2 i d q; ⟨v, a, b.mono e⟩⟩
theorem RSl.set {σ : SD} {σv : St} {d : D} {v : V} (h : RSl m H σ σv) (i : Nat) (r : RD m H d v) : RSl m H (σ.set i (some d)) (σv.set i (some v)) := by
  refine ⟨by simp [h.1], fun j d' q => ?_⟩
  by_cases hj : i = j
  · subst hj
    have hl : i < σ.length := by
      have := (List.getElem?_eq_some_iff.mp q).1
      simpa using this
    rw [List.getElem?_set_self hl] at q
    cases q
    exact ⟨v, by rw [List.getElem?_set_self (by rw [← h.1]; exact hl)], r⟩
  · rw [List.getElem?_set_ne hj] at q ⊢
    exact h.2 j d' q
def startD (N : List Str) (ds : List D) : SD := ds.map some ++ List.replicate (N.length - ds.length) none
theorem RSl.start {N : List Str} : ∀ {ds : List D} {vs : List V}, RDs m H ds vs → RSl m H (startD N ds) (L2.start N vs) := by
  intro ds vs r
  have hl := Paired.length r
  refine ⟨by simp [startD, L2.start, hl], fun i d q => ?_⟩
  unfold startD at q
  unfold L2.start
  by_cases hi : i < ds.length
  · rw [List.getElem?_append_left (by simpa using hi), List.getElem?_map] at q
    rw [List.getElem?_append_left (by simpa [← hl] using hi), List.getElem?_map]
    clear hl
    induction r generalizing i with
    | nil => simp at hi
    | cons a t ih =>
      cases i with
      | zero => simp at q; subst q; exact ⟨_, rfl, a⟩
      | succ i => exact ih i (by simpa using q) (by simpa using hi)
  · rw [List.getElem?_append_right (by simpa using hi), List.getElem?_replicate] at q
    split at q <;> cases q
end

section
variable (K : PySem.W.Frag) (w : World) (g : Gp)
/-- what is known behind: the values' end from the data's -/
structure Kont (m : List Addr) (H : Hp) (Q0 : DQ) (Q : VK) : Prop where
  run : ∀ d S' m' H' v, Q0 d S' → Le m H m' H' → RS K w g m' S' H' → RD m' H' d v → Q v H'
def tD (f : ED) : TE := fun σv H Q => ∃ m σ S Q0, RS K w g m S H ∧ RSl m H σ σv ∧ f σ S Q0 ∧ Kont K w g m H Q0 Q
def tX (f : XD) : TT := fun σv H Q => ∃ m σ S Q0, RS K w g m S H ∧ RSl m H σ σv ∧ f σ S Q0 ∧ ∀ b S' m' H', Q0 b S' → Le m H m' H' → RS K w g m' S' H' → Q b H'
def tA (f : AD) : TA := fun σv H Q => ∃ m σ S Q0, RS K w g m S H ∧ RSl m H σ σv ∧ f σ S Q0 ∧ ∀ ds S' m' H' vs, Q0 ds S' → Le m H m' H' → RS K w g m' S' H' → RDs m' H' ds vs → Q vs H'
/-- the ends of statements -/
structure EndsOk (m : List Addr) (H : Hp) (D0 : EndsD) (D : Ends) : Prop where
  nx : ∀ σ S m' H' σv, D0.nx σ S → Le m H m' H' → RS K w g m' S H' → RSl m' H' σ σv → D.nx σv H'
  rt : ∀ d S m' H' v, D0.rt d S → Le m H m' H' → RS K w g m' S H' → RD m' H' d v → D.rt v H'
  bk : ∀ σ S m' H' σv, D0.bk σ S → Le m H m' H' → RS K w g m' S H' → RSl m' H' σ σv → D.bk σv H'
  ct : ∀ σ S m' H' σv, D0.ct σ S → Le m H m' H' → RS K w g m' S H' → RSl m' H' σ σv → D.ct σv H'
def tS (f : BD) : TS := fun D σv H => ∃ m σ S D0, RS K w g m S H ∧ RSl m H σ σv ∧ f D0 σ S ∧ EndsOk K w g m H D0 D
def spD (F : FD) : Sp := fun vs H Q _ => ∃ m S ds Q0, RS K w g m S H ∧ RDs m H ds vs ∧ F ds S Q0 ∧ Kont K w g m H Q0 Q
end
section
variable {K : PySem.W.Frag} {w : World} {g : Gp} {m m1 : List Addr} {H H1 : Hp} {Q0 : DQ} {Q : VK} {D0 : EndsD} {De : Ends}
theorem Kont.le (k : Kont K w g m H Q0 Q) (e : Le m H m1 H1) : Kont K w g m1 H1 Q0 Q := ⟨fun d S' m' H' v q L R r => k.run d S' m' H' v q (e.trans L) R r⟩
theorem Kont.go (k : Kont K w g m H Q0 Q) {d : D} {S' : Sto} {v : V} (q : Q0 d S') (R : RS K w g m S' H) (r : RD m H d v) : Q v H := k.run d S' m H v q Le.rfl R r
theorem EndsOk.le (k : EndsOk K w g m H D0 De) (e : Le m H m1 H1) : EndsOk K w g m1 H1 D0 De :=
  ⟨fun σ S m' H' σv q L R r => k.nx σ S m' H' σv q (e.trans L) R r, fun d S m' H' v q L R r => k.rt d S m' H' v q (e.trans L) R r,
   fun σ S m' H' σv q L R r => k.bk σ S m' H' σv q (e.trans L) R r, fun σ S m' H' σv q L R r => k.ct σ S m' H' σv q (e.trans L) R r⟩
end

theorem _root_.L2.PE.imp {X : Cx} {e : Expr} {t t' : TE} (h : PE X e t) (i : ∀ σ H Q, t' σ H Q → t σ H Q) : PE X e t' := ⟨fun pins s σ H Q I q => h.run pins s σ H Q I (i _ _ _ q)⟩
theorem _root_.L2.PT.imp {X : Cx} {e : Expr} {t t' : TT} (h : PT X e t) (i : ∀ σ H Q, t' σ H Q → t σ H Q) : PT X e t' := ⟨fun pins s σ H Q I q => h.run pins s σ H Q I (i _ _ _ q)⟩
theorem _root_.L2.PW.imp {X : Cx} {e : Expr} {t t' : TT} (h : PW X e t) (i : ∀ σ H Q, t' σ H Q → t σ H Q) : PW X e t' := ⟨fun wh pins s σ H Q I q => h.run wh pins s σ H Q I (i _ _ _ q)⟩
theorem _root_.L2.PA.imp {X : Cx} {e : List Expr} {t t' : TA} (h : PA X e t) (i : ∀ σ H Q, t' σ H Q → t σ H Q) : PA X e t' := ⟨fun pos pins s σ H Q I q => h.run pos pins s σ H Q I (i _ _ _ q)⟩
theorem _root_.L2.PS.imp {X : Cx} {e : Stmt} {t t' : TS} (h : PS X e t) (i : ∀ D σ H, t' D σ H → t D σ H) : PS X e t' := ⟨fun pins s σ H D I q => h.run pins s σ H D I (i _ _ _ q)⟩
theorem _root_.L2.PSs.imp {X : Cx} {e : List Stmt} {t t' : TS} (h : PSs X e t) (i : ∀ D σ H, t' D σ H → t D σ H) : PSs X e t' := ⟨fun pins s σ H D I q => h.run pins s σ H D I (i _ _ _ q)⟩

/-! ## judgements -/
abbrev DE (g : Gp) (X : Cx) (e : Expr) (f : ED) : Prop := PE X e (tD X.K X.w g f)
abbrev DX (g : Gp) (X : Cx) (e : Expr) (f : XD) : Prop := PT X e (tX X.K X.w g f)
abbrev DW (g : Gp) (X : Cx) (e : Expr) (f : XD) : Prop := PW X e (tX X.K X.w g f)
abbrev DA (g : Gp) (X : Cx) (e : List Expr) (f : AD) : Prop := PA X e (tA X.K X.w g f)
abbrev DS (g : Gp) (X : Cx) (e : Stmt) (f : BD) : Prop := PS X e (tS X.K X.w g f)
abbrev DSs (g : Gp) (X : Cx) (e : List Stmt) (f : BD) : Prop := PSs X e (tS X.K X.w g f)

/-! ## names, constants -/
def dVar (i : Nat) : ED := fun σ S Q => match σ[i]? with
  | some (some d) => Q d S
  | _ => False
def dC (d : D) : ED := fun _ S Q => Q d S
section
variable {g : Gp} {X : Cx} {pos : Pos}
theorem de_var {x : Str} (i : Nat) (hN : X.N[i]? = some x := by rfl) (hv : Vis X.env.scope x := by first | exact Or.inl rfl | exact Or.inr (Or.inl rfl) | exact Or.inr (Or.inr rfl)) (hd : (x == ("__debug__" : Str)) = false := by decide)
    (hcd : (x == ("__classdict__" : Str)) = false := by decide) : DE g X (.Name x pos) (dVar i) := by
  refine (pe_var hN hv hd hcd).imp fun σv H Q ⟨m, σ, S, Q0, R, Rl, h, k⟩ => ?_
  unfold dVar at h
  split at h
  · rename_i d e
    obtain ⟨v, hv, r⟩ := Rl.2 i d e
    exact ⟨v, hv, k.go h R r⟩
  · exact h.elim
theorem tC_of {v : V} {d : D} (r : ∀ m H, RD m H d v) : ∀ σv H Q, tD X.K X.w g (dC d) σv H Q → tC v σv H Q := fun σv H Q ⟨m, σ, S, Q0, R, Rl, h, k⟩ => k.go h R (r m H)
theorem de_int {i : Int} {j : Nat} : DE g X (.Constant (.int i) j pos) (dC (.dat (.num i))) := pe_int.imp (tC_of fun _ _ => .num i)
theorem de_bl {b : Bool} {j : Nat} : DE g X (.Constant (.bool b) j pos) (dC (.bl b)) := pe_bl.imp (tC_of fun _ _ => rfl)
theorem de_non {j : Nat} : DE g X (.Constant .none j pos) (dC (.dat .none)) := pe_non.imp (tC_of fun _ _ => .none)
theorem de_str {x : Str} {j : Nat} : DE g X (.Constant (.str x) j pos) (dC (.dat (.text x))) := pe_str.imp (tC_of fun _ _ => .text x)
/-- a module's constant -/
theorem de_const {x : Str} {i : Int} {t : Tok} (hg : Gl X x) (hm : X.mg x = some (.int i t)) (hd : (x == ("__debug__" : Str)) = false := by decide) : DE g X (.Name x pos) (dC (.dat (.num i))) :=
  (pe_glob (v := .int i) hg hm ⟨t, rfl⟩ hd).imp (tC_of fun _ _ => .num i)
end

/-! ## two places -/
abbrev OD := D → D → Sto → DQ → Prop
def rD (K : PySem.W.Frag) (w : World) (g : Gp) (r : OD) : R2 := fun x y H Q => ∃ m S dx dy Q0, RS K w g m S H ∧ RD m H dx x ∧ RD m H dy y ∧ r dx dy S Q0 ∧ Kont K w g m H Q0 Q
def dOp (r : OD) (fa fb : ED) : ED := fun σ S Q => fa σ S fun x S1 => fb σ S1 fun y S2 => r x y S2 Q
def dUn (r : D → Sto → DQ → Prop) (fa : ED) : ED := fun σ S Q => fa σ S fun x S1 => r x S1 Q
def uD (K : PySem.W.Frag) (w : World) (g : Gp) (r : D → Sto → DQ → Prop) : V → Hp → VK → Prop := fun x H Q => ∃ m S dx Q0, RS K w g m S H ∧ RD m H dx x ∧ r dx S Q0 ∧ Kont K w g m H Q0 Q
section
variable {K : PySem.W.Frag} {w : World} {g : Gp} {r : OD} {fa fb : ED}
theorem tOp_of : ∀ σv H Q, tD K w g (dOp r fa fb) σv H Q → tOp (rD K w g r) (tD K w g fa) (tD K w g fb) σv H Q := fun σv H Q ⟨m, σ, S, Q0, R, Rl, h, k⟩ =>
  ⟨m, σ, S, _, R, Rl, h, ⟨fun dx S1 m1 H1 vx hx L1 R1 rx => ⟨m1, σ, S1, _, R1, Rl.mono L1, hx, ⟨fun dy S2 m2 H2 vy hy L2 R2 ry => ⟨m2, S2, dx, dy, Q0, R2, rx.mono L2, ry, hy, k.le (L1.trans L2)⟩⟩⟩⟩⟩
theorem tUn_of {r : D → Sto → DQ → Prop} : ∀ σv H Q, tD K w g (dUn r fa) σv H Q → tUn (uD K w g r) (tD K w g fa) σv H Q := fun σv H Q ⟨m, σ, S, Q0, R, Rl, h, k⟩ =>
  ⟨m, σ, S, _, R, Rl, h, ⟨fun dx S1 m1 H1 vx hx L1 R1 rx => ⟨m1, S1, dx, Q0, R1, rx, hx, k.le L1⟩⟩⟩
end
section
variable {g : Gp} {X : Cx} {a b c : Expr} {pos : Pos} {fa fb fc : ED} {r r' : OD}
theorem de_op {op : Operator} (ho : OpR X (binaryOp op) (rD X.K X.w g r)) (ha : DE g X a fa) (hb : DE g X b fb) : DE g X (.BinOp a op b pos) (dOp r fa fb) := (pe_op ho ha hb).imp tOp_of
theorem de_un {op : UnaryOp} {r : D → Sto → DQ → Prop} (ho : UnR X (unaryOp op) (uD X.K X.w g r)) (ha : DE g X a fa) : DE g X (.UnaryOp op a pos) (dUn r fa) := (pe_un ho ha).imp tUn_of
theorem de_cmp {op : CmpOp} (ho : OpR X (compareOp op) (rD X.K X.w g r)) (ha : DE g X a fa) (hb : DE g X b fb) (hm : behindInMarks op b = false := by first | exact nomark _ | with_unfolding_all rfl) : DE g X (.Compare a [op] [b] pos) (dOp r fa fb) := (pe_cmpR ho ha hb hm).imp tOp_of
/-- a value that is a bool, as a test -/
def dTest (f : ED) : XD := fun σ S Q => f σ S fun d S' => match d with
  | .bl b => Q b S'
  | _ => False
theorem tTest_of {K : PySem.W.Frag} {w : World} {f : ED} {t : TE} (i : ∀ σ H Q, tD K w g f σ H Q → t σ H Q) : ∀ σv H Q, tX K w g (dTest f) σv H Q → tTest t σv H Q := fun σv H Q ⟨m, σ, S, Q0, R, Rl, h, k⟩ =>
  i _ _ _ ⟨m, σ, S, _, R, Rl, h, ⟨fun d S' m' H' v q L R' rd => by
    cases d with
    | bl b => cases (show v = .bl b from rd); exact ⟨b, rfl, k b S' m' H' q L R'⟩
    | _ => exact False.elim q⟩⟩
theorem dx_cmp {op : CmpOp} (ho : OpR X (compareOp op) (rD X.K X.w g r)) (ha : DE g X a fa) (hb : DE g X b fb) (hm : behindInMarks op b = false := by first | exact nomark _ | with_unfolding_all rfl) : DX g X (.Compare a [op] [b] pos) (dTest (dOp r fa fb)) := (pt_cmpR ho ha hb hm).imp (tTest_of tOp_of)
/-- an expression whose value is a bool (a call) -/
theorem dx_val (h : DE g X a fa) (he : ∀ whole, isTrue a X.env whole = (do let v ← whole; standAt a.pos; holding [v] (truthy v)) := by intro _; rfl) : DX g X a (dTest fa) :=
  (pt_val h he).imp fun σv H Q q => tTest_of (t := tD X.K X.w g fa) (fun _ _ _ z => z) σv H Q q
/-- a op b op' c -/
def dChain (r r' : OD) (fa fb fc : ED) : ED := fun σ S Q => fa σ S fun x S1 => fb σ S1 fun y S2 => r x y S2 fun z S3 => match z with
  | .bl true => fc σ S3 fun u S4 => r' y u S4 Q
  | .bl false => Q (.bl false) S3
  | _ => False
theorem tChain_of {K : PySem.W.Frag} {w : World} : ∀ σv H Q, tD K w g (dChain r r' fa fb fc) σv H Q → tChain (rD K w g r) (rD K w g r') (tD K w g fa) (tD K w g fb) (tD K w g fc) σv H Q := fun σv H Q ⟨m, σ, S, Q0, R, Rl, h, k⟩ =>
  ⟨m, σ, S, _, R, Rl, h, ⟨fun dx S1 m1 H1 vx hx L1 R1 rx => ⟨m1, σ, S1, _, R1, Rl.mono L1, hx, ⟨fun dy S2 m2 H2 vy hy L2 R2 ry => ⟨m2, S2, dx, dy, _, R2, rx.mono L2, ry, hy, ⟨fun z S3 m3 H3 vz hz L3 R3 rz => by
    cases z with
    | bl b =>
      cases (show vz = .bl b from rz)
      refine ⟨b, rfl, ?_⟩
      cases b with
      | true =>
        rw [if_pos rfl]
        exact ⟨m3, σ, S3, _, R3, Rl.mono ((L1.trans L2).trans L3), hz, ⟨fun du S4 m4 H4 vu hu L4 R4 ru => ⟨m4, S4, dy, du, Q0, R4, ry.mono (L3.trans L4), ru, hu, k.le (((L1.trans L2).trans L3).trans L4)⟩⟩⟩
      | false =>
        rw [if_neg Bool.false_ne_true]
        exact k.run _ _ _ _ _ hz ((L1.trans L2).trans L3) R3 rfl
    | _ => exact False.elim hz⟩⟩⟩⟩⟩⟩
theorem de_chain {op op' : CmpOp} (ho : OpR X (compareOp op) (rD X.K X.w g r)) (ho' : OpR X (compareOp op') (rD X.K X.w g r')) (ha : DE g X a fa) (hb : DE g X b fb) (hc : DE g X c fc)
    (hm : lastMarks [op, op'] [b, c] = false := by with_unfolding_all rfl) : DE g X (.Compare a [op, op'] [b, c] pos) (dChain r r' fa fb fc) := (pe_chain ho ho' ha hb hc hm).imp tChain_of
theorem dx_chain {op op' : CmpOp} (ho : OpR X (compareOp op) (rD X.K X.w g r)) (ho' : OpR X (compareOp op') (rD X.K X.w g r')) (ha : DE g X a fa) (hb : DE g X b fb) (hc : DE g X c fc)
    (hm : lastMarks [op, op'] [b, c] = false := by with_unfolding_all rfl) : DX g X (.Compare a [op, op'] [b, c] pos) (dTest (dChain r r' fa fb fc)) := (pt_chain ho ho' ha hb hc hm).imp (tTest_of tChain_of)

/-! ## and, or, not, if else -/
variable {ta tb : XD} {rest : List Expr}
def xAnd (t u : XD) : XD := fun σ S Q => t σ S fun b S1 => match b with
  | true => u σ S1 Q
  | false => Q false S1
def xOr (t u : XD) : XD := fun σ S Q => t σ S fun b S1 => match b with
  | true => Q true S1
  | false => u σ S1 Q
def xNot (t : XD) : XD := fun σ S Q => t σ S fun b S1 => Q (!b) S1
theorem dw_and1 (ha : DX g X a ta) : DW g X (.BoolOp .And [a] pos) ta := pw_and1 ha
theorem dw_or1 (ha : DX g X a ta) : DW g X (.BoolOp .Or [a] pos) ta := pw_or1 ha
theorem dw_and (ha : DX g X a ta) (hb : DW g X (.BoolOp .And (b :: rest) pos) tb) : DW g X (.BoolOp .And (a :: b :: rest) pos) (xAnd ta tb) :=
  (pw_and ha hb).imp fun σv H Q ⟨m, σ, S, Q0, R, Rl, h, k⟩ => ⟨m, σ, S, _, R, Rl, h, fun b1 S1 m1 H1 q L R1 => by
    cases b1 with
    | true => rw [if_pos rfl]; exact ⟨m1, σ, S1, Q0, R1, Rl.mono L, q, fun b2 S2 m2 H2 q2 L2 R2 => k b2 S2 m2 H2 q2 (L.trans L2) R2⟩
    | false => rw [if_neg Bool.false_ne_true]; exact k _ _ _ _ q L R1⟩
theorem dw_or (ha : DX g X a ta) (hb : DW g X (.BoolOp .Or (b :: rest) pos) tb) : DW g X (.BoolOp .Or (a :: b :: rest) pos) (xOr ta tb) :=
  (pw_or ha hb).imp fun σv H Q ⟨m, σ, S, Q0, R, Rl, h, k⟩ => ⟨m, σ, S, _, R, Rl, h, fun b1 S1 m1 H1 q L R1 => by
    cases b1 with
    | true => rw [if_pos rfl]; exact k _ _ _ _ q L R1
    | false => rw [if_neg Bool.false_ne_true]; exact ⟨m1, σ, S1, Q0, R1, Rl.mono L, q, fun b2 S2 m2 H2 q2 L2 R2 => k b2 S2 m2 H2 q2 (L.trans L2) R2⟩⟩
theorem dx_not (ha : DX g X a ta) : DX g X (.UnaryOp .Not a pos) (xNot ta) :=
  (pt_not ha).imp fun σv H Q ⟨m, σ, S, Q0, R, Rl, h, k⟩ => ⟨m, σ, S, _, R, Rl, h, fun b1 S1 m1 H1 q L R1 => k _ _ _ _ q L R1⟩
/-- as values -/
def dAnd (t u : ED) : ED := fun σ S Q => t σ S fun d S1 => match d with
  | .bl true => u σ S1 Q
  | .bl false => Q (.bl false) S1
  | _ => False
def dNot (t : ED) : ED := fun σ S Q => t σ S fun d S1 => match d with
  | .bl b => Q (.bl (!b)) S1
  | _ => False
theorem de_one {op : BoolOp} (h : DE g X a fa) : DE g X (.BoolOp op [a] pos) fa := pe_one h
theorem de_and (ha : DE g X a fa) (hb : DE g X (.BoolOp .And (b :: rest) pos) fb) : DE g X (.BoolOp .And (a :: b :: rest) pos) (dAnd fa fb) :=
  (pe_and ha hb).imp fun σv H Q ⟨m, σ, S, Q0, R, Rl, h, k⟩ => ⟨m, σ, S, _, R, Rl, h, ⟨fun d S1 m1 H1 v q L R1 rd => by
    cases d with
    | bl b =>
      cases (show v = .bl b from rd)
      refine ⟨b, rfl, ?_⟩
      cases b with
      | true => rw [if_pos rfl]; exact ⟨m1, σ, S1, Q0, R1, Rl.mono L, q, k.le L⟩
      | false => rw [if_neg Bool.false_ne_true]; exact k.run _ _ _ _ _ q L R1 rfl
    | _ => exact False.elim q⟩⟩
theorem de_not (ha : DE g X a fa) : DE g X (.UnaryOp .Not a pos) (dNot fa) :=
  (pe_not ha).imp fun σv H Q ⟨m, σ, S, Q0, R, Rl, h, k⟩ => ⟨m, σ, S, _, R, Rl, h, ⟨fun d S1 m1 H1 v q L R1 rd => by
    cases d with
    | bl b => cases (show v = .bl b from rd); exact ⟨b, rfl, k.run _ _ _ _ _ q L R1 rfl⟩
    | _ => exact False.elim q⟩⟩
def dIf (t : XD) (fa fb : ED) : ED := fun σ S Q => t σ S fun b S1 => match b with
  | true => fa σ S1 Q
  | false => fb σ S1 Q
theorem de_if (hc : DX g X c ta) (ha : DE g X a fa) (hb : DE g X b fb) : DE g X (.IfExp c a b pos) (dIf ta fa fb) :=
  (pe_ifExp hc ha hb).imp fun σv H Q ⟨m, σ, S, Q0, R, Rl, h, k⟩ => ⟨m, σ, S, _, R, Rl, h, fun b1 S1 m1 H1 q L R1 => by
    cases b1 with
    | true => rw [if_pos rfl]; exact ⟨m1, σ, S1, Q0, R1, Rl.mono L, q, k.le L⟩
    | false => rw [if_neg Bool.false_ne_true]; exact ⟨m1, σ, S1, Q0, R1, Rl.mono L, q, k.le L⟩⟩
/-- an expression that the proof never comes to -/
def dNever : ED := fun _ _ _ => False
theorem de_never : DE g X a dNever := ⟨fun pins s σ H Q I ⟨_, _, _, _, _, _, h, _⟩ => h.elim⟩
def xNever : XD := fun _ _ _ => False
theorem dx_never : DX g X a xNever := ⟨fun pins s σ H Q I ⟨_, _, _, _, _, _, h, _⟩ => h.elim⟩
end

/-! ## arguments, calls -/
def dNil : AD := fun _ S Q => Q [] S
def dCons (fa : ED) (fr : AD) : AD := fun σ S Q => fa σ S fun d S1 => fr σ S1 fun ds S2 => Q (d :: ds) S2
def dCall (F : FD) (fa : AD) : ED := fun σ S Q => fa σ S fun ds S1 => F ds S1 Q
/-- with defaults -/
def dCallD (F : FD) (dd : List D) (fa : AD) : ED := fun σ S Q => fa σ S fun ds S1 => F (ds ++ dd) S1 Q
theorem Paired.app {α β : Type} {F : α → β → Prop} {l l2 : List α} {r r2 : List β} (h : Paired F l r) (k : Paired F l2 r2) : Paired F (l ++ l2) (r ++ r2) := by
  induction h with
  | nil => exact k
  | cons a _ ih => exact .cons a ih
section
variable {g : Gp} {X : Cx} {e : Expr} {es : List Expr} {pos p : Pos} {fa : ED} {fr : AD} {F : FD}
theorem da_nil : DA g X [] dNil := pa_nil.imp fun σv H Q ⟨m, σ, S, Q0, R, Rl, h, k⟩ => k _ _ _ _ _ h Le.rfl R .nil
theorem da_cons (ha : DE g X e fa) (hr : DA g X es fr) (hs : starEach (e :: es) X.env = (false, eval e X.env) :: starEach es X.env := by rfl) : DA g X (e :: es) (dCons fa fr) :=
  (pa_cons ha hr hs).imp fun σv H Q ⟨m, σ, S, Q0, R, Rl, h, k⟩ => ⟨m, σ, S, _, R, Rl, h, ⟨fun dx S1 m1 H1 vx hx L1 R1 rx => ⟨m1, σ, S1, _, R1, Rl.mono L1, hx, fun ds S2 m2 H2 vs hs L2 R2 rs => k _ _ _ _ _ hs (L1.trans L2) R2 (.cons (rx.mono L2) rs)⟩⟩⟩
variable {CX : CXT} {k : Nat} {f : Addr} {fd : FuncData} {ps : List Str} {x : Str} {dvs : List V} {ds : List Value} {dd : List D}
theorem de_callD (G : FnOk X.prog X.w X.K X.mg X.base CX0 k f fd ps (spD X.K X.w g F)) (hr : Room k X.A) (hg : Gl X x) (hm : X.mg x = some (.ref f)) (hk : PySem.W.keepIn X.K (.ref f) = true) (hb : Binds X.K fd ps ds) (hd : Vals dvs ds) (hdd : ∀ m H, RDs m H dd dvs)
    (ha : DA g X (e :: es) fr) (hdb : (x == ("__debug__" : Str)) = false := by decide) (he : starEach (e :: es) X.env = (false, eval e X.env) :: starEach es X.env := by rfl) (hpl : (backTo pos (starEach es X.env)).any (·.1) = false := by rfl) :
    DE g X (.Call (.Name x p) (e :: es) [] pos) (dCallD F dd fr) :=
  (pe_call G hr hg hm hk hb hd pass0 ha hdb he hpl).imp fun σv H Q ⟨m, σ, S, Q0, R, Rl, h, k⟩ => ⟨m, σ, S, _, R, Rl, h, fun ds S1 m1 H1 vs q L1 R1 rs => ⟨m1, S1, _, Q0, R1, Paired.app rs (hdd m1 H1), q, k.le L1⟩⟩
theorem de_call (G : FnOk X.prog X.w X.K X.mg X.base CX0 k f fd ps (spD X.K X.w g F)) (hr : Room k X.A) (hg : Gl X x) (hm : X.mg x = some (.ref f)) (hk : PySem.W.keepIn X.K (.ref f) = true) (hb : Binds X.K fd ps [])
    (ha : DA g X (e :: es) fr) (hdb : (x == ("__debug__" : Str)) = false := by decide) (he : starEach (e :: es) X.env = (false, eval e X.env) :: starEach es X.env := by rfl) (hpl : (backTo pos (starEach es X.env)).any (·.1) = false := by rfl) :
    DE g X (.Call (.Name x p) (e :: es) [] pos) (dCall F fr) :=
  (pe_call G hr hg hm hk hb .nil pass0 ha hdb he hpl).imp fun σv H Q ⟨m, σ, S, Q0, R, Rl, h, k⟩ => ⟨m, σ, S, _, R, Rl, h, fun ds S1 m1 H1 vs q L1 R1 rs => ⟨m1, S1, ds, Q0, R1, by rw [List.append_nil]; exact rs, q, k.le L1⟩⟩
end

/-! ## statements -/
def bNext : BD := fun D σ S => D.nx σ S
def bSeq (t u : BD) : BD := fun D σ S => t { D with nx := u D } σ S
def bBreak : BD := fun D σ S => D.bk σ S
def bCont : BD := fun D σ S => D.ct σ S
def bDrop (f : ED) : BD := fun D σ S => f σ S fun _ S1 => D.nx σ S1
def bRet (f : ED) : BD := fun D σ S => f σ S D.rt
def bRetN : BD := fun D _ S => D.rt (.dat .none) S
def bIf (c : XD) (t u : BD) : BD := fun D σ S => c σ S fun b S1 => match b with
  | true => t D σ S1
  | false => u D σ S1
def bNever : BD := fun _ _ _ => False
def bSet (i : Nat) (f : ED) : BD := fun D σ S => f σ S fun d S1 => D.nx (σ.set i (some d)) S1
section
variable {g : Gp} {X : Cx} {st : Stmt} {rest sa sb : List Stmt} {e c : Expr} {pos : Pos} {fe : ED} {fc : XD} {t u : BD}
theorem dss_nil : DSs g X [] bNext := pss_nil.imp fun D σv H ⟨m, σ, S, D0, R, Rl, h, k⟩ => k.nx _ _ _ _ _ h Le.rfl R Rl
theorem dss_cons (h1 : DS g X st t) (h2 : DSs g X rest u) : DSs g X (st :: rest) (bSeq t u) :=
  (pss_cons h1 h2).imp fun D σv H ⟨m, σ, S, D0, R, Rl, h, k⟩ => ⟨m, σ, S, { D0 with nx := u D0 }, R, Rl, h, fun σ1 S1 m1 H1 σv1 q L R1 Rl1 => ⟨m1, σ1, S1, D0, R1, Rl1, q, k.le L⟩, k.rt, k.bk, k.ct⟩
theorem dss_one (h1 : DS g X st t) : DSs g X [st] t := pss_one h1
theorem ds_pass : DS g X (.Pass pos) bNext := ps_pass.imp fun D σv H ⟨m, σ, S, D0, R, Rl, h, k⟩ => k.nx _ _ _ _ _ h Le.rfl R Rl
theorem ds_break : DS g X (.Break pos) bBreak := ps_break.imp fun D σv H ⟨m, σ, S, D0, R, Rl, h, k⟩ => k.bk _ _ _ _ _ h Le.rfl R Rl
theorem ds_expr (he : DE g X e fe) (hs : swapsWith e none pos.line X.env = pure false := by rfl) : DS g X (.Expr e pos) (bDrop fe) :=
  (ps_expr he hs).imp fun D σv H ⟨m, σ, S, D0, R, Rl, h, k⟩ => ⟨m, σ, S, _, R, Rl, h, ⟨fun d S1 m1 H1 v q L R1 rd => k.nx _ _ _ _ _ q L R1 (Rl.mono L)⟩⟩
theorem ds_ret (he : DE g X e fe) : DS g X (.Return (some e) pos) (bRet fe) :=
  (ps_ret he).imp fun D σv H ⟨m, σ, S, D0, R, Rl, h, k⟩ => ⟨m, σ, S, _, R, Rl, h, ⟨fun d S1 m1 H1 v q L R1 rd => k.rt _ _ _ _ _ q L R1 rd⟩⟩
theorem ds_retN : DS g X (.Return none pos) bRetN := ps_retN.imp fun D σv H ⟨m, σ, S, D0, R, Rl, h, k⟩ => k.rt _ _ _ _ _ h Le.rfl R .none
theorem ds_if (hc : DX g X c fc) (ha : DSs g X sa t) (hb : DSs g X sb u) : DS g X (.If c sa sb pos) (bIf fc t u) :=
  (ps_if hc ha hb).imp fun D σv H ⟨m, σ, S, D0, R, Rl, h, k⟩ => ⟨m, σ, S, _, R, Rl, h, fun b1 S1 m1 H1 q L R1 => by
    cases b1 with
    | true => rw [if_pos rfl]; exact ⟨m1, σ, S1, D0, R1, Rl.mono L, q, k.le L⟩
    | false => rw [if_neg Bool.false_ne_true]; exact ⟨m1, σ, S1, D0, R1, Rl.mono L, q, k.le L⟩⟩
theorem ds_never : DS g X st bNever := ⟨fun pins s σ H D I ⟨_, _, _, _, _, _, h, _⟩ => h.elim⟩
theorem dss_never : DSs g X rest bNever := ⟨fun pins s σ H D I ⟨_, _, _, _, _, _, h, _⟩ => h.elim⟩
theorem ds_set {i : Nat} {x : Str} {pos' : Pos} (hN : X.N.Nodup) (he : DE g X e fe) (hi : X.N[i]? = some x := by rfl) (hx : Loc X.env.scope x := by first | exact Or.inl rfl | exact Or.inr rfl) (hs : swapsWith e (some (.Name x pos')) pos.line X.env = pure false := by rfl)
    (hf : X.fn x = true ∨ X.env.scope.names.lookup x = some .local := by first | exact .inl rfl | exact .inr rfl) : DS g X (.Assign [.Name x pos'] e pos) (bSet i fe) :=
  (ps_set hN hi hx he hs hf).imp fun D σv H ⟨m, σ, S, D0, R, Rl, h, k⟩ => ⟨m, σ, S, _, R, Rl, h, ⟨fun d S1 m1 H1 v q L R1 rd => k.nx _ _ _ _ _ q L R1 ((Rl.mono L).set i rd)⟩⟩
end

/-! ## a def's body -/
section
variable {P : Program} {w : World} {K : PySem.W.Frag} {mg : Str → Option Value} {base : Heap} {g : Gp}
/-- a def of the text whose code object is known -/
structure FunC (K : PySem.W.Frag) (x qual : Str) (st : Stmt) (f : Addr) (fd : FuncData) (cdv : Value) : Prop where
  ex : ∃ (oc : Value) (od : Option Addr) (kV doc pm : Value) (an : Option Addr) (ct : Value) (osl : Array (Option Value)) (dV : Value),
    fd = PySem.W.fnOf x qual (defArgs st) (defBody st) (defScope st) dV kV doc pm an cdv ct ∧ K.lookup f = some ⟨oc, od, .func fd, osl⟩ ∧ PySem.W.codeIn K cdv qual = true
  kp : PySem.W.keepIn K (.ref f) = true
theorem FunC.ok {x qual : Str} {st : Stmt} {f : Addr} {fd : FuncData} {cdv : Value} {N ps : List Str} {k : Nat} {Ff : FD} (F : FunC K x qual st f fd cdv) (S : FnScope N ps (defScope st)) (len : ∀ ds S Q, Ff ds S Q → ds.length = ps.length)
    (hbody : ∀ (A : Around) (outer : List Env) (s : Shared) (H : Hp) (E : XK), Room k (A.deeper (envOfC qual (defScope st) s.heap.objs.size f cdv)) →
      ∃ fb : BD, DSs g (cxOf CX0 P w K mg base N qual (defScope st) f cdv A outer s H E).nox (defBody st) fb ∧ ∀ ds S Q, Ff ds S Q → fb { nx := fun _ S' => Q (.dat .none) S', rt := Q } (startD N ds) S) :
    FnOk P w K mg base CX0 (k + 1) f fd ps (spD K w g Ff) := by
  obtain ⟨oc, od, kV, doc, pm, an, ct, osl, dV, rfl, lk, hcd⟩ := F.ex
  refine fn_of lk hcd S (fun vs H Q E ⟨m, S, ds, Q0, _, rs, h, _⟩ => by rw [← Paired.length rs]; exact len _ _ _ h) fun A outer s H vs Q E hr ⟨m, S, ds, Q0, R, rs, h, k⟩ => ?_
  obtain ⟨fb, hb, hq⟩ := hbody A outer s H E hr
  exact ⟨_, hb.nox, m, startD N ds, S, _, R, RSl.start rs, hq ds S Q0 h, fun σ S1 m1 H1 σv q L R1 _ => k.run _ _ _ _ _ q L R1 .none, fun d S1 m1 H1 v q L R1 rd => k.run _ _ _ _ _ q L R1 rd, fun _ _ _ _ _ q => q.elim, fun _ _ _ _ _ q => q.elim⟩
end
end L2.LL

/-! # LLOps -/
set_option Elab.async false
set_option linter.all false
set_option maxRecDepth 100000
set_option maxHeartbeats 2000000
namespace L2.LL
open PySem PySem.Spec PyProof.Rows

/-! ## data as the library's data -/
mutual
theorem eqv_data : ∀ a b : T, PyData.eqv a.data b.data = NestedKey.beq a b
  | .none, .none => rfl
  | .none, .num _ => rfl
  | .none, .text _ => rfl
  | .none, .tup _ => rfl
  | .num _, .none => rfl
  | .num a, .num b => by simp [NestedKey.data, PyData.eqv, NestedKey.beq, Bool.beq_eq_decide_eq]
  | .num _, .text _ => rfl
  | .num _, .tup _ => rfl
  | .text _, .none => rfl
  | .text _, .num _ => rfl
  | .text a, .text b => by simp [NestedKey.data, PyData.eqv, NestedKey.beq, Bool.beq_eq_decide_eq]
  | .text _, .tup _ => rfl
  | .tup _, .none => rfl
  | .tup _, .num _ => rfl
  | .tup _, .text _ => rfl
  | .tup a, .tup b => by rw [NestedKey.data, NestedKey.data, PyData.eqv, NestedKey.beq]; exact eqv_datas a b
theorem eqv_datas : ∀ a b : List T, PyData.eqvAll (NestedKey.datas a) (NestedKey.datas b) = NestedKey.beqAll a b
  | [], [] => rfl
  | [], _ :: _ => rfl
  | _ :: _, [] => rfl
  | a :: as, b :: bs => by rw [NestedKey.datas, NestedKey.datas, PyData.eqvAll, NestedKey.beqAll, eqv_data a b, eqv_datas as bs]
end
theorem eqv_dec (a b : T) : PyData.eqv a.data b.data = decide (a = b) := by rw [eqv_data, NestedKey.decide_eq]
theorem beqAll_dec (a b : List T) : NestedKey.beqAll a b = decide (a = b) := by
  have := NestedKey.decide_eq (.tup a) (.tup b)
  rw [NestedKey.beq] at this
  rw [← this]
  simp
mutual
theorem RT.dp {K : PySem.W.Frag} {H : Hp} : ∀ (t : T) (v : V), RT H t v → Dp K H v t.data
  | .none, _, h => by cases h; exact .non
  | .num i, _, h => by cases h; exact .int i
  | .text x, _, h => by cases h; exact .str x
  | .tup ts, _, h => by
    cases h with
    | tup h1 h2 => exact .tup (SqT.of h1) (RTs.dp ts _ h2)
theorem RTs.dp {K : PySem.W.Frag} {H : Hp} : ∀ (ts : List T) (vs : List V), RTs H ts vs → DpAll K H vs (NestedKey.datas ts)
  | [], _, h => by cases h; exact .nil
  | t :: ts, _, h => by
    cases h with
    | cons h1 h2 => exact .cons (RT.dp t _ h1) (RTs.dp ts _ h2)
end
/-- data that == may ask: not too deep, no odd texts -/
def Shal (t : T) : Prop := SeqAt.shaped t.data = true
def ShalL (ts : List T) : Prop := SeqAt.shaped (.list (NestedKey.datas ts)) = true
mutual
theorem depth_data : ∀ t : T, PyData.depth t.data = t.depth
  | .none => rfl
  | .num _ => rfl
  | .text _ => rfl
  | .tup ts => by rw [NestedKey.data, PyData.depth, NestedKey.depth, depth_datas ts]
theorem depth_datas : ∀ ts : List T, PyData.depthAll (NestedKey.datas ts) = NestedKey.depthAll ts
  | [] => rfl
  | t :: ts => by rw [NestedKey.datas, PyData.depthAll, NestedKey.depthAll, depth_data t, depth_datas ts]
end
mutual
/-- no text within -/
def noTx : T → Bool
  | .none => true
  | .num _ => true
  | .text _ => false
  | .tup ts => noTxs ts
def noTxs : List T → Bool
  | [] => true
  | t :: ts => noTx t && noTxs ts
end
mutual
theorem lay_data : ∀ t : T, noTx t = true → t.data.canLay0 = true
  | .none, _ => rfl
  | .num _, _ => rfl
  | .text _, h => by simp [noTx] at h
  | .tup ts, h => by rw [NestedKey.data, PyData.canLay0]; exact lay_datas ts (by simpa [noTx] using h)
theorem lay_datas : ∀ ts : List T, noTxs ts = true → PyData.canLayAll0 (NestedKey.datas ts) = true
  | [], _ => rfl
  | t :: ts, h => by
    simp only [noTxs, Bool.and_eq_true] at h
    rw [NestedKey.datas, PyData.canLayAll0, lay_data t h.1, lay_datas ts h.2]; rfl
end
theorem shal_of {t : T} (h : noTx t = true) (d : t.depth ≤ 60) : Shal t := by
  unfold Shal SeqAt.shaped
  rw [lay_data t h, depth_data]
  simp; omega
theorem shalL_of {ts : List T} (h : noTxs ts = true) (d : NestedKey.depthAll ts ≤ 60) : ShalL ts := by
  unfold ShalL SeqAt.shaped
  rw [PyData.canLay0, lay_datas ts h, PyData.depth, depth_datas]
  simp; omega
theorem shal_num (i : Int) : Shal (.num i) := rfl
theorem shal_none : Shal .none := rfl

/-! ## lists of data -/
theorem rds_dat {m : List Addr} {H : Hp} : ∀ {ts : List T} {vs : List V}, RDs m H (ts.map .dat) vs → RTs H ts vs
  | [], _, h => by cases h; exact .nil
  | t :: ts, _, h => by cases h with | cons a b => exact .cons a (rds_dat b)
theorem rds_of {m : List Addr} {H : Hp} : ∀ {ts : List T} {vs : List V}, RTs H ts vs → RDs m H (ts.map .dat) vs
  | [], _, h => by cases h; exact .nil
  | t :: ts, _, h => by cases h with | cons a b => exact .cons a (rds_of b)
theorem RDs.get {m : List Addr} {H : Hp} {ds : List D} {vs : List V} (h : RDs m H ds vs) {i : Nat} {d : D} (e : ds[i]? = some d) : ∃ v, vs[i]? = some v ∧ RD m H d v := by
  induction h generalizing i with
  | nil => simp at e
  | cons a _ ih =>
    cases i with
    | zero => simp at e; subst e; exact ⟨_, rfl, a⟩
    | succ i => obtain ⟨v, q, r⟩ := ih (by simpa using e); exact ⟨v, by simpa using q, r⟩
theorem RDs.set {m : List Addr} {H : Hp} {ds : List D} {vs : List V} (h : RDs m H ds vs) (i : Nat) {d : D} {v : V} (r : RD m H d v) : RDs m H (ds.set i d) (vs.set i v) := by
  induction h generalizing i with
  | nil => exact .nil
  | cons a b ih =>
    cases i with
    | zero => exact .cons r b
    | succ i => exact .cons a (ih i)

section
variable {K : PySem.W.Frag} {w : World} {g : Gp} {m : List Addr} {S : Sto} {H : Hp} {Q0 : DQ} {Q : VK}
/-- the end with a new tuple -/
theorem Kont.tup (k : Kont K w g m H Q0 Q) (R : RS K w g m S H) {ts : List T} {vs : List V} (q : Q0 (.dat (.tup ts)) S) (r : RTs H ts vs) {p : Addr} (hp : H p = none) : Q (.ref p) (upd H p (.tup vs)) :=
  k.run _ _ m _ _ q (le_new hp) (R.fresh hp) (.tup upd_same (RTs.mono (tle_new hp) _ _ r))
/-- the end with a new list that the store names -/
theorem Kont.lst (k : Kont K w g m H Q0 Q) (R : RS K w g m S H) {ds : List D} {vs : List V} (q : Q0 (.ref S.length) (S ++ [.lst ds])) (r : RDs m H ds vs) {p : Addr} (hp : H p = none) : Q (.ref p) (upd H p (.lst vs)) :=
  k.run _ _ (m ++ [p]) _ _ q (le_reg hp) (R.reg hp ⟨vs, upd_same, RDs.mono (le_reg hp) r⟩) ⟨p, by rw [← R.len]; simp, rfl⟩
theorem RS.lst (R : RS K w g m S H) {n : Nat} {ds : List D} (h : S[n]? = some (.lst ds)) {v : V} (r : RD m H (.ref n) v) : ∃ a vs, v = .ref a ∧ m[n]? = some a ∧ H a = some (.lst vs) ∧ RDs m H ds vs := by
  obtain ⟨a, ha, e⟩ := r
  obtain ⟨vs, h1, h2⟩ := R.obj n a _ ha h
  exact ⟨a, vs, e, ha, h1, h2⟩
end

/-! ## + -/
def opAdd : OD
  | .dat (.num i), .dat (.num j), S, Q => Q (.dat (.num (i + j))) S
  | .dat (.tup a), .dat (.tup b), S, Q => a.length + b.length ≤ 100000 ∧ Q (.dat (.tup (a ++ b))) S
  | .ref n, .ref k, S, Q => ∃ a b, S[n]? = some (.lst a) ∧ S[k]? = some (.lst b) ∧ a.length + b.length ≤ 100000 ∧ Q (.ref S.length) (S ++ [.lst (a ++ b)])
  | _, _, _, _ => False
theorem sz_le {n : Nat} (h : n ≤ 100000) : n ≤ sizeLine := Nat.le_trans h (by decide)
section
variable {g : Gp} {X : Cx}
theorem od_add : OpR X (binaryOp .Add) (rD X.K X.w g opAdd) := by
  intro pins s σ H x y v u Q I rx ry ⟨m, S, dx, dy, Q0, R, ax, ay, h, k⟩
  unfold opAdd at h
  split at h
  · cases ax; cases ay
    exact op_add pins s σ H _ _ v u Q I rx ry ⟨_, _, rfl, rfl, k.go h R (.num _)⟩
  · rename_i a b
    cases ax with
    | tup ha ra =>
      cases ay with
      | tup hb rb =>
        refine op_catA pins s σ H _ _ v u Q I rx ry ⟨_, _, _, _, rfl, rfl, SqT.of ha, SqT.of hb, by rw [← ra.length, ← rb.length]; exact sz_le (by omega), fun e => ?_, fun _ e => ?_, fun _ _ p hp => ?_⟩
        · subst e
          have : a = [] := by have := ra.length; simpa using this
          subst this
          exact k.go h.2 R (.tup hb (by simpa using rb))
        · subst e
          have : b = [] := by have := rb.length; simpa using this
          subst this
          exact k.go h.2 R (.tup ha (by simpa using ra))
        · exact k.tup R h.2 (ra.append rb) hp
  · obtain ⟨a, b, h1, h2, hz, h⟩ := h
    obtain ⟨p, vs, rfl, hm, hp, rp⟩ := R.lst h1 ax
    obtain ⟨q, ws, rfl, hm', hq, rq⟩ := R.lst h2 ay
    refine op_cat pins s σ H _ _ v u Q I rx ry ⟨_, _, _, _, rfl, rfl, hp, hq, by rw [← Paired.length rp, ← Paired.length rq]; exact sz_le hz, fun c hc => ?_⟩
    exact k.lst R h (Paired.app rp rq) hc
  · exact h.elim
def opSub : OD
  | .dat (.num i), .dat (.num j), S, Q => Q (.dat (.num (i - j))) S
  | _, _, _, _ => False
theorem od_sub : OpR X (binaryOp .Sub) (rD X.K X.w g opSub) := by
  intro pins s σ H x y v u Q I rx ry ⟨m, S, dx, dy, Q0, R, ax, ay, h, k⟩
  unfold opSub at h
  split at h
  · cases ax; cases ay
    exact op_sub pins s σ H _ _ v u Q I rx ry ⟨_, _, rfl, rfl, k.go h R (.num _)⟩
  · exact h.elim
/-- * of numbers (one of them small), a tuple, a list by a number -/
def opMul : OD
  | .dat (.num i), .dat (.num j), S, Q => CMul i j ∧ Q (.dat (.num (i * j))) S
  | .dat (.tup a), .dat (.num j), S, Q => a ≠ [] ∧ 1 ≤ j ∧ j ≤ 1000 ∧ a.length ≤ 1000 ∧ Q (.dat (.tup (List.replicate j.toNat a).flatten)) S
  | .ref n, .dat (.num j), S, Q => ∃ a, S[n]? = some (.lst a) ∧ 0 ≤ j ∧ a.length * j.toNat ≤ 100000 ∧ j ≤ 100000 ∧ Q (.ref S.length) (S ++ [.lst (List.replicate j.toNat a).flatten])
  | _, _, _, _ => False
theorem od_sub' : True := trivial
end
/-! ## order -/
def opCmp (p : Int → Int → Bool) : OD
  | .dat (.num i), .dat (.num j), S, Q => Q (.bl (p i j)) S
  | _, _, _, _ => False
section
variable {g : Gp} {X : Cx}
theorem od_cmp {op : CmpOp} {p : Int → Int → Bool} (h0 : OpR X (compareOp op) (rI0 fun i j => .bl (p i j))) : OpR X (compareOp op) (rD X.K X.w g (opCmp p)) := by
  intro pins s σ H x y v u Q I rx ry ⟨m, S, dx, dy, Q0, R, ax, ay, h, k⟩
  unfold opCmp at h
  split at h
  · cases ax; cases ay
    exact h0 pins s σ H _ _ v u Q I rx ry ⟨_, _, rfl, rfl, k.go h R rfl⟩
  · exact h.elim
abbrev opLt : OD := opCmp fun i j => decide (i < j)
abbrev opLe : OD := opCmp fun i j => decide (i ≤ j)
abbrev opGt : OD := opCmp fun i j => decide (j < i)
abbrev opGe : OD := opCmp fun i j => decide (j ≤ i)
theorem od_lt : OpR X (compareOp .Lt) (rD X.K X.w g opLt) := od_cmp op_lt
theorem od_le : OpR X (compareOp .LtE) (rD X.K X.w g opLe) := od_cmp op_le
theorem od_gt : OpR X (compareOp .Gt) (rD X.K X.w g opGt) := od_cmp op_gt
theorem od_ge : OpR X (compareOp .GtE) (rD X.K X.w g opGe) := od_cmp op_ge

/-! ## equality -/
def opEqB (neg : Bool) : OD
  | .dat a, .dat b, S, Q => Shal a ∧ Shal b ∧ Q (.bl (if neg then !decide (a = b) else decide (a = b))) S
  | .bl a, .bl b, S, Q => Q (.bl (if neg then !decide (a = b) else decide (a = b))) S
  | .ref n, .ref j, S, Q => ∃ a b, S[n]? = some (.lst (a.map .dat)) ∧ S[j]? = some (.lst (b.map .dat)) ∧ ShalL a ∧ ShalL b ∧ Q (.bl (if neg then !decide (a = b) else decide (a = b))) S
  | _, _, _, _ => False
theorem od_eqB {neg : Bool} (hu : X.A.units + 64 < cLine) : OpR X (compareOp (if neg then .NotEq else .Eq)) (rD X.K X.w g (opEqB neg)) := by
  have key : ∀ (pins : List (Addr × Obj)) (s : Shared) (σ : St) (H : Hp) (x y : V) (v u : Value) (Q : VK), Inv X pins σ H s → RelV x v → RelV y u →
      (∃ d e, Dp X.K H x d ∧ Dp X.K H y e ∧ SeqAt.shaped d = true ∧ SeqAt.shaped e = true ∧ Q (.bl (if neg then !PyData.eqv d e else PyData.eqv d e)) H) →
      wpAny (model X.prog X.w) X.A (compareOp (if neg then .NotEq else .Eq) v u) (EP X pins σ Q) X.xe s := by
    intro pins s σ H x y v u Q I rx ry ⟨d, e, h1, h2, h3, h4, h5⟩
    cases neg with
    | true => exact op_neD hu pins s σ H x y v u Q I rx ry ⟨d, e, h1, h2, h3, h4, h5⟩
    | false => exact op_eqD hu pins s σ H x y v u Q I rx ry ⟨d, e, h1, h2, h3, h4, h5⟩
  intro pins s σ H x y v u Q I rx ry ⟨m, S, dx, dy, Q0, R, ax, ay, h, k⟩
  unfold opEqB at h
  split at h
  · rename_i a b
    obtain ⟨h1, h2, h⟩ := h
    refine key pins s σ H x y v u Q I rx ry ⟨_, _, RT.dp _ _ ax, RT.dp _ _ ay, h1, h2, ?_⟩
    rw [eqv_dec]
    exact k.go h R rfl
  · rename_i a b
    cases (show x = .bl a from ax)
    cases (show y = .bl b from ay)
    refine key pins s σ H _ _ v u Q I rx ry ⟨_, _, .bl a, .bl b, rfl, rfl, ?_⟩
    have e : PyData.eqv (.bool a) (.bool b) = decide (a = b) := by cases a <;> cases b <;> rfl
    rw [e]
    exact k.go h R rfl
  · obtain ⟨a, b, h1, h2, h3, h4, h⟩ := h
    obtain ⟨p, vs, rfl, hm, hp, rp⟩ := R.lst h1 ax
    obtain ⟨q, ws, rfl, hm', hq, rq⟩ := R.lst h2 ay
    refine key pins s σ H _ _ v u Q I rx ry ⟨_, _, .lst (SqL.of hp) (RTs.dp _ _ (rds_dat rp)), .lst (SqL.of hq) (RTs.dp _ _ (rds_dat rq)), h3, h4, ?_⟩
    have e : PyData.eqv (.list (NestedKey.datas a)) (.list (NestedKey.datas b)) = decide (a = b) := by rw [PyData.eqv, eqv_datas, beqAll_dec]
    rw [e]
    exact k.go h R rfl
  · exact h.elim
abbrev opEq : OD := opEqB false
abbrev opNe : OD := opEqB true
theorem od_eq (hu : X.A.units + 64 < cLine) : OpR X (compareOp .Eq) (rD X.K X.w g opEq) := od_eqB (neg := false) hu
theorem od_ne (hu : X.A.units + 64 < cLine) : OpR X (compareOp .NotEq) (rD X.K X.w g opNe) := od_eqB (neg := true) hu

/-! ## is -/
def opIsB (neg : Bool) : OD
  | d, .dat .none, S, Q => Q (.bl (if neg then !decide (d = .dat .none) else decide (d = .dat .none))) S
  | .bl a, .bl b, S, Q => Q (.bl (if neg then !decide (a = b) else decide (a = b))) S
  | _, _, _, _ => False
theorem none_iff {m : List Addr} {H : Hp} {d : D} {v : V} (r : RD m H d v) (hd : ∀ u, d ≠ .raw u) : decide (v = .non) = decide (d = .dat .none) := by
  cases d with
  | bl b => cases (show v = .bl b from r); rfl
  | ref n => obtain ⟨a, _, rfl⟩ := r; rfl
  | raw u => exact absurd rfl (hd u)
  | dat t =>
    cases t with
    | none => cases r; rfl
    | num i => cases r; rfl
    | text x => cases r; rfl
    | tup ts => cases r; simp
end
end L2.LL

/-! # LLOpsB -/
set_option Elab.async false
set_option linter.all false
set_option maxRecDepth 100000
set_option maxHeartbeats 2000000
namespace L2.LL
open PySem PySem.Spec PyProof.Rows

theorem rts_rep {H : Hp} {ts : List T} {vs : List V} (r : RTs H ts vs) : ∀ k : Nat, RTs H (List.replicate k ts).flatten (List.replicate k vs).flatten
  | 0 => .nil
  | k + 1 => by
    rw [List.replicate_succ, List.replicate_succ, List.flatten_cons, List.flatten_cons]
    exact r.append (rts_rep r k)
theorem rds_rep {m : List Addr} {H : Hp} {ds : List D} {vs : List V} (r : RDs m H ds vs) : ∀ k : Nat, RDs m H (List.replicate k ds).flatten (List.replicate k vs).flatten
  | 0 => .nil
  | k + 1 => by
    rw [List.replicate_succ, List.replicate_succ, List.flatten_cons, List.flatten_cons]
    exact Paired.app r (rds_rep r k)
theorem RD.asInt {m : List Addr} {H : Hp} {i : Int} {v : V} (r : RD m H (.dat (.num i)) v) : v = .int i := by cases r; rfl
theorem RD.asTup {m : List Addr} {H : Hp} {ts : List T} {v : V} (r : RD m H (.dat (.tup ts)) v) : ∃ a vs, v = .ref a ∧ H a = some (.tup vs) ∧ RTs H ts vs := by
  cases r with
  | tup h1 h2 => exact ⟨_, _, rfl, h1, h2⟩
/-- a tuple once is itself -/
theorem tuple_once (l : Addr) (items : Array Value) (n : Nat) (dd : Option Addr) (sl : Array (Option Value)) (u : Tok) :
    Meets (Builtin.«tuple.__mul__» ⟨[.ref l, .int 1 u], []⟩) (fun _ R s => s.heap.get? l = some { cls := .type "tuple", dict := dd, data := .seq items n, slots := sl } ∧ R (.ok (.ret (Value.ref l))) s) :=
  .of_wp fun prog w A R s h => by
    obtain ⟨hp, g, d, tk, os⟩ := s
    obtain ⟨hl, h⟩ := h
    have f1 := AutoSeq1.idx_int
    have c1 : (items.isEmpty || (1 : Int) == 1) = true := by simp
    wp_walk using wpAny_loadPart' hl
    repeat (first
      | (refine wpAny_ite_false (by decide) ?_; wp_walk using wpAny_loadPart' hl)
      | (refine wpAny_ite_true (decide_eq_true c1) ?_; wp_walk using wpAny_loadPart' hl))
    exact ⟨_, rfl, h⟩
section
variable {g : Gp} {X : Cx}
theorem od_mul : OpR X (binaryOp .Mult) (rD X.K X.w g opMul) := by
  intro pins s σ H x y v u Q I rx ry ⟨m, S, dx, dy, Q0, R, ax, ay, h, k⟩
  unfold opMul at h
  split at h
  · cases ax; cases ay
    exact op_mul pins s σ H _ _ v u Q I rx ry ⟨_, _, rfl, rfl, h.1, k.go h.2 R (.num _)⟩
  · rename_i a j
    obtain ⟨hne, h1, h2, h3, h⟩ := h
    cases ay
    obtain ⟨p, vs, rfl, hp, rp⟩ := ax.asTup
    have hl := rp.length
    by_cases hj : j = 1
    · subst hj
      have e : (List.replicate (1 : Int).toNat a).flatten = a := by simp
      rw [e] at h
      cases rx
      obtain ⟨t, rfl⟩ := ry
      obtain ⟨its, r, pl, hs⟩ := I.tuple (SqT.of hp)
      obtain ⟨⟨cls, dd, data, sl⟩, ho, hc, n, hd⟩ := pl
      simp only at hc hd
      subst hc hd
      refine wpAny_binaryOp_repeat_ref (T := "tuple") (U := "int") (by decide) ⟨_, ho, rfl⟩ (fun s' => typeIs_int s' 1 t) noFill_tuple_mul F.fills_int_mul F.slot_int_rmul repeat_tuple F.slot_int_index.lookup
        (call_meets F.slot_int_rmul (typeIs_int s 1 t) F.entry_int_rmul (F.args_int_rmul_2 _ _) (int_rmul_tuple 1 t p its.toArray n dd sl)
          ⟨ho, rfl, ⟨_, ho, rfl⟩, call_meets F.slot_tuple_mul ⟨_, ho, rfl⟩ F.entry_tuple_mul (F.args_tuple_mul_2 _ _) (tuple_once p its.toArray n dd sl t) ⟨ho, ?_⟩⟩)
      exact ⟨.ref p, H, I, rfl, k.go h R (RT.tup hp rp)⟩
    · exact op_repT pins s σ H _ _ v u Q I rx ry ⟨p, j, vs, rfl, rfl, SqT.of hp, fun e => hne (by subst e; simpa using hl), by omega, h2, by omega, fun q hq => k.tup R h (rts_rep rp _) hq⟩
  · obtain ⟨a, h1, h2, h3, h4, h⟩ := h
    cases ay
    obtain ⟨p, vs, rfl, hm, hp, rp⟩ := R.lst h1 ax
    have hl := Paired.length rp
    exact op_rep pins s σ H _ _ v u Q I rx ry ⟨p, _, vs, rfl, rfl, hp, by omega, by omega, by rw [← hl]; exact sz_le h3, fun q hq => k.lst R h (rds_rep rp _) hq⟩
  · exact h.elim
/-- // and % by a positive number -/
def opFdiv : OD
  | .dat (.num i), .dat (.num j), S, Q => 0 < j ∧ j < 1000 ∧ Q (.dat (.num (i / j))) S
  | _, _, _, _ => False
def opMod : OD
  | .dat (.num i), .dat (.num j), S, Q => 0 < j ∧ Q (.dat (.num (i % j))) S
  | _, _, _, _ => False
def opPow : OD
  | .dat (.num i), .dat (.num j), S, Q => 0 ≤ j ∧ j ≤ 1000 ∧ i.natAbs < 2 ^ 64 ∧ Q (.dat (.num (i ^ j.toNat))) S
  | _, _, _, _ => False
def unNeg : D → Sto → DQ → Prop
  | .dat (.num i), S, Q => Q (.dat (.num (-i))) S
  | _, _, _ => False
theorem od_fdiv : OpR X (binaryOp .FloorDiv) (rD X.K X.w g opFdiv) := by
  intro pins s σ H x y v u Q I rx ry ⟨m, S, dx, dy, Q0, R, ax, ay, h, k⟩
  unfold opFdiv at h
  split at h
  · cases ax; cases ay
    exact op_fdiv pins s σ H _ _ v u Q I rx ry ⟨_, _, rfl, rfl, ⟨h.1, by have := h.2.1; omega⟩, k.go h.2.2 R (.num _)⟩
  · exact h.elim
theorem od_mod : OpR X (binaryOp .Mod) (rD X.K X.w g opMod) := by
  intro pins s σ H x y v u Q I rx ry ⟨m, S, dx, dy, Q0, R, ax, ay, h, k⟩
  unfold opMod at h
  split at h
  · cases ax; cases ay
    exact op_mod pins s σ H _ _ v u Q I rx ry ⟨_, _, rfl, rfl, h.1, k.go h.2 R (.num _)⟩
  · exact h.elim
theorem od_pow : OpR X (binaryOp .Pow) (rD X.K X.w g opPow) := by
  intro pins s σ H x y v u Q I rx ry ⟨m, S, dx, dy, Q0, R, ax, ay, h, k⟩
  unfold opPow at h
  split at h
  · cases ax; cases ay
    exact op_pow pins s σ H _ _ v u Q I rx ry ⟨_, _, rfl, rfl, ⟨h.1, by have := h.2.1; omega, h.2.2.1⟩, k.go h.2.2.2 R (.num _)⟩
  · exact h.elim
theorem ud_neg : UnR X (unaryOp .USub) (uD X.K X.w g unNeg) := by
  intro pins s σ H x v Q I rx ⟨m, S, dx, Q0, R, ax, h, k⟩
  unfold unNeg at h
  split at h
  · cases ax
    exact un_neg pins s σ H _ v Q I rx ⟨_, rfl, k.go h R (.num _)⟩
  · exact h.elim
/-! ## is -/
def notRaw : D → Bool
  | .raw _ => false
  | _ => true
def opIs (neg : Bool) : OD := fun a b S Q => match b with
  | .dat .none => notRaw a = true ∧ Q (.bl (if neg then !decide (a = .dat .none) else decide (a = .dat .none))) S
  | .bl y => ∃ x, a = .bl x ∧ Q (.bl (if neg then !decide (x = y) else decide (x = y))) S
  | _ => False
theorem od_isB {neg : Bool} : OpR X (compareOp (if neg then .IsNot else .Is)) (rD X.K X.w g (opIs neg)) := by
  intro pins s σ H x y v u Q I rx ry ⟨m, S, dx, dy, Q0, R, ax, ay, h, k⟩
  unfold opIs at h
  split at h
  · cases ay
    have e := none_iff ax (by intro u e; subst e; exact Bool.noConfusion h.1)
    cases neg with
    | true =>
      refine op_notN pins s σ H _ _ v u Q I rx ry ⟨rfl, ?_⟩
      rw [e]; exact k.go h.2 R rfl
    | false =>
      refine op_isN pins s σ H _ _ v u Q I rx ry ⟨rfl, ?_⟩
      rw [e]; exact k.go h.2 R rfl
  · obtain ⟨b, rfl, h⟩ := h
    cases (show x = .bl b from ax)
    rename_i y'
    cases (show y = .bl y' from ay)
    cases neg with
    | true => exact op_notBl pins s σ H _ _ v u Q I rx ry ⟨_, _, rfl, rfl, k.go h R rfl⟩
    | false => exact op_isBl pins s σ H _ _ v u Q I rx ry ⟨_, _, rfl, rfl, k.go h R rfl⟩
  · exact h.elim
theorem od_is : OpR X (compareOp .Is) (rD X.K X.w g (opIs false)) := od_isB (neg := false)
theorem od_isnot : OpR X (compareOp .IsNot) (rD X.K X.w g (opIs true)) := od_isB (neg := true)
/-! ## in a list or tuple of data -/
def opInB (neg : Bool) : OD
  | .dat a, .dat (.tup ts), S, Q => Shal a ∧ noTxs ts = true ∧ Q (.bl (if neg then !decide (a ∈ ts) else decide (a ∈ ts))) S
  | .dat a, .ref n, S, Q => ∃ ts, S[n]? = some (.lst (ts.map .dat)) ∧ Shal a ∧ noTxs ts = true ∧ Q (.bl (if neg then !decide (a ∈ ts) else decide (a ∈ ts))) S
  | _, _, _, _ => False
theorem any_eqv (a : T) : ∀ ts : List T, ((NestedKey.datas ts).any fun z => PyData.eqv z a.data) = decide (a ∈ ts)
  | [] => by simp [NestedKey.datas]
  | t :: ts => by
    rw [NestedKey.datas, List.any_cons, eqv_dec, any_eqv a ts]
    by_cases e : t = a
    · subst e; simp
    · have e' : ¬ a = t := fun z => e z.symm
      simp [e, e', List.mem_cons]
theorem od_inB {neg : Bool} (hu : X.A.units + 65 < cLine) : OpR X (compareOp (if neg then .NotIn else .In)) (rD X.K X.w g (opInB neg)) := by
  have key : ∀ (pins : List (Addr × Obj)) (s : Shared) (σ : St) (H : Hp) (x y : V) (v u : Value) (Q : VK) (a : T) (ts : List T), Inv X pins σ H s → RelV x v → RelV y u → RT H a x → Shal a → noTxs ts = true →
      (Dp X.K H y (.list (NestedKey.datas ts)) ∨ Dp X.K H y (.tuple (NestedKey.datas ts))) → Q (.bl (if neg then !decide (a ∈ ts) else decide (a ∈ ts))) H →
      wpAny (model X.prog X.w) X.A (compareOp (if neg then .NotIn else .In) v u) (EP X pins σ Q) X.xe s := by
    intro pins s σ H x y v u Q a ts I rx ry ax h1 h2 hy q
    obtain ⟨bs, r2⟩ := Dp.reads I _ x v (RT.dp _ _ ax) rx
    have e := any_eqv a ts
    have c2 := lay_datas ts h2
    have c1 := SeqAt.canLay_of_shaped h1
    have room : X.A.units + 1 + min (PyData.depthAll (NestedKey.datas ts)) a.data.depth < cLine := by
      have := room_in_shaped (xs := NestedKey.datas ts) h1 hu
      exact this
    rcases hy with hy | hy
    · obtain ⟨as, r1⟩ := Dp.reads I _ y u hy ry
      cases neg with
      | true => exact SeqAt.notIn_list_reads r1 r2 c2 c1 room ⟨.bl _, H, I, rfl, by rw [e]; exact q⟩
      | false => exact SeqAt.in_list_reads r1 r2 c2 c1 room ⟨.bl _, H, I, rfl, by rw [e]; exact q⟩
    · obtain ⟨as, r1⟩ := Dp.reads I _ y u hy ry
      cases neg with
      | true => exact SeqAt.notIn_tuple_reads r1 r2 c2 c1 room ⟨.bl _, H, I, rfl, by rw [e]; exact q⟩
      | false => exact SeqAt.in_tuple_reads r1 r2 c2 c1 room ⟨.bl _, H, I, rfl, by rw [e]; exact q⟩
  intro pins s σ H x y v u Q I rx ry ⟨m, S, dx, dy, Q0, R, ax, ay, h, k⟩
  unfold opInB at h
  split at h
  · obtain ⟨h1, h2, h⟩ := h
    exact key pins s σ H x y v u Q _ _ I rx ry ax h1 h2 (.inr (RT.dp _ _ ay)) (k.go h R rfl)
  · obtain ⟨ts, h0, h1, h2, h⟩ := h
    obtain ⟨p, vs, rfl, hm, hp, rp⟩ := R.lst h0 ay
    exact key pins s σ H x _ v u Q _ _ I rx ry ax h1 h2 (.inl (.lst (SqL.of hp) (RTs.dp _ _ (rds_dat rp)))) (k.go h R rfl)
  · exact h.elim
theorem od_in (hu : X.A.units + 65 < cLine) : OpR X (compareOp .In) (rD X.K X.w g (opInB false)) := od_inB (neg := false) hu
theorem od_notin (hu : X.A.units + 65 < cLine) : OpR X (compareOp .NotIn) (rD X.K X.w g (opInB true)) := od_inB (neg := true) hu

/-! ## [ ] -/
/-- a place of a tuple, of a list, of the script -/
def opIx (g : Gp) : OD
  | .dat (.tup ts), .dat (.num i), S, Q => ∃ t, atI ts i = some t ∧ Q (.dat t) S
  | .ref n, .dat (.num i), S, Q => ∃ ds d, S[n]? = some (.lst ds) ∧ atI ds i = some d ∧ Q d S
  | .raw v, .dat (.num i), S, Q => v = .ref g.sa ∧ ∃ k, atI g.ns i = some k ∧ Q (.dat (.num k)) S
  | _, _, _, _ => False
theorem atI_to {α β : Type} {F : α → β → Prop} {l : List α} {r : List β} {i : Int} {a : α} (hl : l.length = r.length) (hg : ∀ j : Nat, l[j]? = some a → ∃ b, r[j]? = some b ∧ F a b) (h : atI l i = some a) : ∃ b, atI r i = some b ∧ F a b := by
  unfold atI at h ⊢
  rw [← hl]
  cases e : ixN l.length i with
  | none => rw [e] at h; cases h
  | some j => rw [e] at h; exact hg j h
theorem de_ix {a b : Expr} {pos : Pos} {fa fb : ED} (ha : DE g X a fa) (hb : DE g X b fb) (hs : PlainIx b) : DE g X (.Subscript a b pos) (dOp (opIx g) fa fb) := by
  refine (pe_ix (r := rD X.K X.w g (opIx g)) ?_ ha hb hs).imp tOp_of
  intro value slice pins s σ H x y v u Q I rx ry ⟨m, S, dx, dy, Q0, R, ax, ay, h, k⟩ hsub
  unfold opIx at h
  split at h
  · obtain ⟨t, h1, h⟩ := h
    cases ay
    obtain ⟨p, vs, rfl, hp, rp⟩ := ax.asTup
    obtain ⟨z, e, rz⟩ := atI_to (F := RT H) rp.length (fun j => rp.get) h1
    exact ix_seq value slice pins s σ H _ _ v u Q I rx ry (.inr (.inl ⟨p, vs, _, z, rfl, rfl, SqT.of hp, e, k.go h R rz⟩)) hsub
  · obtain ⟨ds, d, h0, h1, h⟩ := h
    cases ay
    obtain ⟨p, vs, rfl, hm, hp, rp⟩ := R.lst h0 ax
    obtain ⟨z, e, rz⟩ := atI_to (F := RD m H) (Paired.length rp) (fun j => RDs.get rp) h1
    exact ix_seq value slice pins s σ H _ _ v u Q I rx ry (.inl ⟨p, vs, _, z, rfl, rfl, SqL.of hp, e, k.go h R rz⟩) hsub
  · rename_i v' i
    obtain ⟨rfl, n, h1, h⟩ := h
    cases ay
    cases (show x = .ref g.sa from ax)
    obtain ⟨z, e, rz⟩ := atI_to (r := g.ns.map V.int) (F := fun k v => v = V.int k) (by simp) (fun j hj => ⟨.int n, by simp [hj], rfl⟩) h1
    subst rz
    exact ix_seq value slice pins s σ H _ _ v u Q I rx ry (.inl ⟨g.sa, _, _, _, rfl, rfl, R.sc.sq, e, k.go h R (.num n)⟩) hsub
  · exact h.elim
end
/-- the items of xs[lo:hi] -/
def cutA {α : Type} (xs : List α) (lo hi : Option Int) : List α := (xs.drop (HT.sIx xs.length 0 lo)).take (HT.sIx xs.length xs.length hi - HT.sIx xs.length 0 lo)
theorem RTs.cut {H : Hp} {ts : List T} {vs : List V} (r : RTs H ts vs) (lo hi : Option Int) : RTs H (cutA ts lo hi) (cutV vs lo hi) := by
  unfold cutA cutV
  rw [r.length]
  exact (r.drop _).take _
theorem cut_all {α : Type} (xs : List α) {lo hi : Option Int} (h : HT.sIx xs.length 0 lo = 0 ∧ HT.sIx xs.length xs.length hi = xs.length) : cutA xs lo hi = xs := by
  unfold cutA
  rw [h.1, h.2]; simp
/-- a bound that stands, or none -/
abbrev OB := SD → Sto → (Option Int → Sto → Prop) → Prop
def oNo : OB := fun _ S Q => Q none S
def oAt (f : ED) : OB := fun σ S Q => f σ S fun d S' => match d with
  | .dat (.num i) => Q (some i) S'
  | _ => False
def tB (K : PySem.W.Frag) (w : World) (g : Gp) (f : OB) : TO := fun σv H Q => ∃ m σ S Q0, RS K w g m S H ∧ RSl m H σ σv ∧ f σ S Q0 ∧ ∀ b S' m' H', Q0 b S' → Le m H m' H' → RS K w g m' S' H' → Q b H'
def dCut (fa : ED) (fl fh : OB) : ED := fun σ S Q => fa σ S fun x S1 => fl σ S1 fun l S2 => fh σ S2 fun h S3 => match x with
  | .dat (.tup ts) => Q (.dat (.tup (cutA ts l h))) S3
  | _ => False
section
variable {g : Gp} {X : Cx} {e : Expr} {lo hi : Option Expr} {fa : ED} {fl fh : OB} {pos p2 : Pos}
theorem _root_.L2.PO.imp {X : Cx} {e : Option Expr} {t t' : TO} (h : PO X e t) (i : ∀ σ H Q, t' σ H Q → t σ H Q) : PO X e t' := ⟨fun pins s σ H Q I q => h.run pins s σ H Q I (i _ _ _ q)⟩
abbrev DO (g : Gp) (X : Cx) (e : Option Expr) (f : OB) : Prop := PO X e (tB X.K X.w g f)
theorem do_none : DO g X none oNo := po_none.imp fun σv H Q ⟨m, σ, S, Q0, R, Rl, h, k⟩ => k _ _ _ _ h Le.rfl R
theorem do_some (ha : DE g X e fa) : DO g X (some e) (oAt fa) := (po_some ha).imp fun σv H Q ⟨m, σ, S, Q0, R, Rl, h, k⟩ => ⟨m, σ, S, _, R, Rl, h, ⟨fun d S1 m1 H1 v q L R1 rd => by
  unfold oAt at h
  split at q
  · cases rd; exact ⟨_, rfl, k _ _ _ _ q L R1⟩
  · exact q.elim⟩⟩
def rCut (K : PySem.W.Frag) (w : World) (g : Gp) : V → Option Int → Option Int → Hp → VK → Prop := fun x l h H Q => ∃ m S ts Q0, RS K w g m S H ∧ RD m H (.dat (.tup ts)) x ∧ Q0 (.dat (.tup (cutA ts l h))) S ∧ Kont K w g m H Q0 Q
theorem sl_cut : SlR X (rCut X.K X.w g) := by
  intro pins s σ H x v vl vu lo hi sl Q I rx hs pl pu ⟨m, S, ts, Q0, R, ax, q, k⟩
  obtain ⟨p, vs, rfl, hp, rp⟩ := ax.asTup
  refine sl_tupA pins s σ H _ v vl vu lo hi sl Q I rx hs pl pu ⟨p, vs, rfl, SqT.of hp, fun hw => ?_, fun _ q' hq => ?_⟩
  · rw [← rp.length] at hw
    rw [cut_all ts hw] at q
    exact k.go q R (RT.tup hp rp)
  · exact k.tup R q (rp.cut lo hi) hq
theorem de_cut (ha : DE g X e fa) (hl : DO g X lo fl) (hh : DO g X hi fh) : DE g X (.Subscript e (.Slice lo hi none p2) pos) (dCut fa fl fh) :=
  (pe_slice sl_cut ha hl hh).imp fun σv H Q ⟨m, σ, S, Q0, R, Rl, h, k⟩ => ⟨m, σ, S, _, R, Rl, h, ⟨fun d S1 m1 H1 v q1 L1 R1 rd => ⟨m1, σ, S1, _, R1, Rl.mono L1, q1, fun l S2 m2 H2 q2 L2 R2 =>
    ⟨m2, σ, S2, _, R2, Rl.mono (L1.trans L2), q2, fun u S3 m3 H3 q3 L3 R3 => by
      split at q3
      · exact ⟨m3, S3, _, Q0, R3, (RD.mono (L2.trans L3) rd), q3, k.le ((L1.trans L2).trans L3)⟩
      · exact q3.elim⟩⟩⟩⟩
end
end L2.LL

/-! # LLCalls -/
set_option Elab.async false
set_option linter.all false
set_option maxRecDepth 100000
set_option maxHeartbeats 2000000
namespace L2.LL
open PySem PySem.Spec PyProof.Rows

/-! ## displays -/
def allDat : List D → Option (List T)
  | [] => some []
  | .dat t :: r => (allDat r).map (t :: ·)
  | _ => none
theorem rts_all {m : List Addr} {H : Hp} : ∀ {ds : List D} {vs : List V} {ts : List T}, allDat ds = some ts → RDs m H ds vs → RTs H ts vs
  | [], _, _, e, r => by cases r; simp [allDat] at e; subst e; exact .nil
  | d :: ds, _, ts, e, r => by
    cases r with
    | cons a b =>
      cases d with
      | dat t =>
        simp only [allDat, Option.map_eq_some_iff] at e
        obtain ⟨us, e1, rfl⟩ := e
        exact .cons a (rts_all e1 b)
      | _ => simp [allDat] at e
def dTup (fa : AD) : ED := fun σ S Q => fa σ S fun ds S1 => ∃ ts, allDat ds = some ts ∧ ts.length ≤ 1000 ∧ Q (.dat (.tup ts)) S1
def dLst (fa : AD) : ED := fun σ S Q => fa σ S fun ds S1 => ds.length ≤ 1000 ∧ Q (.ref S1.length) (S1 ++ [.lst ds])
section
variable {g : Gp} {X : Cx} {es : List Expr} {fa : AD} {pos : Pos}
theorem de_tup {x1} (ha : DA g X es fa) : DE g X (.Tuple es x1 pos) (dTup fa) := (pe_tup ha).imp fun σv H Q ⟨m, σ, S, Q0, R, Rl, h, k⟩ => ⟨m, σ, S, _, R, Rl, h, fun ds S1 m1 H1 vs ⟨ts, e, hz, q⟩ L1 R1 rs => by
  have r := rts_all e rs
  exact ⟨by rw [← r.length]; exact sz_le (by omega), fun p hp => (k.le L1).tup R1 q r hp⟩⟩
theorem de_lst (ha : DA g X es fa) : DE g X (.List es pos) (dLst fa) := (pe_lst ha).imp fun σv H Q ⟨m, σ, S, Q0, R, Rl, h, k⟩ => ⟨m, σ, S, _, R, Rl, h, fun ds S1 m1 H1 vs ⟨hz, q⟩ L1 R1 rs =>
  ⟨by rw [← Paired.length rs]; exact sz_le (by omega), fun p hp => (k.le L1).lst R1 q rs hp⟩⟩
end

/-! ## calls of built-ins -/
def cD (K : PySem.W.Frag) (w : World) (g : Gp) (F : FD) : List V → Hp → VK → Prop := fun vs H Q => ∃ m S ds Q0, RS K w g m S H ∧ RDs m H ds vs ∧ F ds S Q0 ∧ Kont K w g m H Q0 Q
theorem tCB_of {K : PySem.W.Frag} {w : World} {g : Gp} {F : FD} {fa : AD} : ∀ σv H Q, tD K w g (dCall F fa) σv H Q → tCB (cD K w g F) (tA K w g fa) σv H Q := fun σv H Q ⟨m, σ, S, Q0, R, Rl, h, k⟩ =>
  ⟨m, σ, S, _, R, Rl, h, fun ds S1 m1 H1 vs q L1 R1 rs => ⟨m1, S1, ds, Q0, R1, rs, q, k.le L1⟩⟩
section
variable {g : Gp} {X : Cx} {x : Str} {p pos : Pos} {e : Expr} {es : List Expr} {fa : AD} {F : FD} {id : String}
theorem de_callB (hc : CallR X (.builtin id) (cD X.K X.w g F)) (hg : Gl X x) (hm : X.mg x = none) (hv : bootBuiltins x = some (.builtin id)) (ha : DA g X (e :: es) fa) (hn : x ≠ "__name__" := by decide) (hdb : (x == ("__debug__" : Str)) = false := by decide)
    (he : starEach (e :: es) X.env = (false, eval e X.env) :: starEach es X.env := by rfl) (hpl : (backTo pos (starEach es X.env)).any (·.1) = false := by rfl) : DE g X (.Call (.Name x p) (e :: es) [] pos) (dCall F fa) :=
  (pe_callB hc hg hm hv ha hn hdb he hpl).imp tCB_of
theorem de_callTy (hc : CallR X (.type id) (cD X.K X.w g F)) (hg : Gl X x) (hm : X.mg x = none) (hv : bootBuiltins x = some (.type id)) (ha : DA g X (e :: es) fa) (hn : x ≠ "__name__" := by decide) (hdb : (x == ("__debug__" : Str)) = false := by decide)
    (he : starEach (e :: es) X.env = (false, eval e X.env) :: starEach es X.env := by rfl) (hpl : (backTo pos (starEach es X.env)).any (·.1) = false := by rfl) : DE g X (.Call (.Name x p) (e :: es) [] pos) (dCall F fa) :=
  (pe_callTy hc hg hm hv ha hn hdb he hpl).imp tCB_of
/-- a name of a built-in type -/
theorem de_ty {n : String} (hg : Gl X x) (hm : X.mg x = none) (hv : bootBuiltins x = some (.type n)) (hn : x ≠ "__name__" := by decide) (hd : (x == ("__debug__" : Str)) = false := by decide) : DE g X (.Name x pos) (dC (.raw (.ty n))) :=
  (pe_bltn (v := .ty n) hg hm hv rfl hn hd).imp (tC_of fun _ _ => rfl)
/-- a class of the text -/
theorem de_cls {C : Addr} (hg : Gl X x) (hm : X.mg x = some (.ref C)) (hd : (x == ("__debug__" : Str)) = false := by decide) : DE g X (.Name x pos) (dC (.raw (.ref C))) :=
  (pe_glob (v := .ref C) hg hm rfl hd).imp (tC_of fun _ _ => rfl)
end
/-- len of a tuple, a list, the script -/
def fLen (g : Gp) : FD := fun ds S Q => match ds with
  | [.dat (.tup ts)] => Q (.dat (.num ts.length)) S
  | [.ref n] => ∃ l, S[n]? = some (.lst l) ∧ Q (.dat (.num l.length)) S
  | [.raw v] => v = .ref g.sa ∧ Q (.dat (.num g.ns.length)) S
  | _ => False
/-- the type of a datum -/
def tyT : T → String
  | .none => "NoneType"
  | .num _ => "int"
  | .text _ => "str"
  | .tup _ => "tuple"
def tyD : D → Option String
  | .bl _ => some "bool"
  | .dat t => some (tyT t)
  | _ => none
/-- isinstance(x, T) of data -/
def fIsi : FD := fun ds S Q => match ds with
  | [x, .raw (.ty n)] => ∃ t b, tyD x = some t ∧ kitB t n = some b ∧ Q (.bl b) S
  | _ => False
def numsD (ds : List D) (ns : List Int) : Prop := ds = ns.map fun i => .dat (.num i)
def fMax : FD := fun ds S Q => match ds with
  | [.ref n] => ∃ ns : List Int, S[n]? = some (.lst (ns.map fun i => .dat (.num i))) ∧ 0 < ns.length ∧ ∀ m, m ∈ ns → (∀ y, y ∈ ns → y ≤ m) → Q (.dat (.num m)) S
  | _ => False
def fInt : FD := fun ds S Q => match ds with
  | [.dat (.num i)] => Q (.dat (.num i)) S
  | _ => False
def fTupleOf : FD := fun ds S Q => match ds with
  | [.ref n] => ∃ ts, S[n]? = some (.lst (ts.map .dat)) ∧ Q (.dat (.tup ts)) S
  | _ => False
def fListOf : FD := fun ds S Q => match ds with
  | [.dat (.tup ts)] => Q (.ref S.length) (S ++ [.lst (ts.map .dat)])
  | _ => False
theorem one_rd {m : List Addr} {H : Hp} {d : D} {vs : List V} (r : RDs m H [d] vs) : ∃ v, vs = [v] ∧ RD m H d v := by
  cases r with
  | cons a b => cases b; exact ⟨_, rfl, a⟩
theorem two_rd {m : List Addr} {H : Hp} {d e : D} {vs : List V} (r : RDs m H [d, e] vs) : ∃ v u, vs = [v, u] ∧ RD m H d v ∧ RD m H e u := by
  cases r with
  | cons a b => obtain ⟨u, rfl, r2⟩ := one_rd b; exact ⟨_, u, rfl, a, r2⟩
theorem rds_nums {m : List Addr} {H : Hp} : ∀ {ns : List Int} {vs : List V}, RDs m H (ns.map fun i => .dat (.num i)) vs → vs = ns.map V.int
  | [], _, r => by cases r; rfl
  | n :: ns, _, r => by
    cases r with
    | cons a b => rw [RD.asInt a, rds_nums b]; rfl
section
variable {g : Gp} {X : Cx}
theorem cr_len : CallR X (.builtin "len") (cD X.K X.w g (fLen g)) := by
  intro pins s σ H xs us Q I r ⟨m, S, ds, Q0, R, rs, h, k⟩
  unfold fLen at h
  split at h
  · obtain ⟨v, rfl, rv⟩ := one_rd rs
    obtain ⟨p, vs, rfl, hp, rp⟩ := rv.asTup
    exact call_len_seq pins s σ H _ us Q I r ⟨p, vs, rfl, .inr (SqT.of hp), by rw [← rp.length]; exact k.go h R (.num _)⟩
  · obtain ⟨l, h0, h⟩ := h
    obtain ⟨v, rfl, rv⟩ := one_rd rs
    obtain ⟨p, vs, rfl, hm, hp, rp⟩ := R.lst h0 rv
    exact call_len_seq pins s σ H _ us Q I r ⟨p, vs, rfl, .inl (SqL.of hp), by rw [← Paired.length rp]; exact k.go h R (.num _)⟩
  · obtain ⟨rfl, h⟩ := h
    obtain ⟨v, rfl, rv⟩ := one_rd rs
    cases (show v = .ref g.sa from rv)
    exact call_len_seq pins s σ H _ us Q I r ⟨g.sa, _, rfl, .inl R.sc.sq, by rw [List.length_map]; exact k.go h R (.num _)⟩
  · exact h.elim
theorem tyx_of {m : List Addr} {H : Hp} {d : D} {v : V} {t : String} (r : RD m H d v) (e : tyD d = some t) : TyX X.K H v (.type t) := by
  cases d with
  | bl b => cases (show v = .bl b from r); cases e; exact .base (.bl b)
  | ref n => cases e
  | raw u => cases e
  | dat u =>
    cases u with
    | none => cases r; cases e; exact .base .non
    | num i => cases r; cases e; exact .base (.int i)
    | text x => cases r; cases e; exact .base (.str x)
    | tup ts => obtain ⟨a, vs, rfl, ha, _⟩ := RD.asTup r; cases e; exact .base (.tup ha)
theorem cr_isi : CallR X (.builtin "isinstance") (cD X.K X.w g fIsi) := by
  intro pins s σ H xs us Q I r ⟨m, S, ds, Q0, R, rs, h, k⟩
  unfold fIsi at h
  split at h
  · obtain ⟨t, b, h1, h2, h⟩ := h
    obtain ⟨v, u, rfl, rv, ru⟩ := two_rd rs
    rename_i n
    cases (show u = .ty n from ru)
    exact call_isi pins s σ H _ us Q I r ⟨v, .ty n, .type t, .type n, b, rfl, .ty n, tyx_of rv h1, kit_ty h2, k.go h R rfl⟩
  · exact h.elim
theorem cr_maxD' (hc : X.calm = true) : CallR X (.builtin "max") (cD X.K X.w g fMax) := by
  intro pins s σ H xs us Q I r ⟨m, S, ds, Q0, R, rs, h, k⟩
  unfold fMax at h
  split at h
  · obtain ⟨ns, h0, h1, h⟩ := h
    obtain ⟨v, rfl, rv⟩ := one_rd rs
    obtain ⟨p, vs, rfl, hm, hp, rp⟩ := R.lst h0 rv
    have e := rds_nums rp
    subst e
    exact cr_max hc pins s σ H _ us Q I r ⟨p, ns, rfl, SqL.of hp, h1, fun M h2 h3 => k.go (h M h2 h3) R (.num _)⟩
  · exact h.elim
theorem cr_int : CallR X (.type "int") (cD X.K X.w g fInt) := by
  intro pins s σ H xs us Q I r ⟨m, S, ds, Q0, R, rs, h, k⟩
  unfold fInt at h
  split at h
  · obtain ⟨v, rfl, rv⟩ := one_rd rs
    cases rv
    exact call_int1 pins s σ H _ us Q I r (.inl ⟨_, rfl, k.go h R (.num _)⟩)
  · exact h.elim
theorem cr_tupleOf : CallR X (.type "tuple") (cD X.K X.w g fTupleOf) := by
  intro pins s σ H xs us Q I r ⟨m, S, ds, Q0, R, rs, h, k⟩
  unfold fTupleOf at h
  split at h
  · obtain ⟨ts, h0, h⟩ := h
    obtain ⟨v, rfl, rv⟩ := one_rd rs
    obtain ⟨p, vs, rfl, hm, hp, rp⟩ := R.lst h0 rv
    exact call_tuple_of pins s σ H _ us Q I r ⟨p, vs, rfl, .inl ⟨SqL.of hp, fun q hq => k.tup R h (rds_dat rp) hq⟩⟩
  · exact h.elim
theorem cr_listOf : CallR X (.type "list") (cD X.K X.w g fListOf) := by
  intro pins s σ H xs us Q I r ⟨m, S, ds, Q0, R, rs, h, k⟩
  unfold fListOf at h
  split at h
  · obtain ⟨v, rfl, rv⟩ := one_rd rs
    obtain ⟨p, vs, rfl, hp, rp⟩ := rv.asTup
    exact call_list_of pins s σ H _ us Q I r ⟨p, vs, rfl, .inr (SqT.of hp), fun q hq => k.lst R h (rds_of rp) hq⟩
  · exact h.elim
end

/-! ## range -/
abbrev RgD := SD → Sto → (Int → Int → Sto → Prop) → Prop
def rg1 (f : ED) : RgD := fun σ S Q => f σ S fun d S1 => match d with
  | .dat (.num n) => Q 0 n S1
  | _ => False
def rg2 (fa fb : ED) : RgD := fun σ S Q => fa σ S fun d S1 => fb σ S1 fun e S2 => match d, e with
  | .dat (.num i), .dat (.num j) => Q i j S2
  | _, _ => False
def tRg (K : PySem.W.Frag) (w : World) (g : Gp) (f : RgD) : St → Hp → (Int → Int → Hp → Prop) → Prop := fun σv H Q => ∃ m σ S Q0, RS K w g m S H ∧ RSl m H σ σv ∧ f σ S Q0 ∧ ∀ i j S' m' H', Q0 i j S' → Le m H m' H' → RS K w g m' S' H' → Q i j H'
abbrev DRg (g : Gp) (X : Cx) (e : Expr) (f : RgD) : Prop := PRg X e (tRg X.K X.w g f)
/-- the whole numbers a .. b - 1 -/
def rgT (a b : Int) : List T := (List.range (b - a).toNat).map fun i => .num (a + (i : Nat))
theorem rts_rg {H : Hp} {a b : Int} : RTs H (rgT a b) (rgV a b) := by
  unfold rgT rgV
  generalize (List.range (b - a).toNat) = l
  induction l with
  | nil => exact .nil
  | cons n l ih => exact .cons (.num _) ih
def smallRg (a b : Int) : Prop := -1000 ≤ a ∧ b ≤ 1000 ∧ a ≤ 1000 ∧ -1000 ≤ b
theorem smallRg.ok {a b : Int} (h : smallRg a b) : RgOk a b := by
  unfold smallRg at h
  refine ⟨by omega, by omega, by omega, by omega, by omega⟩
def dTupRg (f : RgD) : ED := fun σ S Q => f σ S fun i j S1 => smallRg i j ∧ Q (.dat (.tup (rgT i j))) S1
section
variable {g : Gp} {X : Cx} {a b e : Expr} {fa fb : ED} {fr : RgD} {p pos : Pos}
theorem drg_1 (hg : Gl X "range") (hm : X.mg "range" = none) (ha : DE g X a fa) (na : starEach [a] X.env = (false, eval a X.env) :: starEach [] X.env := by rfl) : DRg g X (.Call (.Name "range" p) [a] [] pos) (rg1 fa) :=
  fun pins s σv H Q I ⟨m, σ, S, Q0, R, Rl, h, k⟩ => prg_1 hg hm ha na pins s σv H Q I ⟨m, σ, S, _, R, Rl, h, ⟨fun d S1 m1 H1 v q L1 R1 rd => by
    split at q
    · cases rd; exact ⟨_, rfl, k _ _ _ _ _ q L1 R1⟩
    · exact q.elim⟩⟩
theorem drg_2 (hg : Gl X "range") (hm : X.mg "range" = none) (ha : DE g X a fa) (hb : DE g X b fb) (na : starEach [a, b] X.env = (false, eval a X.env) :: starEach [b] X.env := by rfl)
    (nb : starEach [b] X.env = (false, eval b X.env) :: starEach [] X.env := by rfl) (hp : (backTo pos (starEach [b] X.env)).any (·.1) = false := by rfl) : DRg g X (.Call (.Name "range" p) [a, b] [] pos) (rg2 fa fb) :=
  fun pins s σv H Q I ⟨m, σ, S, Q0, R, Rl, h, k⟩ => prg_2 hg hm ha hb na nb hp pins s σv H Q I ⟨m, σ, S, _, R, Rl, h, ⟨fun d S1 m1 H1 v q L1 R1 rd => ⟨m1, σ, S1, _, R1, Rl.mono L1, q, ⟨fun d2 S2 m2 H2 v2 q2 L2 R2 rd2 => by
    split at q2
    · cases rd; cases rd2; exact ⟨_, _, rfl, rfl, k _ _ _ _ _ q2 (L1.trans L2) R2⟩
    · exact q2.elim⟩⟩⟩⟩
theorem de_tupRg (hc : X.calm = true) (hg : Gl X "tuple") (hm : X.mg "tuple" = none) (he : DRg g X e fr) (na : starEach [e] X.env = (false, eval e X.env) :: starEach [] X.env := by rfl) : DE g X (.Call (.Name "tuple" p) [e] [] pos) (dTupRg fr) :=
  (pe_tupRg hc hg hm he na).imp fun σv H Q ⟨m, σ, S, Q0, R, Rl, h, k⟩ => ⟨m, σ, S, _, R, Rl, h, fun i j S1 m1 H1 ⟨hs, q⟩ L1 R1 => ⟨hs.ok, fun p hp => (k.le L1).tup R1 q rts_rg hp⟩⟩
end

/-! ## methods of lists -/
section
variable {g : Gp} {X : Cx} {o e : Expr} {fo fa : ED} {apos cpos : Pos}
def dAppend (fo fa : ED) : ED := fun σ S Q => fo σ S fun x S1 => ∃ n, x = .ref n ∧ (∃ ds, S1[n]? = some (.lst ds)) ∧ fa σ S1 fun y S2 => ∃ ds, S2[n]? = some (.lst ds) ∧ ds.length < 100000 ∧ Q (.dat .none) (S2.set n (.lst (ds ++ [y])))
def dPop (fo : ED) : ED := fun σ S Q => fo σ S fun x S1 => ∃ n ds d, x = .ref n ∧ S1[n]? = some (.lst (ds ++ [d])) ∧ Q d (S1.set n (.lst ds))
theorem RS.lstSet {K : PySem.W.Frag} {w : World} {m : List Addr} {S : Sto} {H : Hp} {n : Nat} {a : Addr} {ds : List D} {vs : List V} {u : HO} (R : RS K w g m S H) (hm : m[n]? = some a) (hu : H a = some u) (ku : MutK u) (r : RDs m H ds vs) : RS K w g m (S.set n (.lst ds)) (upd H a (.lst vs)) :=
  R.mut hm ⟨vs, upd_same, RDs.mono (le_mut (List.mem_of_getElem? hm) hu ku) r⟩
theorem paired_snoc {m : List Addr} {H : Hp} {ds : List D} {d : D} {vs : List V} (r : RDs m H (ds ++ [d]) vs) : ∃ us v, vs = us ++ [v] ∧ RDs m H ds us ∧ RD m H d v := by
  induction ds generalizing vs with
  | nil => obtain ⟨v, rfl, rv⟩ := one_rd r; exact ⟨[], v, rfl, .nil, rv⟩
  | cons a ds ih =>
    cases r with
    | cons h1 h2 => obtain ⟨us, v, rfl, r1, r2⟩ := ih h2; exact ⟨_ :: us, v, rfl, .cons h1 r1, r2⟩
theorem de_append (ho : DE g X o fo) (ha : DE g X e fa) (hbase : attributeBase o "append" X.env (eval o X.env) = eval o X.env := by rfl)
    (hfew : ((backTo cpos (starEach [e] X.env)).all (fun x => !x.1) && (backToKw cpos (keywordEach [] X.env)).all (fun x => x.1.isSome)
      && decide ([e].length + ([] : List Keyword).length + (if ([] : List Keyword).isEmpty then 0 else 1) < 30)) = true := by rfl)
    (hline : (apos.endLine == cpos.line) = true := by rfl) (hs : starEach [e] X.env = (false, eval e X.env) :: starEach [] X.env := by rfl) (hplain : (backTo cpos (starEach [] X.env)).any (·.1) = false := by rfl) :
    DE g X (.Call (.Attribute o "append" apos) [e] [] cpos) (dAppend fo fa) :=
  (pe_bm PySem.F.plainAttrs_list PySem.F.slot_list_append PySem.F.type_list_append mt_append ho (pa_cons ha pa_nil hs) hbase hfew hline hs hplain).imp fun σv H Q ⟨m, σ, S, Q0, R, Rl, h, k⟩ => ⟨m, σ, S, _, R, Rl, h, ⟨fun x S1 m1 H1 v q L1 R1 rx => by
    obtain ⟨n, rfl, ⟨ds, h0⟩, q⟩ := q
    obtain ⟨p, vs, rfl, hm, hp, rp⟩ := R1.lst h0 rx
    refine ⟨.inl ⟨rfl, _, SqL.of hp⟩, m1, σ, S1, _, R1, Rl.mono L1, q, ⟨fun y S2 m2 H2 u q2 L2 R2 ry => ?_⟩⟩
    obtain ⟨es, h1, hz, q2⟩ := q2
    obtain ⟨p', ws, e', hm', hp', rp'⟩ := R2.lst h1 (⟨p, L2.at hm, rfl⟩ : RD m2 H2 (.ref n) (.ref p))
    cases e'
    have L3 := le_mut (o := HO.lst (ws ++ [u])) (List.mem_of_getElem? hm') hp' trivial
    exact ⟨p, ws, u, rfl, rfl, hp', by rw [← Paired.length rp', sizeLine_eq]; omega, k.run _ _ _ _ _ q2 ((L1.trans L2).trans L3) (R2.lstSet hm' hp' trivial (Paired.app rp' (.cons ry .nil))) .none⟩⟩⟩
theorem de_pop (ho : DE g X o fo) (hbase : attributeBase o "pop" X.env (eval o X.env) = eval o X.env := by rfl) (hline : (apos.endLine == cpos.line) = true := by rfl) : DE g X (.Call (.Attribute o "pop" apos) [] [] cpos) (dPop fo) :=
  (pe_bm0 PySem.F.plainAttrs_list PySem.F.slot_list_pop PySem.F.type_list_pop mt_pop ho hbase hline).imp fun σv H Q ⟨m, σ, S, Q0, R, Rl, h, k⟩ => ⟨m, σ, S, _, R, Rl, h, ⟨fun x S1 m1 H1 v q L1 R1 rx => by
    obtain ⟨n, ds, d, rfl, h0, q⟩ := q
    obtain ⟨p, vs, rfl, hm, hp, rp⟩ := R1.lst h0 rx
    obtain ⟨us, u, rfl, r1, r2⟩ := paired_snoc rp
    have L2 := le_mut (o := HO.lst us) (List.mem_of_getElem? hm) hp trivial
    refine ⟨.inl ⟨rfl, _, SqL.of hp⟩, p, us ++ [u], u, rfl, rfl, hp, by simp, ?_⟩
    rw [List.dropLast_concat]
    exact k.run _ _ _ _ _ q (L1.trans L2) (R1.lstSet hm hp trivial r1) (RD.mono L2 r2)⟩⟩
/-- row[i] = e -/
def setIx : D → D → D → Sto → (Sto → Prop) → Prop := fun o i d S Q => ∃ n k j ds, o = .ref n ∧ i = .dat (.num k) ∧ S[n]? = some (.lst ds) ∧ ixN ds.length k = some j ∧ Q (S.set n (.lst (ds.set j d)))
end
end L2.LL

/-! # LLDictW -/
set_option Elab.async false
set_option linter.all false
set_option maxRecDepth 100000
set_option maxHeartbeats 2000000
namespace L2.LL
open PySem PySem.Spec PyProof.Rows

/-! ## dicts whose keys are data (no bare text), at the level of the machine -/
/-- the value v is the key t -/
def KIs (h : Heap) (t : T) (v : Value) : Prop := NestedIs h t v ∧ t.depth ≤ 8 ∧ noText t = true
def dEn (w : World) (x : T × Value × Value) : DictEntry := ⟨x.1.hash w, x.2.1, x.2.2⟩
structure DMix (w : World) (h : Heap) (d : Addr) (es : Array DictEntry) (ep : Nat) (xs : List (T × Value × Value)) : Prop where
  raw : h.DictRaw d es ep
  ent : es.toList = xs.map (dEn w)
  ks : ∀ x ∈ xs, KIs h x.1 x.2.1
  nd : (xs.map (·.1)).Nodup
section
variable {w : World} {h h' : Heap} {d : Addr} {es : Array DictEntry} {ep : Nat} {xs : List (T × Value × Value)}
theorem DMix.size (m : DMix w h d es ep xs) : es.size = xs.length := by rw [← Array.length_toList, m.ent, List.length_map]
theorem DMix.get (m : DMix w h d es ep xs) (j : Nat) : es[j]? = (xs[j]?).map (dEn w) := by rw [← Array.getElem?_toList, m.ent, List.getElem?_map]
theorem DMix.uniq (m : DMix w h d es ep xs) {i j : Nat} {k : T} {p q : Value × Value} (hi : xs[i]? = some (k, p)) (hj : xs[j]? = some (k, q)) : i = j := by
  have li := (List.getElem?_eq_some_iff.mp hi).1
  have lj := (List.getElem?_eq_some_iff.mp hj).1
  refine (List.getElem?_inj (l := xs.map (·.1)) (by simpa using li) m.nd).mp ?_
  rw [List.getElem?_map, List.getElem?_map, hi, hj]; rfl
theorem KIs.notStr {t : T} {v : Value} (k : KIs h t v) : ∀ s u, v ≠ .str s u := fun s u e => by
  obtain ⟨a, _, c⟩ := k
  subst e
  cases a
  exact Bool.noConfusion c
end
section
variable {P : Program} {w : World} {A : Around} {E : Value → Shared → Prop} {s : Shared} {d : Addr} {es : Array DictEntry} {ep : Nat} {xs : List (T × Value × Value)} {k : T} {v : Value}
theorem mix_quiet {stored : List Value} {Q : Bool → Shared → Prop} (hk : KIs s.heap k v) (hst : ∀ u ∈ stored, ∃ t, KIs s.heap t u) (hQ : Q false s) : wpAny (model P w) A (tableMayTell v stored) Q E s := by
  unfold tableMayTell
  split
  · exact wpAny_pure hQ
  refine wpAny_bind (quiet_key (prog := P) (w := w) k v 8 s hk.1 hk.2.1 A E _ ?_)
  rw [if_neg (by decide)]
  refine wpAny_bind (wpAny_forIn_list _ (fun rest r z => z = s ∧ r = (none, ()) ∧ ∀ u ∈ rest, ∃ t, KIs s.heap t u) _ ?_ ?_ _ _ ⟨rfl, rfl, hst⟩)
  · rintro x rest r z ⟨rfl, rfl, hr⟩
    obtain ⟨t, ht⟩ := hr x List.mem_cons_self
    refine wpAny_bind (quiet_key (prog := P) (w := w) t x 8 z ht.1 ht.2.1 A E _ ?_)
    rw [if_neg (by decide)]
    exact wpAny_pure ⟨rfl, rfl, fun u hu => hr u (List.mem_cons_of_mem _ hu)⟩
  · rintro r z ⟨rfl, rfl, _⟩
    exact wpAny_pure hQ
theorem mix_eq {t : T} {u : Value} {Q : Bool → Shared → Prop} (hr : A.units + 9 < cLine) (ht : KIs s.heap t u) (hk : KIs s.heap k v) (hQ : Q (decide (t = k)) s) : wpAny (model P w) A (eqBool u v) Q E s := by
  have e := eqAt_key (prog := P) (w := w) t k A s u v ht.1 hk.1 (by have := ht.2.1; omega)
  rw [← NestedKey.decide_eq] at e
  exact e _ _ hQ
theorem mem_places {n j : Nat} {f : Nat → Option Int} {c : Int} (hj : j < n) (e : f j = some c) : j ∈ placesWithHash n f c := by
  unfold placesWithHash
  exact List.mem_filter.mpr ⟨List.mem_range.mpr hj, by rw [e]; simp⟩
theorem nodup_places {n : Nat} {f : Nat → Option Int} {c : Int} : (placesWithHash n f c).Nodup := by
  unfold placesWithHash
  exact List.nodup_range.filter _
theorem mix_find {Q : Option Nat → Shared → Prop} (hr : A.units + 9 < cLine) (hk : KIs s.heap k v) (m : DMix w s.heap d es ep xs)
    (h0 : (∀ (j : Nat) (p : Value × Value), xs[j]? ≠ some (k, p)) → Q none s) (h1 : ∀ (j : Nat) (p : Value × Value), xs[j]? = some (k, p) → Q (some j) s) :
    wpAny (model P w) A (dictFind d v (k.hash w)) Q E s := by
  obtain ⟨o, ho, hc, hd⟩ := m.raw
  have hin : ∀ (j : Nat) (p : Value × Value), xs[j]? = some (k, p) → j ∈ placesWithHash es.size (fun i => es[i]?.map (·.hash)) (k.hash w) := fun j p e =>
    mem_places (by rw [m.size]; exact (List.getElem?_eq_some_iff.mp e).1) (by rw [m.get, e]; rfl)
  have hst : ∀ u ∈ (placesWithHash es.size (fun i => es[i]?.map (·.hash)) (k.hash w)).filterMap (fun i => es[i]?.map (·.key)), ∃ t, KIs s.heap t u := by
    intro u hu
    obtain ⟨i, _, hi⟩ := List.mem_filterMap.mp hu
    rw [m.get] at hi
    cases e : xs[i]? with
    | none => rw [e] at hi; cases hi
    | some x =>
      rw [e] at hi
      cases hi
      exact ⟨x.1, m.ks x (List.mem_of_getElem? e)⟩
  have hbad : ¬ (es.any fun e => e.key == v && e.hash != k.hash w) = true := by
    rw [← Array.any_toList, List.any_eq_true]
    rintro ⟨e, he, hc⟩
    rw [m.ent] at he
    obtain ⟨x, hx, rfl⟩ := List.mem_map.mp he
    simp only [dEn, Bool.and_eq_true, beq_iff_eq, bne_iff_ne, ne_eq] at hc
    have q := m.ks x hx
    rw [hc.1] at q
    exact hc.2 (by rw [NestedIs.inj _ _ _ q.1 hk.1])
  -- one place, asked
  have ask : ∀ (x : Nat) (e : DictEntry), es[x]? = some e → ∃ (t : T) (p : Value × Value), xs[x]? = some (t, p) ∧ e.hash = t.hash w ∧ KIs s.heap t e.key := by
    intro x e he
    rw [m.get] at he
    cases q : xs[x]? with
    | none => rw [q] at he; cases he
    | some y =>
      rw [q] at he
      cases he
      exact ⟨y.1, y.2, rfl, rfl, m.ks y (List.mem_of_getElem? q)⟩
  unfold dictFind
  refine wpAny_holding (wpAny_bind (wpAny_dictEntries ho hd ?_))
  dsimp only
  split
  · rename_i z u
    exact absurd rfl (hk.notStr z u)
  -- the place of the key, by its own turn
  have stay : ∀ {x : Nat} {rest : List Nat} {t : T} {p : Value × Value} {hit : Option Nat}, xs[x]? = some (t, p) → ¬ t = k → (∀ (j : Nat) (p : Value × Value), xs[j]? = some (k, p) → (hit = none ∧ j ∈ x :: rest) ∨ hit = some j) →
      ∀ (j : Nat) (p : Value × Value), xs[j]? = some (k, p) → (hit = none ∧ j ∈ rest) ∨ hit = some j := by
    intro x rest t p hit hx hne hI j q hj
    rcases hI j q hj with ⟨hn, hm⟩ | hm
    · refine .inl ⟨hn, ?_⟩
      rcases List.mem_cons.mp hm with e | e
      · subst e; rw [hx] at hj; cases hj; exact absurd rfl hne
      · exact e
    · exact .inr hm
  by_cases hall : ((v :: (placesWithHash es.size (fun i => es[i]?.map (·.hash)) (k.hash w)).filterMap (fun i => es[i]?.map (·.key))).all carriedByValue) = true
  · rw [if_pos hall]
    unfold dictWalkPlain
    refine wpAny_bind (wpAny_forIn_list _ (fun rest r z => z = s ∧ r = (none, ()) ∧ ∀ (j : Nat) (p : Value × Value), xs[j]? = some (k, p) → ((none : Option Nat) = none ∧ j ∈ rest) ∨ (none : Option Nat) = some j) _ ?_ ?_ _ _ ⟨rfl, rfl, fun j p e => .inl ⟨rfl, hin j p e⟩⟩)
    · rintro x rest r z ⟨rfl, rfl, hI⟩
      cases hx : es[x]? with
      | none =>
        refine wpAny_pure ⟨rfl, rfl, fun j p e => ?_⟩
        rcases hI j p e with ⟨_, hm⟩ | hm
        · rcases List.mem_cons.mp hm with q | q
          · subst q; rw [m.get, e] at hx; cases hx
          · exact .inl ⟨rfl, q⟩
        · cases hm
      | some e =>
        obtain ⟨t, p, hp, hh, ht⟩ := ask x e hx
        dsimp only
        by_cases hq : (e.hash == k.hash w) = true
        · rw [if_pos hq]
          refine wpAny_bind (wpAny_dictEpoch ho hd (wpAny_bind (mix_eq hr ht hk (wpAny_bind (wpAny_dictEpoch ho hd ?_)))))
          rw [if_neg (by simp)]
          by_cases hkk : t = k
          · rw [if_pos (by simpa using hkk)]
            subst hkk
            exact wpAny_bind (wpAny_rule (wpAny_pure (wpAny_pure (h1 x p hp))))
          · rw [if_neg (by simpa using hkk)]
            exact wpAny_bind (wpAny_rule (wpAny_pure ⟨rfl, rfl, stay hp hkk hI⟩))
        · rw [if_neg hq]
          exact wpAny_pure ⟨rfl, rfl, stay hp (fun z => hq (by rw [hh, z]; simp)) hI⟩
    · rintro r z ⟨rfl, rfl, hI⟩
      exact wpAny_pure (h0 fun j p e => by rcases hI j p e with ⟨_, q⟩ | q <;> cases q)
  · rw [if_neg hall]
    by_cases hone : ((placesWithHash es.size (fun i => es[i]?.map (·.hash)) (k.hash w)).filterMap (fun i => es[i]?.map (·.key)) == [v]) = true
    all_goals
      split
      all_goals
        first | rw [if_neg hbad] | skip
        first | rw [if_pos hone] | rw [if_neg hone]
        first | refine wpAny_bind (wpAny_pure ?_) | refine wpAny_bind (mix_quiet hk hst ?_)
        rw [if_neg (by simp)]
        refine wpAny_bind (wpAny_forIn_list _ (fun rest r z => z = s ∧ ∃ hit, r = (none, hit) ∧ rest.Nodup ∧ (∀ (j : Nat) (p : Value × Value), xs[j]? = some (k, p) → (hit = none ∧ j ∈ rest) ∨ hit = some j) ∧ ∀ j, hit = some j → ∃ p, xs[j]? = some (k, p) ∧ j ∉ rest) _ ?_ ?_ _ _
          ⟨rfl, none, rfl, nodup_places, fun j p e => .inl ⟨rfl, hin j p e⟩, fun _ e => nomatch e⟩)
        · rintro x rest r z ⟨rfl, hit, rfl, hnd, hI, hJ⟩
          have hJ' : ∀ j, hit = some j → ∃ p, xs[j]? = some (k, p) ∧ j ∉ rest := fun j e => let ⟨p, a, b⟩ := hJ j e; ⟨p, a, fun z => b (List.mem_cons_of_mem _ z)⟩
          obtain ⟨hxr, hnd'⟩ := List.nodup_cons.mp hnd
          cases hx : es[x]? with
          | none =>
            refine wpAny_pure ⟨rfl, hit, rfl, hnd', fun j p e => ?_, hJ'⟩
            rcases hI j p e with ⟨hn, hm⟩ | hm
            · rcases List.mem_cons.mp hm with q | q
              · subst q; rw [m.get, e] at hx; cases hx
              · exact .inl ⟨hn, q⟩
            · exact .inr hm
          | some e =>
            obtain ⟨t, p, hp, hh, ht⟩ := ask x e hx
            dsimp only
            by_cases hq : (e.hash == k.hash w) = true
            · rw [if_pos hq]
              refine wpAny_bind (wpAny_dictEpoch ho hd (wpAny_bind (mix_eq hr ht hk (wpAny_bind (wpAny_dictEpoch ho hd ?_)))))
              rw [if_neg (by simp)]
              by_cases hkk : t = k
              · rw [if_pos (by simpa using hkk)]
                subst hkk
                have hz : hit = none := by
                  rcases hI x p hp with ⟨hn, _⟩ | hm
                  · exact hn
                  · obtain ⟨_, _, b⟩ := hJ x hm
                    exact absurd List.mem_cons_self b
                subst hz
                rw [if_neg (by decide)]
                refine wpAny_bind (wpAny_rule ?_)
                split
                · exact wpAny_pure (wpAny_pure (h1 x p hp))
                · refine wpAny_pure ⟨rfl, some x, rfl, hnd', fun j q e => .inr ?_, fun j e => ?_⟩
                  · rw [m.uniq e hp]
                  · cases e; exact ⟨p, hp, hxr⟩
              · rw [if_neg (by simpa using hkk)]
                refine wpAny_bind (wpAny_rule ?_)
                rw [if_neg (by simp)]
                exact wpAny_pure ⟨rfl, hit, rfl, hnd', stay hp hkk hI, hJ'⟩
            · rw [if_neg hq]
              exact wpAny_pure ⟨rfl, hit, rfl, hnd', stay hp (fun z => hq (by rw [hh, z]; simp)) hI, hJ'⟩
        · rintro r z ⟨rfl, hit, rfl, hnd, hI, hJ⟩
          cases hit with
          | none => exact wpAny_pure (h0 fun j p e => by rcases hI j p e with ⟨_, q⟩ | q <;> cases q)
          | some j => obtain ⟨p, a, _⟩ := hJ j rfl; exact wpAny_pure (h1 j p a)
end
end L2.LL

/-! # LLDictX -/
set_option Elab.async false
set_option linter.all false
set_option maxRecDepth 100000
set_option maxHeartbeats 2000000
namespace L2.LL
open PySem PySem.Spec PyProof.Rows

theorem KIs.keep {h h' : Heap} {d : Addr} {o : Obj} {es : Array DictEntry} {ep : Nat} {t : T} {v : Value} (x : KIs h t v) (ho : h.get? d = some o) (hd : o.data = .dict es ep) (hs : Heap.SameBut d h h') : KIs h' t v := by
  refine ⟨NestedIs.at (fun a q vs n e1 e2 => ?_) t v x.1, x.2⟩
  rw [hs.2 a (fun z => by subst z; rw [ho] at e1; cases e1; rw [hd] at e2; cases e2)]
  exact e1
section
variable {P : Program} {w : World} {A : Around} {E : Value → Shared → Prop} {s : Shared} {d : Addr} {es : Array DictEntry} {ep : Nat} {xs : List (T × Value × Value)} {k : T} {v u : Value}
/-- the key's place -/
def At (xs : List (T × Value × Value)) (k : T) (j : Nat) (p : Value × Value) : Prop := xs[j]? = some (k, p)
def No (xs : List (T × Value × Value)) (k : T) : Prop := ∀ (j : Nat) (p : Value × Value), xs[j]? ≠ some (k, p)
theorem No.mem (h : No xs k) : k ∉ xs.map (·.1) := fun m => by
  obtain ⟨x, hx, rfl⟩ := List.mem_map.mp m
  obtain ⟨j, hj⟩ := List.mem_iff_getElem?.mp hx
  exact h j x.2 hj
theorem mix_hash {Q : Int → Shared → Prop} (hr : A.units + 9 < cLine) (hk : KIs s.heap k v) (hQ : Q (k.hash w) { s with toks := s.toks + k.draws }) : wpAny (model P w) A (pyHash v) Q E s :=
  pyHash_key k v A s Q hk.1 (by have := hk.2.1; omega) hQ
theorem mix_get {Q : Option Value → Shared → Prop} (hr : A.units + 9 < cLine) (hk : KIs s.heap k v) (m : DMix w s.heap d es ep xs) (h0 : No xs k → Q none { s with toks := s.toks + k.draws })
    (h1 : ∀ j p, At xs k j p → Q (some p.2) { s with toks := s.toks + k.draws }) : wpAny (model P w) A (dictGet d v) Q E s := by
  unfold dictGet
  refine wpAny_holding (wpAny_bind (mix_hash hr hk (wpAny_bind (mix_find (s := { s with toks := s.toks + k.draws }) hr hk m (fun hn => wpAny_pure (h0 hn)) fun j p hj => ?_))))
  obtain ⟨o, ho, _, hd⟩ := m.raw
  refine wpAny_bind (wpAny_dictEntries (s := { s with toks := s.toks + k.draws }) ho hd ?_)
  rw [m.get, hj]
  exact wpAny_pure (h1 j p hj)
theorem mix_push {o : Obj} (ho : s.heap.get? d = some o) (hc : o.ExactDict) (hd : o.data = .dict es ep) (m : DMix w s.heap d es ep xs) (hk : KIs s.heap k v) (hn : No xs k) :
    DMix w (s.heap.update d (Obj.mapDictKeys (·.push ⟨k.hash w, v, u⟩))) d (es.push ⟨k.hash w, v, u⟩) (ep + 1) (xs ++ [(k, v, u)]) where
  raw := ⟨_, Heap.get?_update_self _ ho (Obj.isFreed_of_dict (Obj.data_mapDictKeys hd _)), hc.mapDictKeys _, Obj.data_mapDictKeys hd _⟩
  ent := by simp [m.ent, dEn]
  ks := fun x hx => by
    rcases List.mem_append.mp hx with hx | hx
    · exact (m.ks x hx).keep ho hd (Heap.SameBut.update ..)
    · have e : x = (k, v, u) := by simpa using hx
      subst e
      exact hk.keep ho hd (Heap.SameBut.update ..)
  nd := by
    rw [List.map_append, List.nodup_append]
    refine ⟨m.nd, by simp, fun a ha b hb e => ?_⟩
    have e' : b = k := by simpa using hb
    subst e'; subst e
    exact hn.mem ha
theorem mix_over {o : Obj} {j : Nat} {p : Value × Value} (ho : s.heap.get? d = some o) (hc : o.ExactDict) (hd : o.data = .dict es ep) (m : DMix w s.heap d es ep xs) (hj : At xs k j p) :
    DMix w (s.heap.update d (Obj.mapDict (·.modify j fun e => { e with val := u }))) d (es.modify j fun e => { e with val := u }) ep (xs.set j (k, p.1, u)) where
  raw := ⟨_, Heap.get?_update_self _ ho (Obj.isFreed_of_dict (Obj.data_mapDict hd _)), hc.mapDict _, Obj.data_mapDict hd _⟩
  ent := by
    apply List.ext_getElem?
    intro i
    rw [Array.toList_modify, List.getElem?_modify, m.ent, List.getElem?_map, List.getElem?_map, List.getElem?_set]
    by_cases e : j = i
    · subst e
      have hl := (List.getElem?_eq_some_iff.mp hj).1
      rw [show xs[j]? = some (k, p) from hj]
      simp [dEn, hl]
    · simp [e]
  ks := fun x hx => by
    have q : KIs s.heap x.1 x.2.1 := by
      rcases List.mem_or_eq_of_mem_set hx with hx | rfl
      · exact m.ks x hx
      · exact m.ks (k, p) (List.mem_of_getElem? hj)
    exact q.keep ho hd (Heap.SameBut.update ..)
  nd := by
    have e : (xs.set j (k, p.1, u)).map (·.1) = xs.map (·.1) := by
      rw [List.map_set]
      apply List.ext_getElem?
      intro i
      rw [List.getElem?_set]
      by_cases e : j = i
      · subst e
        have hl := (List.getElem?_eq_some_iff.mp hj).1
        rw [List.getElem?_map, show xs[j]? = some (k, p) from hj]
        simp [hl]
      · simp [e]
    rw [e]; exact m.nd
theorem mix_set {Q : Unit → Shared → Prop} (hr : A.units + 9 < cLine) (hk : KIs s.heap k v) (m : DMix w s.heap d es ep xs) (hz : xs.length ≤ sizeLine)
    (h0 : No xs k → ∀ h' es' ep', DMix w h' d es' ep' (xs ++ [(k, v, u)]) → Heap.SameBut d s.heap h' → Q () { s with heap := h', toks := s.toks + k.draws })
    (h1 : ∀ j p, At xs k j p → ∀ h' es' ep', DMix w h' d es' ep' (xs.set j (k, p.1, u)) → Heap.SameBut d s.heap h' → Q () { s with heap := h', toks := s.toks + k.draws }) :
    wpAny (model P w) A (dictSet d v u) Q E s := by
  obtain ⟨o, ho, hc, hd⟩ := m.raw
  unfold dictSet
  refine wpAny_holding (wpAny_bind (mix_hash hr hk ?_))
  unfold dictSetHashed
  refine wpAny_holding (wpAny_bind (mix_find (s := { s with toks := s.toks + k.draws }) hr hk m (fun hn => ?_) fun j p hj => ?_))
  · exact wpAny_bind (wpAny_rule (wpAny_updateDictKeys (hz := by rw [m.size]; exact hz) (s := { s with toks := s.toks + k.draws }) ho hd (h0 hn _ _ _ (mix_push ho hc hd m hk hn) (Heap.SameBut.update ..))))
  · exact wpAny_bind (wpAny_rule (wpAny_bind (wpAny_updateDict (s := { s with toks := s.toks + k.draws }) ho hd (wpAny_point (h1 j p hj _ _ _ (mix_over ho hc hd m hj) (Heap.SameBut.update ..))))))
theorem mix_setdef {Q : Value → Shared → Prop} (hr : A.units + 9 < cLine) (hk : KIs s.heap k v) (m : DMix w s.heap d es ep xs) (hz : xs.length ≤ sizeLine)
    (h0 : No xs k → ∀ h' es' ep', DMix w h' d es' ep' (xs ++ [(k, v, u)]) → Heap.SameBut d s.heap h' → Q u { s with heap := h', toks := s.toks + k.draws })
    (h1 : ∀ j p, At xs k j p → Q p.2 { s with toks := s.toks + k.draws }) : wpAny (model P w) A (dictSetDefault d v u) Q E s := by
  obtain ⟨o, ho, hc, hd⟩ := m.raw
  unfold dictSetDefault
  refine wpAny_holding (wpAny_bind (mix_hash hr hk (wpAny_bind (mix_find (s := { s with toks := s.toks + k.draws }) hr hk m (fun hn => ?_) fun j p hj => ?_))))
  · exact wpAny_bind (wpAny_rule (wpAny_bind (wpAny_updateDictKeys (hz := by rw [m.size]; exact hz) (s := { s with toks := s.toks + k.draws }) ho hd (wpAny_pure (h0 hn _ _ _ (mix_push ho hc hd m hk hn) (Heap.SameBut.update ..))))))
  · refine wpAny_bind (wpAny_dictEntries (s := { s with toks := s.toks + k.draws }) ho hd ?_)
    rw [m.get, hj]
    exact wpAny_bind (wpAny_rule (wpAny_pure (h1 j p hj)))
/-! ## in, [ ], [ ] =, get, setdefault -/
theorem in1u {A : Around} (h : A.units + 10 < cLine) : A.in1.units + 9 < cLine := by
  show A.units + 1 + 9 < cLine
  omega
theorem mix_in {Q : Bool → Shared → Prop} (hr : A.units + 10 < cLine) (hk : KIs s.heap k v) (hs : (d == sysModules) = false) (m : DMix w s.heap d es ep xs) (h0 : No xs k → Q false { s with toks := s.toks + k.draws })
    (h1 : ∀ j p, At xs k j p → Q true { s with toks := s.toks + k.draws }) : wpAny (model P w) A (contains (.ref d) v) Q E s := by
  refine wpAny_contains_slot m.raw.typeIs F.slot_dict_contains ?_
  refine wpAny_call_entry F.slot_dict_contains m.raw.typeIs F.entry_dict_contains ?_ (F.args_dict_contains_2 _ _)
  show wpAny _ _ (dictGet d v >>= _) _ _ s
  refine wpAny_bind (mix_get (in1u hr) hk m (fun hn => ?_) fun j p hj => ?_)
  · exact wpAny_bind (wpAny_pendingKey_other hs (wpAny_pure ⟨_, rfl, wpAny_truthy_bool (h0 hn)⟩))
  · exact wpAny_pure ⟨_, rfl, wpAny_truthy_bool (h1 j p hj)⟩
theorem mix_item {Q : Value → Shared → Prop} (hr : A.units + 10 < cLine) (hk : KIs s.heap k v) (m : DMix w s.heap d es ep xs) {j : Nat} {p : Value × Value} (hj : At xs k j p)
    (hQ : Q p.2 { s with toks := s.toks + k.draws }) : wpAny (model P w) A (getItem (.ref d) v) Q E s := by
  unfold getItem
  refine wpAny_holding (wpAny_bind (wpAny_sequenceKey m.raw.typeIs (by decide) (wpAny_bind (wpAny_callSpecial?_slot (name := Str.ofString "__getitem__") m.raw.typeIs F.slot_dict_getitem
    (wpAny_call_entry F.slot_dict_getitem m.raw.typeIs F.entry_dict_getitem ?_ (F.args_dict_getitem_2 _ _))))))
  show wpAny _ _ (dictGet d v >>= _) _ _ s
  refine wpAny_bind (mix_get (in1u hr) hk m (fun hn => absurd hj (hn j p)) fun i q hi => ?_)
  obtain rfl := m.uniq hj hi
  have e : q = p := by have := hj.symm.trans hi; cases this; rfl
  subst e
  exact wpAny_pure ⟨_, rfl, wpAny_pure hQ⟩
theorem mix_store {Q : Unit → Shared → Prop} (hr : A.units + 10 < cLine) (hk : KIs s.heap k v) (m : DMix w s.heap d es ep xs) (hz : xs.length ≤ sizeLine)
    (h0 : No xs k → ∀ h' es' ep', DMix w h' d es' ep' (xs ++ [(k, v, u)]) → Heap.SameBut d s.heap h' → Q () { s with heap := h', toks := s.toks + k.draws })
    (h1 : ∀ j p, At xs k j p → ∀ h' es' ep', DMix w h' d es' ep' (xs.set j (k, p.1, u)) → Heap.SameBut d s.heap h' → Q () { s with heap := h', toks := s.toks + k.draws }) :
    wpAny (model P w) A (setItem (.ref d) v u) Q E s := by
  unfold setItem
  refine wpAny_holding (wpAny_bind (wpAny_sequenceKey m.raw.typeIs (by decide) (wpAny_bind (wpAny_callSpecial?_slot (name := Str.ofString "__setitem__") m.raw.typeIs F.slot_dict_setitem
    (wpAny_call_entry F.slot_dict_setitem m.raw.typeIs F.entry_dict_setitem ?_ (F.args_dict_setitem_3 _ _ _))))))
  show wpAny _ _ (Builtin.Dict.notOrdered "__setitem__" ⟨[.ref d, v, u], []⟩ >>= _) _ _ s
  refine wpAny_bind (wpAny_notOrdered_dict m.raw.typeIs ?_)
  show wpAny _ _ (dictSet d v u >>= _) _ _ s
  exact wpAny_bind (mix_set (in1u hr) hk m hz (fun hn h' es' ep' m' sb => wpAny_pure ⟨.none, rfl, wpAny_pure (h0 hn h' es' ep' m' sb)⟩) fun j p hj h' es' ep' m' sb => wpAny_pure ⟨.none, rfl, wpAny_pure (h1 j p hj h' es' ep' m' sb)⟩)
theorem mix_getD {Q : Value → Shared → Prop} (hr : A.units + 10 < cLine) (hk : KIs s.heap k v) (hs : (d == sysModules) = false) (m : DMix w s.heap d es ep xs) (h0 : No xs k → Q u { s with toks := s.toks + k.draws })
    (h1 : ∀ j p, At xs k j p → Q p.2 { s with toks := s.toks + k.draws }) : wpAny (model P w) A (call (.builtin "dict.get") [.ref d, v, u]) Q E s := by
  refine wpAny_call_entry F.slot_dict_get m.raw.typeIs F.entry_dict_get ?_ (F.args_dict_get_3 _ _ _)
  show wpAny _ _ (dictGet d v >>= _) _ _ s
  refine wpAny_bind (mix_get (in1u hr) hk m (fun hn => ?_) fun j p hj => ?_)
  · show wpAny _ _ (Builtin.Dict.missed d v >>= _) _ _ _
    exact wpAny_bind (wpAny_missed_other hs (wpAny_pure ⟨_, rfl, h0 hn⟩))
  · exact wpAny_pure ⟨_, rfl, h1 j p hj⟩
theorem mix_setD {Q : Value → Shared → Prop} (hr : A.units + 10 < cLine) (hk : KIs s.heap k v) (hs : (d == sysModules) = false) (m : DMix w s.heap d es ep xs) (hz : xs.length ≤ sizeLine)
    (h0 : No xs k → ∀ h' es' ep', DMix w h' d es' ep' (xs ++ [(k, v, u)]) → Heap.SameBut d s.heap h' → Q u { s with heap := h', toks := s.toks + k.draws })
    (h1 : ∀ j p, At xs k j p → Q p.2 { s with toks := s.toks + k.draws }) : wpAny (model P w) A (call (.builtin "dict.setdefault") [.ref d, v, u]) Q E s := by
  refine wpAny_call_entry F.slot_dict_setdefault m.raw.typeIs F.entry_dict_setdefault ?_ (F.args_dict_setdefault_3 _ _ _)
  unfold Builtin.«dict.setdefault»
  refine wpAny_bind ?_
  unfold Builtin.Dict.keyAndDefault
  refine wpAny_bind (wpAny_notOrdered_dict m.raw.typeIs ?_)
  show wpAny _ _ (pure (d, v, some u)) _ _ s
  refine wpAny_pure ?_
  show wpAny _ _ (if (d == sysModules) = true then _ else (dictSetDefault d v u >>= _)) _ _ s
  rw [if_neg (by rw [hs]; decide)]
  exact wpAny_bind (mix_setdef (in1u hr) hk m hz (fun hn h' es' ep' m' sb => wpAny_pure ⟨u, rfl, h0 hn h' es' ep' m' sb⟩) fun j p hj => wpAny_pure ⟨p.2, rfl, h1 j p hj⟩)
theorem mix_len {Q : Value → Shared → Prop} (hs : (d == sysModules) = false) (m : DMix w s.heap d es ep xs) (hz : xs.length ≤ sizeLine) (hQ : Q (.int xs.length (s.toks + 1)) { s with toks := s.toks + 1 + 1 }) :
    wpAny (model P w) A (call (.builtin "len") [.ref d]) Q E s := by
  refine Calls.call_function_entry kind_len plain_len entry_len (args_len1 _) ?_
  unfold Builtin.«len»
  refine wpAny_bind (m := oneArg "len" _) (wpAny_pure (wpAny_bind (m := callSpecial? (.ref d) (Str.ofString "__len__")) (wpAny_callSpecial?_slot (name := Str.ofString "__len__") m.raw.typeIs F.slot_dict_len (call_len_raw hs m.raw ?_))))
  have e := m.size
  have l : sizeLine = 16777216 := sizeLine_eq
  refine wpAny_bind (wpAny_holding (wpAny_pure (wpAny_bind (wpAny_letGo ?_))))
  show wpAny _ _ (if ((es.size : Nat) : Int) < 0 then _ else _) _ _ _
  rw [if_neg (by omega)]
  show wpAny _ _ (if ((es.size : Nat) : Int) ≥ 2 ^ 63 then _ else _) _ _ _
  rw [if_neg (by omega), e]
  exact wpAny_bind (wpAny_mkInt (wpAny_pure ⟨_, rfl, hQ⟩))
end
end L2.LL

/-! # LLDict -/
set_option Elab.async false
set_option linter.all false
set_option maxRecDepth 100000
set_option maxHeartbeats 2000000
namespace L2.LL
open PySem PySem.Spec PyProof.Rows

/-! ## dicts over data -/
def getL (kvs : List (T × D)) (t : T) : Option D := (kvs.find? fun p => decide (p.1 = t)).map (·.2)
def putL (kvs : List (T × D)) (t : T) (d : D) : List (T × D) := if t ∈ kvs.map (·.1) then kvs.map (fun p => if p.1 = t then (t, d) else p) else kvs ++ [(t, d)]
def keyOk (t : T) : Prop := t.depth ≤ 8 ∧ noText t = true
theorem getL_at {kvs : List (T × D)} (hn : (kvs.map (·.1)).Nodup) {j : Nat} {t : T} {d : D} (h : kvs[j]? = some (t, d)) : getL kvs t = some d := by
  unfold getL
  induction kvs generalizing j with
  | nil => simp at h
  | cons p r ih =>
    rw [List.map_cons, List.nodup_cons] at hn
    by_cases e : p.1 = t
    · rw [List.find?_cons_of_pos (by simpa using e)]
      cases j with
      | zero => simp at h; subst h; rfl
      | succ j =>
        have : (t, d) ∈ r := List.mem_of_getElem? (by simpa using h)
        exact absurd (List.mem_map.mpr ⟨_, this, e.symm⟩) hn.1
    · rw [List.find?_cons_of_neg (by simpa using e)]
      cases j with
      | zero => simp at h; subst h; exact absurd rfl e
      | succ j => exact ih hn.2 (by simpa using h)
theorem getL_no {kvs : List (T × D)} {t : T} (h : t ∉ kvs.map (·.1)) : getL kvs t = none := by
  unfold getL
  rw [List.find?_eq_none.mpr]
  · rfl
  · intro p hp e
    exact h (List.mem_map.mpr ⟨p, hp, by simpa using e⟩)
theorem getL_mem {kvs : List (T × D)} {t : T} {d : D} (h : getL kvs t = some d) : (t, d) ∈ kvs := by
  unfold getL at h
  rw [Option.map_eq_some_iff] at h
  obtain ⟨p, hp, rfl⟩ := h
  have e := List.find?_some hp
  have : p.1 = t := by simpa using e
  subst this
  exact List.mem_of_find?_eq_some hp
theorem getL_isSome {kvs : List (T × D)} {t : T} : (getL kvs t).isSome = decide (t ∈ kvs.map (·.1)) := by
  by_cases h : t ∈ kvs.map (·.1)
  · obtain ⟨p, hp, rfl⟩ := List.mem_map.mp h
    unfold getL
    rw [Option.isSome_map, decide_eq_true h]
    exact List.find?_isSome.mpr ⟨p, hp, by simp⟩
  · rw [getL_no h, decide_eq_false h]; rfl
theorem nodup_at {kvs : List (T × D)} (hn : (kvs.map (·.1)).Nodup) {i j : Nat} {t : T} {d e : D} (hi : kvs[i]? = some (t, d)) (hj : kvs[j]? = some (t, e)) : i = j := by
  have li := (List.getElem?_eq_some_iff.mp hi).1
  refine (List.getElem?_inj (l := kvs.map (·.1)) (by simpa using li) hn).mp ?_
  rw [List.getElem?_map, List.getElem?_map, hi, hj]; rfl
theorem putL_at {kvs : List (T × D)} (hn : (kvs.map (·.1)).Nodup) {j : Nat} {t : T} {d d0 : D} (h : kvs[j]? = some (t, d0)) : putL kvs t d = kvs.set j (t, d) := by
  unfold putL
  rw [if_pos (List.mem_map.mpr ⟨_, List.mem_of_getElem? h, rfl⟩)]
  apply List.ext_getElem?
  intro i
  rw [List.getElem?_map, List.getElem?_set]
  by_cases e : j = i
  · subst e
    have hl := (List.getElem?_eq_some_iff.mp h).1
    rw [h]; simp [hl]
  · rw [if_neg e]
    cases q : kvs[i]? with
    | none => rfl
    | some p =>
      by_cases ht : p.1 = t
      · obtain ⟨p1, p2⟩ := p
        subst ht
        exact absurd (nodup_at hn h q) e
      · simp [ht]
theorem putL_no {kvs : List (T × D)} {t : T} {d : D} (h : t ∉ kvs.map (·.1)) : putL kvs t d = kvs ++ [(t, d)] := by unfold putL; rw [if_neg h]
theorem putL_keys {kvs : List (T × D)} {t : T} {d : D} (hn : (kvs.map (·.1)).Nodup) : ((putL kvs t d).map (·.1)).Nodup := by
  unfold putL
  split
  · rename_i h
    have e : (kvs.map (fun p => if p.1 = t then (t, d) else p)).map (·.1) = kvs.map (·.1) := by
      rw [List.map_map]
      refine List.map_congr_left fun p _ => ?_
      by_cases q : p.1 = t <;> simp [q]
    rw [e]; exact hn
  · rename_i h
    rw [List.map_append, List.nodup_append]
    refine ⟨hn, by simp, fun a ha b hb e => ?_⟩
    have e' : b = t := by simpa using hb
    subst e'; subst e
    exact h ha
theorem putL_len (kvs : List (T × D)) (t : T) (d : D) : (putL kvs t d).length ≤ kvs.length + 1 := by
  unfold putL
  split <;> simp
theorem DOk.put {kvs : List (T × D)} {t : T} {d : D} (h : DOk kvs) (k : keyOk t) (z : kvs.length < 100000) : DOk (putL kvs t d) where
  nd := putL_keys h.nd
  sz := by have := putL_len kvs t d; rw [sizeLine_eq]; omega
  dp := fun p hp => by
    unfold putL at hp
    split at hp
    · obtain ⟨q, hq, rfl⟩ := List.mem_map.mp hp
      by_cases e : q.1 = t
      · simp [e]; exact k
      · simp [e]; exact h.dp q hq
    · rcases List.mem_append.mp hp with hp | hp
      · exact h.dp p hp
      · have e : p = (t, d) := by simpa using hp
        subst e; exact k
/-! ## between the two levels -/
def XY (x : T × V × V) (y : T × Value × Value) : Prop := x.1 = y.1 ∧ RelV x.2.1 y.2.1 ∧ RelV x.2.2 y.2.2
theorem Paired.at {α β : Type} {F : α → β → Prop} {l : List α} {r : List β} (h : Paired F l r) {i : Nat} {a : α} (e : l[i]? = some a) : ∃ b, r[i]? = some b ∧ F a b := by
  induction h generalizing i with
  | nil => simp at e
  | cons p _ ih =>
    cases i with
    | zero => simp at e; subst e; exact ⟨_, rfl, p⟩
    | succ i => obtain ⟨b, q, z⟩ := ih (by simpa using e); exact ⟨b, by simpa using q, z⟩
theorem Paired.back {α β : Type} {F : α → β → Prop} {l : List α} {r : List β} (h : Paired F l r) {i : Nat} {b : β} (e : r[i]? = some b) : ∃ a, l[i]? = some a ∧ F a b := by
  induction h generalizing i with
  | nil => simp at e
  | cons p _ ih =>
    cases i with
    | zero => simp at e; subst e; exact ⟨_, rfl, p⟩
    | succ i => obtain ⟨a, q, z⟩ := ih (by simpa using e); exact ⟨a, by simpa using q, z⟩
theorem Paired.put {α β : Type} {F : α → β → Prop} {l : List α} {r : List β} (h : Paired F l r) (i : Nat) {a : α} {b : β} (q : F a b) : Paired F (l.set i a) (r.set i b) := by
  induction h generalizing i with
  | nil => exact .nil
  | cons p t ih =>
    cases i with
    | zero => exact .cons q t
    | succ i => exact .cons p (ih i)
theorem ents_of {w : World} {P : Program} {H : Hp} {h : Heap} (ok : HOk P w H h) {m : List Addr} : ∀ {kvs : List (T × D)} {xs : List (T × V × V)} {es : List DictEntry}, Paired (DKV m H) kvs xs → (∀ p ∈ kvs, p.1.depth ≤ 8 ∧ noText p.1 = true) → Paired (DEnt w) es xs →
    ∃ ys, es = ys.map (dEn w) ∧ Paired XY xs ys ∧ ∀ y ∈ ys, KIs h y.1 y.2.1
  | [], _, _, a, _, b => by cases a; cases b; exact ⟨[], rfl, .nil, fun _ h => nomatch h⟩
  | p :: kvs, _, _, a, d, b => by
    cases a with
    | cons a1 a2 =>
      cases b with
      | cons b1 b2 =>
        rename_i e es
        obtain ⟨ys, e1, e2, e3⟩ := ents_of ok a2 (fun q hq => d q (List.mem_cons_of_mem _ hq)) b2
        rename_i x xs
        refine ⟨(x.1, e.key, e.val) :: ys, ?_, .cons ⟨rfl, b1.2.1, b1.2.2⟩ e2, fun y hy => ?_⟩
        · rw [List.map_cons, ← e1]
          obtain ⟨h0, k0, v0⟩ := e
          have := b1.1
          simp only at this
          simp [dEn, this]
        · rcases List.mem_cons.mp hy with rfl | hy
          · refine ⟨?_, ?_⟩
            · rw [← a1.1]; exact RT.key ok _ _ _ a1.2.1 b1.2.1
            · rw [← a1.1]; exact d p List.mem_cons_self
          · exact e3 y hy
theorem keys_same {m : List Addr} {H : Hp} {kvs : List (T × D)} {xs : List (T × V × V)} {ys : List (T × Value × Value)} (a : Paired (DKV m H) kvs xs) (b : Paired XY xs ys) : ys.map (·.1) = kvs.map (·.1) := by
  induction a generalizing ys with
  | nil => cases b; rfl
  | cons a1 _ ih => cases b with | cons b1 b2 => rw [List.map_cons, List.map_cons, ih b2, ← b1.1, a1.1]
section
variable {g : Gp} {X : Cx} {pins : List (Addr × Obj)} {σ : St} {H : Hp} {s : Shared} {m : List Addr} {S : Sto} {n : Nat} {kvs : List (T × D)} {ep : Nat} {v : V}
/-- all that is known of a dict -/
structure DAt (w : World) (m : List Addr) (H : Hp) (h : Heap) (n : Nat) (kvs : List (T × D)) (ep : Nat) (a : Addr) (xs : List (T × V × V)) (es : Array DictEntry) (ys : List (T × Value × Value)) : Prop where
  hm : m[n]? = some a
  hH : H a = some (.ext (dphi w a ep xs))
  sy : (a == sysModules) = false
  ok : DOk kvs
  kx : Paired (DKV m H) kvs xs
  mx : DMix w h a es ep ys
  xy : Paired XY xs ys
theorem RS.dct (R : RS X.K X.w g m S H) (I : Inv X pins σ H s) (h : S[n]? = some (.dct kvs ep)) (r : RD m H (.ref n) v) : ∃ a xs es ys, v = .ref a ∧ DAt X.w m H s.heap n kvs ep a xs es ys := by
  obtain ⟨a, ha, e⟩ := r
  obtain ⟨h0, ok, xs, h1, h2⟩ := R.obj n a _ ha h
  obtain ⟨⟨o, es, e1, e2, e3, e4⟩, _, _⟩ := I.hok a _ h1
  obtain ⟨ys, y1, y2, y3⟩ := ents_of I.hok h2 ok.dp e4
  refine ⟨a, xs, es, ys, e, ha, h1, h0, ok, h2, ⟨⟨o, e1, e2, e3⟩, y1, y3, ?_⟩, y2⟩
  rw [keys_same h2 y2]; exact ok.nd
section
variable {a : Addr} {xs : List (T × V × V)} {es : Array DictEntry} {ys : List (T × Value × Value)} {h : Heap} {t : T}
theorem DAt.one {w : World} (q : DAt w m H h n kvs ep a xs es ys) {j : Nat} {p : Value × Value} (e : At ys t j p) : ∃ d x y, kvs[j]? = some (t, d) ∧ xs[j]? = some (t, x, y) ∧ RT H t x ∧ RD m H d y ∧ RelV x p.1 ∧ RelV y p.2 := by
  obtain ⟨x, e1, f1⟩ := Paired.back q.xy e
  obtain ⟨k, e2, f2⟩ := Paired.back q.kx e1
  obtain ⟨x1, x2, x3⟩ := x
  obtain ⟨k1, k2⟩ := k
  obtain ⟨a1, a2, a3⟩ := f1
  obtain ⟨b1, b2, b3⟩ := f2
  simp only at a1 a2 a3 b1 b2 b3
  subst a1; subst b1
  exact ⟨k2, x2, x3, e2, e1, b2, b3, a2, a3⟩
theorem DAt.no {w : World} (q : DAt w m H h n kvs ep a xs es ys) (e : No ys t) : t ∉ kvs.map (·.1) := fun hm => by
  obtain ⟨k, hk, rfl⟩ := List.mem_map.mp hm
  obtain ⟨j, hj⟩ := List.mem_iff_getElem?.mp hk
  obtain ⟨x, e1, f1⟩ := Paired.at q.kx hj
  obtain ⟨y, e2, f2⟩ := Paired.at q.xy e1
  refine e j y.2 ?_
  rw [e2, f1.1, f2.1]
theorem DAt.len {w : World} (q : DAt w m H h n kvs ep a xs es ys) : ys.length = kvs.length := by rw [← Paired.length q.xy, ← Paired.length q.kx]
end
theorem dphi_stay {w : World} {a : Addr} {ep : Nat} {xs : List (T × V × V)} : ∀ h1 h2 : Heap, dphi w a ep xs h1 → (∀ o, h1.get? a = some o → h2.get? a = some o) → dphi w a ep xs h2 := fun h1 h2 ⟨o, es, e, r⟩ k => ⟨o, es, k o e, r⟩
theorem dphi_of {w : World} {h : Heap} {a : Addr} {es : Array DictEntry} {ep : Nat} {xs : List (T × V × V)} {ys : List (T × Value × Value)} (m : DMix w h a es ep ys) (xy : Paired XY xs ys) : dphi w a ep xs h := by
  obtain ⟨o, ho, hc, hd⟩ := m.raw
  refine ⟨o, es, ho, hc, hd, ?_⟩
  rw [m.ent]
  clear m
  induction xy with
  | nil => exact .nil
  | cons p _ ih => exact .cons ⟨by rw [p.1]; rfl, p.2.1, p.2.2⟩ ih
/-- the dict is written -/
theorem DAt.wr {a : Addr} {xs xs' : List (T × V × V)} {es es' : Array DictEntry} {ys ys' : List (T × Value × Value)} {kvs' : List (T × D)} {ep' : Nat} {h' : Heap} {tk : Nat} (q : DAt X.w m H s.heap n kvs ep a xs es ys) (I : Inv X pins σ H s) (R : RS X.K X.w g m S H) (hs : Heap.SameBut a s.heap h')
    (mx : DMix X.w h' a es' ep' ys') (xy : Paired XY xs' ys') (kx : Paired (DKV m H) kvs' xs') (ok : DOk kvs') :
    ∃ H', Inv X pins σ H' { s with heap := h', toks := tk } ∧ RS X.K X.w g m (S.set n (.dct kvs' ep')) H' ∧ Le m H m H' := by
  have L := le_mut (o := HO.ext (dphi X.w a ep' xs')) (List.mem_of_getElem? q.hm) q.hH trivial
  obtain ⟨o, ho, _⟩ := mx.raw
  refine ⟨upd H a (.ext (dphi X.w a ep' xs')), ?_, R.mut q.hm ⟨q.sy, ok, xs', upd_same, Paired.imp (fun _ _ z => ⟨z.1, RT.mono L.tup _ _ z.2.1, RD.mono L z.2.2⟩) kx⟩, L⟩
  exact I.write (x := a) (e := a) (by rw [q.hH]; exact True.intro) (.inl rfl) (fun b u hb z => (hs.2 b hb).trans z) ⟨o, ho⟩ ⟨dphi_of mx xy, ⟨o, ho⟩, dphi_stay⟩
/-- .. at a key -/
theorem DAt.put {a : Addr} {xs : List (T × V × V)} {es es' : Array DictEntry} {ys : List (T × Value × Value)} {ep' : Nat} {h' : Heap} {tk : Nat} {t : T} {d : D} {x y : V} {kv u : Value} {j : Nat} {p : Value × Value} (q : DAt X.w m H s.heap n kvs ep a xs es ys) (I : Inv X pins σ H s) (R : RS X.K X.w g m S H)
    (hs : Heap.SameBut a s.heap h') (hj : At ys t j p) (mx : DMix X.w h' a es' ep' (ys.set j (t, p.1, u))) (ry : RelV y u) (rd : RD m H d y) (k : keyOk t) (z : kvs.length < 100000) :
    ∃ H', Inv X pins σ H' { s with heap := h', toks := tk } ∧ RS X.K X.w g m (S.set n (.dct (putL kvs t d) ep')) H' ∧ Le m H m H' := by
  obtain ⟨d0, x0, y0, e1, e2, e3, e4, e5, e6⟩ := q.one hj
  refine q.wr I R hs mx (xs' := xs.set j (t, x0, y)) (Paired.put q.xy j ⟨rfl, e5, ry⟩) ?_ (q.ok.put k z)
  rw [putL_at q.ok.nd e1]
  exact Paired.put q.kx j ⟨rfl, e3, rd⟩
theorem DAt.new {a : Addr} {xs : List (T × V × V)} {es es' : Array DictEntry} {ys : List (T × Value × Value)} {ep' : Nat} {h' : Heap} {tk : Nat} {t : T} {d : D} {x y : V} {kv u : Value} (q : DAt X.w m H s.heap n kvs ep a xs es ys) (I : Inv X pins σ H s) (R : RS X.K X.w g m S H)
    (hs : Heap.SameBut a s.heap h') (hn : No ys t) (mx : DMix X.w h' a es' ep' (ys ++ [(t, kv, u)])) (rx : RelV x kv) (ry : RelV y u) (rt : RT H t x) (rd : RD m H d y) (k : keyOk t) (z : kvs.length < 100000) :
    ∃ H', Inv X pins σ H' { s with heap := h', toks := tk } ∧ RS X.K X.w g m (S.set n (.dct (putL kvs t d) ep')) H' ∧ Le m H m H' := by
  refine q.wr I R hs mx (xs' := xs ++ [(t, x, y)]) (Paired.app q.xy (.cons ⟨rfl, rx, ry⟩ .nil)) ?_ (q.ok.put k z)
  rw [putL_no (q.no hn)]
  exact Paired.app q.kx (.cons ⟨rfl, rt, rd⟩ .nil)
end
section
variable {g : Gp} {X : Cx}
/-! ## in, [ ] -/
def opInD (neg : Bool) : OD
  | .dat t, .ref n, S, Q => ∃ kvs ep, S[n]? = some (.dct kvs ep) ∧ keyOk t ∧ Q (.bl (if neg then !(getL kvs t).isSome else (getL kvs t).isSome)) S
  | _, _, _, _ => False
theorem key_is {pins : List (Addr × Obj)} {σ : St} {H : Hp} {s : Shared} {t : T} {x : V} {v : Value} (I : Inv X pins σ H s) (r : RT H t x) (rx : RelV x v) (k : keyOk t) : KIs s.heap t v := ⟨RT.key I.hok _ _ _ r rx, k⟩
theorem od_inDB {neg : Bool} (hu : X.A.units + 10 < cLine) : OpR X (compareOp (if neg then .NotIn else .In)) (rD X.K X.w g (opInD neg)) := by
  intro pins s σ H x y v u Q I rx ry ⟨m, S, dx, dy, Q0, R, ax, ay, h, k⟩
  unfold opInD at h
  split at h
  · rename_i t n
    obtain ⟨kvs, ep, h0, h1, h⟩ := h
    obtain ⟨a, xs, es, ys, rfl, q⟩ := R.dct I h0 ay
    cases ry
    have hk := key_is I ax rx h1
    have fin : ∀ b : Bool, b = (getL kvs t).isSome → ∀ tk, EP X pins σ Q (Value.bool (if neg then !b else b)) { s with toks := tk } := fun b e tk => ⟨.bl (if neg then !b else b), H, I.tok _, rfl, by rw [e]; exact k.go h R rfl⟩
    cases neg with
    | true =>
      show wpAny _ _ (do return Value.bool (!(← contains (.ref a) v))) _ _ s
      exact wpAny_bind (mix_in hu hk q.sy q.mx (fun hn => wpAny_pure (fin false (by rw [getL_no (q.no hn)]; rfl) _)) fun j p hj => wpAny_pure (fin true (by obtain ⟨d0, x0, y0, e1, _⟩ := q.one hj; rw [getL_at q.ok.nd e1]; rfl) _))
    | false =>
      show wpAny _ _ (do return Value.bool (← contains (.ref a) v)) _ _ s
      exact wpAny_bind (mix_in hu hk q.sy q.mx (fun hn => wpAny_pure (fin false (by rw [getL_no (q.no hn)]; rfl) _)) fun j p hj => wpAny_pure (fin true (by obtain ⟨d0, x0, y0, e1, _⟩ := q.one hj; rw [getL_at q.ok.nd e1]; rfl) _))
  · exact h.elim
theorem od_inD (hu : X.A.units + 10 < cLine) : OpR X (compareOp .In) (rD X.K X.w g (opInD false)) := od_inDB (neg := false) hu
theorem od_notinD (hu : X.A.units + 10 < cLine) : OpR X (compareOp .NotIn) (rD X.K X.w g (opInD true)) := od_inDB (neg := true) hu
def opIxD : OD
  | .ref n, .dat t, S, Q => ∃ kvs ep d, S[n]? = some (.dct kvs ep) ∧ keyOk t ∧ getL kvs t = some d ∧ Q d S
  | _, _, _, _ => False
theorem de_ixD {a b : Expr} {pos : Pos} {fa fb : ED} (hu : X.A.units + 10 < cLine) (ha : DE g X a fa) (hb : DE g X b fb) (hs : NoSl b := by intro _ _; rfl) : DE g X (.Subscript a b pos) (dOp opIxD fa fb) := by
  refine L2.PE.imp (t := tOp (rD X.K X.w g opIxD) (tD X.K X.w g fa) (tD X.K X.w g fb)) ⟨fun pins s σ H Q I h => ?_⟩ tOp_of
  refine subD_of slot_dict_getitem.lookup hs (thn (ha.run pins s σ H _ I h) fun v s1 ⟨x, H1, I1, r1, q1⟩ => thn (hb.run pins s1 σ H1 _ I1 q1) fun u s2 ⟨y, H2, I2, r2, q2⟩ => ?_)
  obtain ⟨m, S, dx, dy, Q0, R, ax, ay, h, k⟩ := q2
  unfold opIxD at h
  split at h
  · rename_i n t
    obtain ⟨kvs, ep, d, h0, h1, h2, h⟩ := h
    obtain ⟨a, xs, es, ys, rfl, q⟩ := R.dct I2 h0 ax
    cases r1
    refine ⟨q.mx.raw.typeIs, ?_⟩
    obtain ⟨j, hj⟩ := List.mem_iff_getElem?.mp (getL_mem h2)
    obtain ⟨z, e1, f1⟩ := Paired.at q.kx hj
    obtain ⟨z2, e2, f2⟩ := Paired.at q.xy e1
    have hat : At ys t j z2.2 := by
      have e3 : z2.1 = t := f2.1.symm.trans f1.1.symm
      show ys[j]? = some (t, z2.2)
      rw [e2, ← e3]
    exact mix_item hu (key_is I2 ay r2 h1) q.mx hat ⟨z.2.2, H2, I2.tok _, f2.2.2, k.go h R f1.2.2⟩
  · exact h.elim
/-- d[k] = v: as what is stored -/
def setIxD : D → D → D → Sto → (Sto → Prop) → Prop := fun o i d S Q => ∃ n t kvs ep, o = .ref n ∧ i = .dat t ∧ S[n]? = some (.dct kvs ep) ∧ keyOk t ∧ kvs.length < 100000 ∧ ∀ ep', Q (S.set n (.dct (putL kvs t d) ep'))
def tSetR (K : PySem.W.Frag) (w : World) (g : Gp) (f : D → D → D → Sto → (Sto → Prop) → Prop) : TSet := fun o i v H Q => ∃ m S do' di dv Q0, RS K w g m S H ∧ RD m H do' o ∧ RD m H di i ∧ RD m H dv v ∧ f do' di dv S Q0 ∧ ∀ S' m' H', Q0 S' → Le m H m' H' → RS K w g m' S' H' → Q H'
theorem pset_D (hu : X.A.units + 10 < cLine) : PSet X (tSetR X.K X.w g setIxD) := by
  intro pins s σ H o i v ov iv u Q I ro ri rv ⟨m, S, dd, di, dv, Q0, R, ao, ai, av, h, k⟩
  obtain ⟨n, t, kvs, ep, rfl, rfl, h0, h1, hz, h⟩ := h
  obtain ⟨a, xs, es, ys, rfl, q⟩ := R.dct I h0 ao
  cases ro
  refine mix_store hu (key_is I ai ri h1) q.mx (by rw [q.len, sizeLine_eq]; omega) (fun hn h' es' ep' mx' sb => ?_) fun j p hj h' es' ep' mx' sb => ?_
  · obtain ⟨H', I', R', L'⟩ := q.new (tk := s.toks + t.draws) I R sb hn mx' ri rv ai av h1 hz
    exact ⟨H', I', k _ _ _ (h ep') L' R'⟩
  · obtain ⟨H', I', R', L'⟩ := q.put (tk := s.toks + t.draws) (x := v) (kv := u) I R sb hj mx' rv av h1 hz
    exact ⟨H', I', k _ _ _ (h ep') L' R'⟩
theorem pset_L : PSet X (tSetR X.K X.w g setIx) := by
  intro pins s σ H o i v ov iv u Q I ro ri rv ⟨m, S, dd, di, dv, Q0, R, ao, ai, av, h, k⟩
  obtain ⟨n, kk, j, ds, rfl, rfl, h0, h1, h⟩ := h
  obtain ⟨p, vs, rfl, hm, hp, rp⟩ := R.lst h0 ao
  cases ai
  refine set_list pins s σ H _ _ v ov iv u Q I ro ri rv ⟨p, vs, kk, j, rfl, rfl, hp, by rw [← Paired.length rp]; exact h1, ?_⟩
  exact k _ _ _ h (le_mut (List.mem_of_getElem? hm) hp trivial) (R.lstSet hm hp trivial (RDs.set rp j av))
/-- o[i] = e, the value first -/
def bSetIx (r : D → D → D → Sto → (Sto → Prop) → Prop) (fv fo fi : ED) : BD := fun D0 σ S => fv σ S fun v S1 => fo σ S1 fun o S2 => fi σ S2 fun i S3 => r o i v S3 fun S4 => D0.nx σ S4
theorem ds_setIx {o i e : Expr} {pos pos' : Pos} {fv fo fi : ED} {r : D → D → D → Sto → (Sto → Prop) → Prop} (hr : PSet X (tSetR X.K X.w g r)) (he : DE g X e fv) (ho : DE g X o fo) (hi : DE g X i fi) (hs : swapsWith e (some (.Subscript o i pos')) pos.line X.env = pure false := by rfl) :
    DS g X (.Assign [.Subscript o i pos'] e pos) (bSetIx r fv fo fi) := ⟨fun pins s σv H De I ⟨m, σ, S, D0, R, Rl, h, k⟩ => by
  refine wpAny_Assign_Subscript (thn (he.run pins s σv H (fun v H' => ∃ m1 S1 d, RS X.K X.w g m1 S1 H' ∧ Le m H m1 H' ∧ RD m1 H' d v ∧ fo σ S1 fun o S2 => fi σ S2 fun i S3 => r o i d S3 fun S4 => D0.nx σ S4) I
    ⟨m, σ, S, _, R, Rl, h, ⟨fun d S1 m1 H1 v q L1 R1 rd => ⟨m1, S1, d, R1, L1, rd, q⟩⟩⟩) fun u s1 ⟨x, H1, I1, r1, m1, S1, d, R1, L1, rd, q1⟩ => ?_) hs
  refine thn (ho.run pins s1 σv H1 (fun v H' => ∃ m2 S2 d2, RS X.K X.w g m2 S2 H' ∧ Le m1 H1 m2 H' ∧ RD m2 H' d2 v ∧ fi σ S2 fun i S3 => r d2 i d S3 fun S4 => D0.nx σ S4) I1
    ⟨m1, σ, S1, _, R1, Rl.mono L1, q1, ⟨fun d2 S2 m2 H2 v q L R2 rd => ⟨m2, S2, d2, R2, L, rd, q⟩⟩⟩) fun ov s2 ⟨y, H2, I2, r2, m2, S2, d2, R2, L2, rd2, q2⟩ => ?_
  refine thn (hi.run pins s2 σv H2 (fun v H' => ∃ m3 S3 d3, RS X.K X.w g m3 S3 H' ∧ Le m2 H2 m3 H' ∧ RD m3 H' d3 v ∧ r d2 d3 d S3 fun S4 => D0.nx σ S4) I2
    ⟨m2, σ, S2, _, R2, Rl.mono (L1.trans L2), q2, ⟨fun d3 S3 m3 H3 v q L R3 rd => ⟨m3, S3, d3, R3, L, rd, q⟩⟩⟩) fun iv s3 ⟨z, H3, I3, r3, m3, S3, d3, R3, L3, rd3, q3⟩ => ?_
  refine thn (hr pins s3 σv H3 y z x ov iv u (fun H' => De.nx σv H') I3 r2 r3 r1 ⟨m3, S3, d2, d3, d, _, R3, rd2.mono L3, rd3, rd.mono (L2.trans L3), q3, fun S4 m4 H4 q4 L4 R4 => ?_⟩) fun _ s4 ⟨H4, I4, q4⟩ => ⟨σv, H4, I4, q4⟩
  exact k.nx _ _ _ _ _ q4 (((L1.trans L2).trans L3).trans L4) R4 (Rl.mono (((L1.trans L2).trans L3).trans L4))⟩
end
end L2.LL

/-! # LLDictM -/
set_option Elab.async false
set_option linter.all false
set_option maxRecDepth 100000
set_option maxHeartbeats 2000000
namespace L2.LL
open PySem PySem.Spec PyProof.Rows

/-! ## a dict's methods with a key and a value -/
theorem RS.dctT {g : Gp} {X : Cx} {pins : List (Addr × Obj)} {σ : St} {H : Hp} {s : Shared} {m : List Addr} {S : Sto} {n : Nat} {kvs : List (T × D)} {ep : Nat} {v : V} {u : Value} (R : RS X.K X.w g m S H) (I : Inv X pins σ H s) (h : S[n]? = some (.dct kvs ep)) (r : RD m H (.ref n) v) (rv : RelV v u) :
    s.TypeIs u "dict" ∧ ∀ a, u = .ref a → ∃ ob, s.heap.get? a = some ob ∧ ob.dict = none := by
  obtain ⟨a, xs, es, ys, rfl, q⟩ := R.dct I h r
  cases rv
  obtain ⟨o, ho, hc, hd⟩ := q.mx.raw
  refine ⟨⟨o, ho, hc.1⟩, fun b e => ?_⟩
  cases e
  exact ⟨o, ho, hc.2.1⟩
/-- what a method does, over data -/
def MtD (X : Cx) (g : Gp) (id : String) (r : Nat → T → D → Sto → DQ → Prop) : Prop :=
  ∀ (pins : List (Addr × Obj)) (s : Shared) (σ : St) (H : Hp) (m : List Addr) (S : Sto) (n : Nat) (t : T) (y : D) (a b c : V) (u v w' : Value) (Q0 : DQ) (Q : VK), Inv X pins σ H s → RS X.K X.w g m S H → RD m H (.ref n) a → RT H t b → RD m H y c → RelV a u → RelV b v → RelV c w' →
    r n t y S Q0 → Kont X.K X.w g m H Q0 Q → wpAny (model X.prog X.w) X.A (call (.builtin id) [u, v, w']) (EP X pins σ Q) X.xe s
def dMt2 (r : Nat → T → D → Sto → DQ → Prop) (fo fk fx : ED) : ED := fun σ S Q => fo σ S fun x S1 => ∃ n, x = .ref n ∧ (∃ kvs ep, S1[n]? = some (.dct kvs ep)) ∧ fk σ S1 fun k S2 => fx σ S2 fun y S3 => match k with
  | .dat t => r n t y S3 Q
  | _ => False
section
variable {g : Gp} {X : Cx} {o e e2 : Expr} {fo fk fx : ED} {apos cpos : Pos} {id : String} {name : Str} {r : Nat → T → D → Sto → DQ → Prop}
theorem de_mt2 (slot : Slot "dict" name id) (hty : typeOf (.builtin id) = pure (.type "method_descriptor")) (hm : MtD X g id r) (ho : DE g X o fo) (hk : DE g X e fk) (hx : DE g X e2 fx)
    (hbase : attributeBase o name X.env (eval o X.env) = eval o X.env := by rfl)
    (hfew : ((backTo cpos (starEach [e, e2] X.env)).all (fun x => !x.1) && (backToKw cpos (keywordEach [] X.env)).all (fun x => x.1.isSome)
      && decide ([e, e2].length + ([] : List Keyword).length + (if ([] : List Keyword).isEmpty then 0 else 1) < 30)) = true := by rfl)
    (hline : (apos.endLine == cpos.line) = true := by rfl) (hs1 : starEach [e, e2] X.env = (false, eval e X.env) :: starEach [e2] X.env := by rfl) (hs2 : starEach [e2] X.env = (false, eval e2 X.env) :: starEach [] X.env := by rfl) (hpl : (backTo cpos (starEach [e2] X.env)).any (·.1) = false := by rfl) :
    DE g X (.Call (.Attribute o name apos) [e, e2] [] cpos) (dMt2 r fo fk fx) := ⟨fun pins s σv H Q I ⟨m, σ, S, Q0, R, Rl, h, k⟩ => by
  refine wpAny_Call_method_late hbase hfew hline rfl (thn (ho.run pins s σv H (fun v H' => ∃ m1 S1 n, RS X.K X.w g m1 S1 H' ∧ Le m H m1 H' ∧ RD m1 H' (.ref n) v ∧ (∃ kvs ep, S1[n]? = some (.dct kvs ep)) ∧ fk σ S1 fun k S2 => fx σ S2 fun y S3 => match k with
    | .dat t => r n t y S3 Q0
    | _ => False) I
    ⟨m, σ, S, _, R, Rl, h, ⟨fun d S1 m1 H1 v ⟨n, e, w, q⟩ L1 R1 rd => ⟨m1, S1, n, R1, L1, by rw [← e]; exact rd, w, q⟩⟩⟩) fun u s1 ⟨x, H1, I1, r1, m1, S1, n, R1, L1, rd1, ⟨kvs, ep, h0⟩, q1⟩ => ?_)
  obtain ⟨t1, t2⟩ := R1.dctT I1 h0 rd1 r1
  refine ⟨"dict", id, PySem.F.plainAttrs_dict, slot, hty, t1, t2, ?_⟩
  have hA := (pa_cons hk (pa_cons hx pa_nil hs2) hs1).run cpos pins s1 σv H1 (fun vs H' => ∃ m3 S3 t y a b, RS X.K X.w g m3 S3 H' ∧ Le m1 H1 m3 H' ∧ vs = [a, b] ∧ RT H' t a ∧ RD m3 H' y b ∧ r n t y S3 Q0) I1
    ⟨m1, σ, S1, _, R1, Rl.mono L1, q1, ⟨fun d2 S2 m2 H2 v2 q2 L2 R2 rd2 => ⟨m2, σ, S2, _, R2, Rl.mono (L1.trans L2), q2, ⟨fun d3 S3 m3 H3 v3 q3 L3 R3 rd3 => by
      split at q3
      · exact ⟨m3, S3, _, d3, v2, v3, R3, L2.trans L3, rfl, RT.mono L3.tup _ _ rd2, rd3, q3⟩
      · exact q3.elim⟩⟩⟩⟩
  rw [hs1] at hA ⊢
  refine Calls.callWith_builtin (by show (false || (backTo cpos (starEach [e2] X.env)).any (·.1)) = false; rw [hpl] <;> rfl) (Calls.evalArgs_plain (thn hA fun us s2 ⟨vs, H2, I2, r2, m3, S3, t, y, a, b, R3, L3, ev, ra, rb, q⟩ => ?_))
  subst ev
  obtain ⟨u1, u2, rfl, w1, w2⟩ := vals2 r2
  exact hm pins s2 σv H2 m3 S3 n t y x a b u u1 u2 Q0 Q I2 R3 (rd1.mono L3) ra rb r1 w1 w2 q (k.le (L1.trans L3))⟩
def mGetD : Nat → T → D → Sto → DQ → Prop := fun n t y S Q => ∃ kvs ep, S[n]? = some (.dct kvs ep) ∧ keyOk t ∧ Q ((getL kvs t).getD y) S
def mSetD : Nat → T → D → Sto → DQ → Prop := fun n t y S Q => ∃ kvs ep, S[n]? = some (.dct kvs ep) ∧ keyOk t ∧ kvs.length < 100000 ∧ (∀ d, getL kvs t = some d → Q d S) ∧ (getL kvs t = none → ∀ ep', Q y (S.set n (.dct (kvs ++ [(t, y)]) ep')))
theorem mt_getD (hu : X.A.units + 10 < cLine) : MtD X g "dict.get" mGetD := by
  intro pins s σ H m S n t y a b c u v w' Q0 Q I R ra rb rc r1 r2 r3 ⟨kvs, ep, h0, h1, h⟩ k
  obtain ⟨a, xs, es, ys, rfl, q⟩ := R.dct I h0 ra
  cases r1
  refine mix_getD hu (key_is I rb r2 h1) q.sy q.mx (fun hn => ?_) fun j p hj => ?_
  · rw [getL_no (q.no hn)] at h
    exact ⟨c, H, I.tok _, r3, k.go h R rc⟩
  · obtain ⟨d0, x0, y0, e1, e2, e3, e4, e5, e6⟩ := q.one hj
    rw [getL_at q.ok.nd e1] at h
    exact ⟨y0, H, I.tok _, e6, k.go h R e4⟩
theorem mt_setD (hu : X.A.units + 10 < cLine) : MtD X g "dict.setdefault" mSetD := by
  intro pins s σ H m S n t y a b c u v w' Q0 Q I R ra rb rc r1 r2 r3 ⟨kvs, ep, h0, h1, hz, h2, h3⟩ k
  obtain ⟨a, xs, es, ys, rfl, q⟩ := R.dct I h0 ra
  cases r1
  refine mix_setD hu (key_is I rb r2 h1) q.sy q.mx (by rw [q.len, sizeLine_eq]; omega) (fun hn h' es' ep' mx' sb => ?_) fun j p hj => ?_
  · obtain ⟨H', I', R', L'⟩ := q.new (tk := s.toks + t.draws) I R sb hn mx' r2 r3 rb rc h1 hz
    rw [putL_no (q.no hn)] at R'
    exact ⟨c, H', I', r3, k.run _ _ _ _ _ (h3 (getL_no (q.no hn)) ep') L' R' (rc.mono L')⟩
  · obtain ⟨d0, x0, y0, e1, e2, e3, e4, e5, e6⟩ := q.one hj
    exact ⟨y0, H, I.tok _, e6, k.go (h2 _ (getL_at q.ok.nd e1)) R e4⟩
theorem de_getD {fo fk fx : ED} (hu : X.A.units + 10 < cLine) (ho : DE g X o fo) (hk : DE g X e fk) (hx : DE g X e2 fx)
    (hbase : attributeBase o "get" X.env (eval o X.env) = eval o X.env := by rfl)
    (hfew : ((backTo cpos (starEach [e, e2] X.env)).all (fun x => !x.1) && (backToKw cpos (keywordEach [] X.env)).all (fun x => x.1.isSome)
      && decide ([e, e2].length + ([] : List Keyword).length + (if ([] : List Keyword).isEmpty then 0 else 1) < 30)) = true := by rfl)
    (hline : (apos.endLine == cpos.line) = true := by rfl) (hs1 : starEach [e, e2] X.env = (false, eval e X.env) :: starEach [e2] X.env := by rfl) (hs2 : starEach [e2] X.env = (false, eval e2 X.env) :: starEach [] X.env := by rfl) (hpl : (backTo cpos (starEach [e2] X.env)).any (·.1) = false := by rfl) :
    DE g X (.Call (.Attribute o "get" apos) [e, e2] [] cpos) (dMt2 mGetD fo fk fx) := de_mt2 PySem.F.slot_dict_get PySem.F.type_dict_get (mt_getD hu) ho hk hx hbase hfew hline hs1 hs2 hpl
theorem de_setdef {fo fk fx : ED} (hu : X.A.units + 10 < cLine) (ho : DE g X o fo) (hk : DE g X e fk) (hx : DE g X e2 fx)
    (hbase : attributeBase o "setdefault" X.env (eval o X.env) = eval o X.env := by rfl)
    (hfew : ((backTo cpos (starEach [e, e2] X.env)).all (fun x => !x.1) && (backToKw cpos (keywordEach [] X.env)).all (fun x => x.1.isSome)
      && decide ([e, e2].length + ([] : List Keyword).length + (if ([] : List Keyword).isEmpty then 0 else 1) < 30)) = true := by rfl)
    (hline : (apos.endLine == cpos.line) = true := by rfl) (hs1 : starEach [e, e2] X.env = (false, eval e X.env) :: starEach [e2] X.env := by rfl) (hs2 : starEach [e2] X.env = (false, eval e2 X.env) :: starEach [] X.env := by rfl) (hpl : (backTo cpos (starEach [e2] X.env)).any (·.1) = false := by rfl) :
    DE g X (.Call (.Attribute o "setdefault" apos) [e, e2] [] cpos) (dMt2 mSetD fo fk fx) := de_mt2 PySem.F.slot_dict_setdefault PySem.F.type_dict_setdefault (mt_setD hu) ho hk hx hbase hfew hline hs1 hs2 hpl
/-! ## len, list, displays -/
def fLenD : FD := fun ds S Q => match ds with
  | [.ref n] => ∃ kvs ep, S[n]? = some (.dct kvs ep) ∧ Q (.dat (.num kvs.length)) S
  | _ => False
theorem cr_lenD : CallR X (.builtin "len") (cD X.K X.w g fLenD) := by
  intro pins s σ H xs us Q I r ⟨m, S, ds, Q0, R, rs, h, k⟩
  unfold fLenD at h
  split at h
  · obtain ⟨kvs, ep, h0, h⟩ := h
    obtain ⟨v, rfl, rv⟩ := one_rd rs
    obtain ⟨u, rfl, ru⟩ := vals1 r
    obtain ⟨a, xs, es, ys, rfl, q⟩ := R.dct I h0 rv
    cases ru
    have z := q.ok.sz
    refine mix_len q.sy q.mx (by rw [q.len]; exact z) ⟨.int kvs.length, H, I.tok _, ⟨s.toks + 1, by rw [q.len]⟩, k.go h R (.num _)⟩
  · exact h.elim
theorem RS.newD (R : RS X.K X.w g m S H) {kvs : List (T × D)} {ep : Nat} {xs : List (T × V × V)} {p : Addr} (hp : H p = none) (sy : (p == sysModules) = false) (ok : DOk kvs) (kx : Paired (DKV m H) kvs xs) :
    RS X.K X.w g (m ++ [p]) (S ++ [.dct kvs ep]) (upd H p (.ext (dphi X.w p ep xs))) :=
  R.reg hp ⟨sy, ok, xs, upd_same, Paired.imp (fun _ _ z => ⟨z.1, RT.mono (tle_new hp) _ _ z.2.1, RD.mono (le_reg hp) z.2.2⟩) kx⟩
def dDict0 : ED := fun _ S Q => ∀ ep, Q (.ref S.length) (S ++ [.dct [] ep])
theorem dmix0 {w : World} (h : Heap) : DMix w (h.push { cls := .type "dict", data := .dict #[] }) h.objs.size #[] 0 [] :=
  ⟨⟨_, Heap.get?_push_size _ rfl, ⟨rfl, rfl, rfl⟩, rfl⟩, rfl, (fun _ h => nomatch h), List.nodup_nil⟩
theorem dok0 : DOk [] := ⟨List.nodup_nil, Nat.zero_le _, fun _ h => nomatch h⟩
theorem de_dict0 {pos : Pos} : DE g X (.Dict [] [] pos) dDict0 := ⟨fun pins s σv H Q I ⟨m, σ, S, Q0, R, Rl, h, k⟩ => by
  have hn : H s.heap.objs.size = none := I.hok.fresh (Nat.le_refl _)
  have sy : (s.heap.objs.size == sysModules) = false := beq_eq_false_iff_ne.mpr (Ne.symm (Nat.ne_of_lt I.big))
  refine wpAny_Dict_empty ⟨.ref s.heap.objs.size, _, I.laid (a := s.heap.objs.size) (o := .ext (dphi X.w s.heap.objs.size 0 [])) (t' := s.toks) (fun _ _ q => Heap.get?_push_of_some _ q) (Nat.le_refl _)
    ⟨dphi_of (dmix0 s.heap) .nil, ⟨_, Heap.get?_push_size _ rfl⟩, dphi_stay⟩, rfl, ?_⟩
  exact k.run _ _ _ _ _ (h 0) (le_reg hn) (R.newD hn sy dok0 .nil) ⟨_, by rw [← R.len]; simp, rfl⟩⟩
def dDict1 (fk fv : ED) : ED := fun σ S Q => fk σ S fun k S1 => fv σ S1 fun v S2 => match k with
  | .dat t => keyOk t ∧ ∀ ep, Q (.ref S2.length) (S2 ++ [.dct [(t, v)] ep])
  | _ => False
theorem storeOne {P : Program} {w : World} {A : Around} {d : Addr} {x : Value × Value} {Q : PUnit → Shared → Prop} {E : Value → Shared → Prop} {s : Shared} (h : wpAny (model P w) A (dictSet d x.1 x.2) (fun _ s' => Q PUnit.unit s') E s) : wpAny (model P w) A (storeAll d [x]) Q E s := by
  unfold storeAll
  rw [List.forIn_cons]
  refine wpAny_bind (wpAny_bind (wpAny_mono h (fun _ s' q => wpAny_pure ?_) fun _ _ e => e))
  exact wpAny_pure q
theorem off_fresh {m m1 : List Addr} {H H1 : Hp} {p : Addr} {o : HO} (hp : H p = none) (e : Le m (upd H p o) m1 H1) : Le m H m1 H1 where
  pre := e.pre
  tup := fun b xs q => e.tup b xs (by rw [upd_ne (ne_of_none q hp)]; exact q)
  kp := fun b u hb q => e.kp b u hb (by rw [upd_ne (ne_of_none q hp)]; exact q)
  nw := fun b hb => by
    rcases e.nw b hb with z | z
    · exact .inl z
    · right
      unfold upd at z
      split at z
      · cases z
      · exact z
theorem RS.off {K : PySem.W.Frag} {w : World} {m : List Addr} {S : Sto} {H : Hp} {p : Addr} {u o : HO} (R : RS K w g m S H) (hp : p ∉ m) (hs : NotScr K g p) (hu : H p = some u) (ku : MutK u) : RS K w g m S (upd H p o) := by
  have ne : ∀ {b : Addr} {z : HO}, H b = some z → ¬ MutK z → b ≠ p := fun e k q => by subst q; rw [hu] at e; cases e; exact k ku
  refine ⟨R.len, R.nd, fun n a ob h1 h2 => ?_, fun P hP => ?_, fun P hP => ?_, ?_⟩
  · have hap : a ≠ p := fun z => by subst z; exact hp (List.mem_of_getElem? h1)
    have q := R.obj n a ob h1 h2
    have tl : TLe H (upd H p o) := fun b xs e => by rw [upd_ne (ne e (fun z => z))]; exact e
    have rd : ∀ d v, RD m H d v → RD m (upd H p o) d v := fun d v r => by
      cases d with
      | dat t => exact RT.mono tl t _ r
      | bl b => exact r
      | ref n => exact r
      | raw v => exact r
    cases ob with
    | lst ds => obtain ⟨vs, e1, e2⟩ := q; exact ⟨vs, by rw [upd_ne hap]; exact e1, Paired.imp rd e2⟩
    | dct kvs ep => obtain ⟨e0, e1, xs, e2, e3⟩ := q; exact ⟨e0, e1, xs, by rw [upd_ne hap]; exact e2, Paired.imp (fun _ _ z => ⟨z.1, RT.mono tl _ _ z.2.1, rd _ _ z.2.2⟩) e3⟩
    | ins C fs => obtain ⟨dx, vfs, e1, e2⟩ := q; exact ⟨dx, vfs, by rw [upd_ne hap]; exact e1, Paired.imp (fun _ _ z => ⟨z.1, rd _ _ z.2⟩) e2⟩
  · obtain ⟨ps, e, t⟩ := R.tz P hP
    exact ⟨ps, by rw [upd_ne (ne e (fun z => z))]; exact e, t⟩
  · rw [upd_ne (ne (R.tl P hP) (fun z => z))]; exact R.tl P hP
  · rcases R.sc with ⟨v, e, h2, h3⟩ | hk
    · rcases hs with hs | hs
      · exact .inr hs
      · exact .inl ⟨v, by rw [upd_ne (Ne.symm hs)]; exact e, h2, h3⟩
    · exact .inr hk
theorem Le.off {m m1 : List Addr} {H H1 : Hp} {p : Addr} {u o : HO} (e : Le m H m1 H1) (hp : H p = none) (hu : H1 p = some u) (ku : MutK u) : Le m H m1 (upd H1 p o) where
  pre := e.pre
  tup := fun b xs q => by rw [upd_ne (ne_of_none q hp)]; exact e.tup b xs q
  kp := fun b z hb q => by rw [upd_ne (ne_of_none q hp)]; exact e.kp b z hb q
  nw := e.nw
theorem Le.nm {m m1 : List Addr} {H H1 : Hp} {p : Addr} (e : Le m H m1 H1) (hp : H p = none) : Le m H (m1 ++ [p]) H1 where
  pre := e.pre.trans (List.prefix_append _ _)
  tup := e.tup
  kp := e.kp
  nw := fun b hb => by
    rcases List.mem_append.mp hb with hb | hb
    · exact e.nw b hb
    · have q : b = p := by simpa using hb
      subst q; exact .inr hp
/-- only for what stands: places and tuples -/
structure Lt (m : List Addr) (H : Hp) (m1 : List Addr) (H1 : Hp) : Prop where
  pre : m <+: m1
  tup : TLe H H1
theorem RD.lt {m m1 : List Addr} {H H1 : Hp} (e : Lt m H m1 H1) {d : D} {v : V} (r : RD m H d v) : RD m1 H1 d v := by
  cases d with
  | dat t => exact RT.mono e.tup t _ r
  | bl b => exact r
  | ref n =>
    obtain ⟨a, h1, h2⟩ := r
    obtain ⟨t, rfl⟩ := e.pre
    exact ⟨a, by rw [List.getElem?_append_left (List.getElem?_eq_some_iff.mp h1).1]; exact h1, h2⟩
  | raw v => exact r
theorem lt_offnm {m : List Addr} {H : Hp} {p : Addr} {u o : HO} (hu : H p = some u) (ku : MutK u) : Lt m H (m ++ [p]) (upd H p o) := ⟨List.prefix_append _ _, tle_mut hu ku⟩
theorem de_dict1 {k v : Expr} {fk fv : ED} {pos : Pos} (hu : X.A.units + 10 < cLine) (hk : DE g X k fk) (hv : DE g X v fv) : DE g X (.Dict [some k] [v] pos) (dDict1 fk fv) := ⟨fun pins s σv H Q I ⟨m, σ, S, Q0, R, Rl, h, kk⟩ => by
  have hn : H s.heap.objs.size = none := I.hok.fresh (Nat.le_refl _)
  have sy : (s.heap.objs.size == sysModules) = false := beq_eq_false_iff_ne.mpr (Ne.symm (Nat.ne_of_lt I.big))
  generalize hp : s.heap.objs.size = p at hn sy
  have I1 : Inv X pins σv (upd H p (.ext (dphi X.w p 0 []))) { s with heap := s.heap.push { cls := .type "dict", data := .dict #[] } } := by
    subst hp
    exact I.laid (a := s.heap.objs.size) (o := .ext (dphi X.w s.heap.objs.size 0 [])) (t' := s.toks) (fun _ _ q => Heap.get?_push_of_some _ q) (Nat.le_refl _) ⟨dphi_of (dmix0 s.heap) .nil, ⟨_, Heap.get?_push_size _ rfl⟩, dphi_stay⟩
  have L0 : Le m H m (upd H p (.ext (dphi X.w p 0 []))) := le_new hn
  refine wpAny_Dict_any rfl rfl (by simp) (by simp) ?_
  rw [hp]
  refine thn ((pps_cons hk hv pps_nil).run pins _ σv _ (fun ps H' => ∃ m3 S3 t y a b, RS X.K X.w g m3 S3 H' ∧ Le m (upd H p (.ext (dphi X.w p 0 []))) m3 H' ∧ ps = [(a, b)] ∧ RT H' t a ∧ RD m3 H' y b ∧ keyOk t ∧ ∀ ep, Q0 (.ref S3.length) (S3 ++ [.dct [(t, y)] ep])) I1
    ⟨m, σ, S, _, R.fresh hn, Rl.mono L0, h, ⟨fun d2 S2 m2 H2 v2 q2 L2 R2 rd2 => ⟨m2, σ, S2, _, R2, (Rl.mono L0).mono L2, q2, ⟨fun d3 S3 m3 H3 v3 q3 L3 R3 rd3 => by
      split at q3
      · exact ⟨m3, S3, _, d3, v2, v3, R3, L2.trans L3, rfl, RT.mono L3.tup _ _ rd2, rd3, q3.1, q3.2⟩
      · exact q3.elim⟩⟩⟩⟩) fun vs s2 ⟨ps, H2, I2, rel, m3, S3, t, y, a, b, R3, L3, e, ra, rb, k1, q⟩ => ?_
  subst e
  cases rel with
  | cons r0 r1 =>
    cases r1
    rename_i x
    obtain ⟨x1, x2⟩ := x
    obtain ⟨hk1, hpm⟩ := L3.kept (b := p) (R.notin hn) upd_same (fun ps z => by cases z)
    obtain ⟨⟨o, es, e1, e2, e3, e4⟩, _, _⟩ := I2.hok p _ hk1
    cases e4h : es.toList with
    | cons _ _ => rw [e4h] at e4; cases e4
    | nil =>
      have mx : DMix X.w s2.heap p es 0 [] := ⟨⟨o, e1, e2, e3⟩, by rw [e4h]; rfl, (fun _ h => nomatch h), List.nodup_nil⟩
      refine storeOne (mix_set (by omega) (key_is I2 ra r0.1 k1) mx (Nat.zero_le _) (fun hno h' es' ep' mx' sb => ?_) fun j q hj => by cases hj)
      obtain ⟨o', ho', _⟩ := mx'.raw
      have I3 : Inv X pins σv (upd H2 p (.ext (dphi X.w p ep' [(t, a, b)]))) { s2 with heap := h', toks := s2.toks + t.draws } :=
        I2.write (x := p) (e := p) (by rw [hk1]; exact True.intro) (.inl rfl) (fun b u hb z => (sb.2 b hb).trans z) ⟨o', ho'⟩ ⟨dphi_of mx' (.cons ⟨rfl, r0.1, r0.2⟩ .nil), ⟨o', ho'⟩, dphi_stay⟩
      have L4 := ((off_fresh hn L3).off hn hk1 trivial (o := .ext (dphi X.w p ep' [(t, a, b)]))).nm hn
      have Lm : Lt m3 H2 (m3 ++ [p]) (upd H2 p (.ext (dphi X.w p ep' [(t, a, b)]))) := lt_offnm hk1 trivial
      have R4 := ((R3.off hpm (R.notScr hn) hk1 trivial (o := .ext (dphi X.w p ep' [(t, a, b)]))).name hpm (R.notScr hn) (ao := .dct [(t, y)] ep') ⟨sy, ⟨by simp, by simp [sizeLine_eq], fun q hq => by
        have e : q = (t, y) := by simpa using hq
        subst e; exact k1⟩, _, upd_same, .cons ⟨rfl, RT.mono Lm.tup _ _ ra, RD.lt Lm rb⟩ .nil⟩)
      exact ⟨.ref p, _, I3, rfl, kk.run _ _ _ _ _ (q ep') L4 R4 ⟨p, by rw [← R3.len]; simp, rfl⟩⟩⟩
end
end L2.LL

/-! # LLIter -/
set_option Elab.async false
set_option linter.all false
set_option maxRecDepth 100000
set_option maxHeartbeats 2000000
namespace L2.LL
open PySem PySem.Spec PyProof.Rows

/-! ## enumerate of a tuple -/
theorem made_enumT (l : Addr) (items : Array Value) (n : Nat) (dct : Option Addr) (sl : Array (Option Value)) :
    Meets (Builtin.«enumerate.__new__» ⟨[.type "enumerate", .ref l], []⟩) (fun _ R s => s.heap.get? l = some { cls := .type "tuple", dict := dct, data := .seq items n, slots := sl } ∧
      R (.ok (.ret (.ref (s.heap.push { cls := .type "tuple_iterator", data := .fields #[.ref l, .int 0 0] }).objs.size)))
        { s with heap := (s.heap.push { cls := .type "tuple_iterator", data := .fields #[.ref l, .int 0 0] }).push { cls := .type "enumerate", data := .fields #[.none, .bool false, .ref s.heap.objs.size, rawInt 0, .none, .none] } }) :=
  .of_wp fun prog w A R s h => by
    obtain ⟨hp, g, d, tk, os⟩ := s; obtain ⟨hl, h⟩ := h
    have hsub := sub_enumerate
    have hT : Heap.IsTuple (Shared.heap ⟨hp, g, d, tk, os⟩) l items := ⟨_, hl, rfl, n, rfl⟩
    wp_walk using wpAny_loadPart' hl
    refine wpAny_stack_any fun st => wpAny_pure ?_
    split
    · rename_i c _ _ _ _ _
      cases (c == Value.type "enumerate")
      all_goals
        wp_walk using wpAny_loadPart' hl, wpAny_pyIter_tuple hT
        exact ⟨_, rfl, h⟩
    · wp_walk using wpAny_loadPart' hl, wpAny_pyIter_tuple hT
      exact ⟨_, rfl, h⟩
theorem call_enumT {P : Program} {w : World} {A : Around} {E : Value → Shared → Prop} {s : Shared} {l : Addr} {items : Array Value} {Q : Value → Shared → Prop} (hL : s.heap.IsTuple l items)
    (h : ∀ h', IsEnum h' (s.heap.objs.size + 1) s.heap.objs.size 0 .none → h'.IsTupleIter s.heap.objs.size l 0 → (∀ b o, s.heap.get? b = some o → h'.get? b = some o) → Q (.ref (s.heap.objs.size + 1)) { s with heap := h' }) :
    wpAny (model P w) A (call (.type "enumerate") [.ref l]) Q E s := by
  obtain ⟨⟨c, dct, dt, sl⟩, hl, hc, n, hd⟩ := hL
  simp only at hc hd
  subst hc hd
  refine callType_new F.called_enumerate (by decide) (F.typeCall_enumerate_1 _) (F.newCall_enumerate_1 _) (fun obj => F.args_object_init_2 obj _) F.entry_enumerate_new (made_enumT l items n dct sl) ⟨hl, ?_⟩
  have hz : (s.heap.push { cls := .type "tuple_iterator", data := .fields #[.ref l, .int 0 0] }).objs.size = s.heap.objs.size + 1 := Heap.size_push ..
  show _ ∧ _
  rw [hz]
  have he : IsEnum ((s.heap.push { cls := .type "tuple_iterator", data := .fields #[.ref l, .int 0 0] }).push
      { cls := .type "enumerate", data := .fields #[.none, .bool false, .ref s.heap.objs.size, rawInt 0, .none, .none] }) (s.heap.objs.size + 1) s.heap.objs.size 0 .none := by
    have z := Heap.get?_push_size (s.heap.push { cls := .type "tuple_iterator", data := .fields #[.ref l, .int 0 0] })
      (o := { cls := .type "enumerate", data := .fields #[.none, .bool false, .ref s.heap.objs.size, rawInt 0, .none, .none] }) rfl
    rw [hz] at z; exact z
  exact ⟨⟨_, he, rfl⟩, h _ he ⟨_, Heap.get?_push_of_some _ (Heap.get?_push_size _ rfl), rfl, rfl⟩ fun b o x => Heap.get?_push_of_some _ (Heap.get?_push_of_some _ x)⟩
/-- the tuple at a, each item in a new pair -/
def ItE (K : PySem.W.Frag) (a : Addr) : It :=
  ⟨fun i H => ∃ (xs : List V) (x : V), SqT K H a xs ∧ xs[i]? = some x, fun i H v H' => ∃ T x, v = .ref T ∧ H T = none ∧ H' = upd H T (.tup [.int (i : Nat), x]) ∧ ∀ xs, SqT K H a xs → xs[i]? = some x, fun i H => ∃ xs : List V, SqT K H a xs ∧ xs.length ≤ i⟩
theorem turn_enumT {P : Program} {w : World} {K : PySem.W.Frag} {elts : List Expr} {kk : Nat} {tpos : Pos} (a e it : Addr) :
    Turn P w K (.Tuple elts kk tpos) (ItE K a) [e, it] e (fun i h => (∃ old, IsEnum h e it ((i : Nat) : Int) old) ∧ h.IsTupleIter it a i ∧ e ≠ it) where
  mem := by simp
  obj := fun i h st b hb => by
    obtain ⟨⟨old, he⟩, ⟨o, ho, hc, hd⟩, _⟩ := st
    rcases (by simpa using hb : b = e ∨ b = it) with z | z
    · rw [z]; exact ⟨_, he, fun v q => nomatch q⟩
    · rw [z]; exact ⟨o, ho, fun v q => by rw [hd] at q; cases q⟩
  keep := fun i h h' st k => let ⟨⟨old, he⟩, ⟨o, ho, r⟩, hne⟩ := st; ⟨⟨old, k e (by simp) _ he⟩, ⟨o, k it (by simp) _ ho, r⟩, hne⟩
  item := by
    intro X hP hw hK hc i pins s σ H E I hf st hg
    subst hP hw hK
    obtain ⟨⟨old, he⟩, hit, hne⟩ := st
    obtain ⟨xs, x, hq, hx⟩ := hg
    obtain ⟨its, rv, p, hz⟩ := I.tuple hq
    obtain ⟨u, hu, ru⟩ := rv.get hx
    have hel : e < s.heap.objs.size := Heap.lt_size he
    have hil : it < s.heap.objs.size := by obtain ⟨_, q, _⟩ := hit; exact Heap.lt_size q
    obtain ⟨oa, hoa, hca, na, hda⟩ := id p
    have hai : a ≠ it := fun z => by
      obtain ⟨oi, hoi, hci, hdi⟩ := hit
      subst z; rw [hoa] at hoi; cases hoi; rw [hda] at hdi; cases hdi
    have hae : a ≠ e := fun z => by
      subst z
      have z2 := hoa.symm.trans he
      cases z2
      cases hda
    have D := Draws.tuple (prog := X.prog) (w := X.w) (A := X.A.in1) (I.ok.hd hc) it a hai its.toArray
    have hil2 : i < its.toArray.size := by simpa using (List.getElem?_eq_some_iff.mp hu).1
    refine wpAny_pyNext_enum_itemD D he ⟨hit, p⟩ hil2 hne (by simp [hne, hae.symm]) fun x1 h' tk hx1 ho hst hT hsz hk => ?_
    have ex : x1 = u := by
      have z : its.toArray[i]? = some x1 := hx1
      rw [List.getElem?_toArray, hu] at z
      cases z; rfl
    subst ex
    refine ⟨_, rfl, wpAny_letOwnedTupleGo_enum (s := { s with heap := h', toks := tk + 1 }) ho fun h'' he' sb => ?_⟩
    have hT2 : h''.get? s.heap.objs.size = some { cls := .type "tuple", data := .seq #[.int i tk, x1] } := (sb.2 _ (Nat.ne_of_gt hel)).trans hT
    have new : ObjOk X.prog X.w (upd H s.heap.objs.size (.tup [.int (i : Nat), x])) h'' s.heap.objs.size (.tup [.int (i : Nat), x]) :=
      ⟨by show 2 ≤ sizeLine; decide, [.int i tk, x1], .cons ⟨_, rfl⟩ (.cons ru .nil), ⟨_, hT2, rfl, _, rfl⟩⟩
    have I1 : Inv X pins σ (upd H s.heap.objs.size (.tup [.int (i : Nat), x])) { s with heap := h'', toks := tk + 1 } :=
      I.turnedNew (ch := [e, it]) (fun b ob hb q => (sb.2 b (fun z => hb (by simp [z]))).trans (hk b ob (fun z => hb (by simp [z])) (fun z => hb (by simp [z])) q)) hf (Nat.le_refl _) new
    refine ⟨.ref s.heap.objs.size, _, I1, rfl, ⟨_, x, rfl, I.hok.fresh (Nat.le_refl _), rfl, fun ys hy => by rw [I.tuple_inj hy hq]; exact hx⟩, ⟨⟨x1, ?_⟩, ?_, hne⟩, fun b hb => ?_⟩
    · have e1 : ((i + 1 : Nat) : Int) = (i : Int) + 1 := by omega
      rw [e1]; exact he'
    · obtain ⟨o2, ho2, r2⟩ := hst.1
      exact ⟨o2, (sb.2 it (Ne.symm hne)).trans ho2, r2⟩
    · have hb' : b < s.heap.objs.size := by
        rcases (by simpa using hb : b = e ∨ b = it) with z | z
        · rw [z]; exact hel
        · rw [z]; exact hil
      rw [upd_ne (Nat.ne_of_lt hb')]
      exact (hf b hb).1
  done := by
    intro X hP hw hK hc i pins s σ H E I hf st hg
    subst hP hw hK
    obtain ⟨⟨old, he⟩, hit, hne⟩ := st
    obtain ⟨xs, hq, hx⟩ := hg
    obtain ⟨its, rv, p, hz⟩ := I.tuple hq
    obtain ⟨f0, f1, f2, f3, f4, f5⟩ := hf it (by simp)
    have hl := rv.length
    have hT : s.TypeIs (.ref e) "enumerate" := ⟨_, he, rfl⟩
    unfold pyNext
    refine wpAny_bind (wpAny_attempt (wpAny_callSpecial?_slot (name := Str.ofString "__next__") hT F.slot_enumerate_next (wpAny_call_entry F.slot_enumerate_next hT F.entry_enumerate_next ?_ (F.args_enumerate_next_1 _))))
    show wpAny _ _ (field (.ref e) 2 >>= _) _ _ _
    refine wpAny_bind (wpAny_field he rfl (x := .ref it) rfl (wpAny_bind (wpAny_nextOf_tuple_end (I.ok.hd hc) hit (show s.heap.IsTuple a its.toArray from p) (by simp; omega) fun h' x he' hx' => ?_)))
    obtain ⟨o, ho, hcc⟩ := hx'
    refine wpAny_bind (wpAny_isInstance (T := "StopIteration") (b := true) ⟨o, ho, hcc⟩ isSubtype_stop ?_)
    exact wpAny_pure ⟨rfl, I.turned (t' := s.toks) (fun b o hb q => he' b o hb q) f0 f1 f3 f4 f5⟩
  self := fun A i s Q E st h => let ⟨⟨_, he⟩, _⟩ := st; wpAny_pyIter_enum he h
def iEnumT (K : PySem.W.Frag) (ta : TA) : TI := fun σ H R => ta σ H fun vs H1 => ∃ a xs, vs = [.ref a] ∧ SqT K H1 a xs ∧ R (ItE K a) H1
theorem pi_enumT {X : Cx} {e : Expr} {ta : TA} {p pos tpos : Pos} {elts : List Expr} {kk : Nat} (hg : Gl X "enumerate") (hm : X.mg "enumerate" = none) (ha : PA X [e] ta) (hs : starEach [e] X.env = [(false, eval e X.env)] := by rfl) :
    PI X (.Tuple elts kk tpos) (.Call (.Name "enumerate" p) [e] [] pos) (iEnumT X.K ta) := by
  refine ⟨fun pins s σ H R I h => Call_ (ld_blt I hg hm boot_enumerate (PyProof.Rows.callWith_type1 (thn (ha.run pos pins s σ H _ I h) fun us s1 ⟨vs, H1, I1, r1, a, xs, ex, hq, q⟩ => ?_) hs rfl))⟩
  subst ex
  cases r1 with
  | cons r rr =>
    cases rr
    cases r
    obtain ⟨its, rv, p', hz⟩ := I1.tuple hq
    refine call_enumT (show s1.heap.IsTuple a its.toArray from p') fun h' he hit hk => wpAny_pyIter_enum he ?_
    have I2 : Inv X pins σ H1 { s1 with heap := h' } := I1.kept (t' := s1.toks) hk
    refine ⟨s1.heap.objs.size + 1, [s1.heap.objs.size + 1, s1.heap.objs.size], _, _, H1, rfl, I2, turn_enumT a (s1.heap.objs.size + 1) s1.heap.objs.size, ⟨⟨.none, he⟩, hit, Nat.succ_ne_self _⟩, fun b hb => ?_, q⟩
    have hle : s1.heap.objs.size ≤ b := by
      rcases (by simpa using hb : b = s1.heap.objs.size + 1 ∨ b = s1.heap.objs.size) with z | z
      · rw [z]; exact Nat.le_succ _
      · rw [z]; exact Nat.le_refl _
    exact I1.fpOk hle (I1.hok.fresh hle)

/-! ## a dict's keys, a dict's pairs -/
theorem dphi_at {P : Program} {w : World} {H : Hp} {h : Heap} {d : Addr} {ep : Nat} {xs : List (T × V × V)} (ok : HOk P w H h) (e : H d = some (.ext (dphi w d ep xs))) : ∃ es : Array DictEntry, h.DictRaw d es ep ∧ Paired (DEnt w) es.toList xs := by
  obtain ⟨⟨o, es, e1, e2, e3, e4⟩, _, _⟩ := ok d _ e
  exact ⟨es, ⟨o, e1, e2, e3⟩, e4⟩
theorem raw_eq {h : Heap} {d : Addr} {es es' : Array DictEntry} {ep ep' : Nat} (a : h.DictRaw d es ep) (b : h.DictRaw d es' ep') : es' = es := by
  obtain ⟨o, h1, _, h2⟩ := a
  obtain ⟨o', h3, _, h4⟩ := b
  rw [h1] at h3; cases h3
  rw [h2] at h4; cases h4; rfl
theorem dent_at {w : World} {es : Array DictEntry} {xs : List (T × V × V)} (p : Paired (DEnt w) es.toList xs) {i : Nat} {x : T × V × V} (e : xs[i]? = some x) : ∃ hi : i < es.size, RelV x.2.1 es[i].key ∧ RelV x.2.2 es[i].val := by
  obtain ⟨q, h1, h2⟩ := Paired.back p e
  have hi : i < es.size := by simpa using (List.getElem?_eq_some_iff.mp h1).1
  have h3 : es[i] = q := by
    have z := h1
    rw [Array.getElem?_toList, Array.getElem?_eq_getElem hi] at z
    cases z; rfl
  exact ⟨hi, by rw [h3]; exact h2.2.1, by rw [h3]; exact h2.2.2⟩
/-- the keys of the dict at d -/
def ItK (w : World) (d : Addr) (ep n : Nat) : It :=
  ⟨fun i H => ∃ xs, H d = some (.ext (dphi w d ep xs)) ∧ xs.length = n ∧ i < n,
   fun i H v H' => H' = H ∧ ∀ xs, H d = some (.ext (dphi w d ep xs)) → ∃ x, xs[i]? = some x ∧ v = x.2.1,
   fun i H => ∃ xs, H d = some (.ext (dphi w d ep xs)) ∧ xs.length = n ∧ n ≤ i⟩
/-- the pairs of the dict at d -/
def ItD (w : World) (d : Addr) (ep n : Nat) : It :=
  ⟨fun i H => ∃ xs, H d = some (.ext (dphi w d ep xs)) ∧ xs.length = n ∧ i < n,
   fun i H v H' => ∃ p k y, v = .ref p ∧ H p = none ∧ H' = upd H p (.tup [k, y]) ∧ ∀ xs, H d = some (.ext (dphi w d ep xs)) → ∃ x, xs[i]? = some x ∧ k = x.2.1 ∧ y = x.2.2,
   fun i H => ∃ xs, H d = some (.ext (dphi w d ep xs)) ∧ xs.length = n ∧ n ≤ i⟩
theorem psize {w : World} {es : Array DictEntry} {xs : List (T × V × V)} (p : Paired (DEnt w) es.toList xs) : es.size = xs.length := by
  rw [← Paired.length p, Array.length_toList]
theorem turn_K {P : Program} {w : World} {K : PySem.W.Frag} {tg : Expr} {d ep0 : Addr} {ep n : Nat} (it : Addr) : Turn P w K tg (ItK w d ep n) [it] it (fun i h => h.IsKeyIter it d i n ep) where
  mem := by simp
  obj := fun i h st b hb => by
    obtain rfl : b = it := by simpa using hb
    obtain ⟨oi, e, c, dd⟩ := st
    exact ⟨oi, e, fun v z => by rw [dd] at z; cases z⟩
  keep := fun i h h' st k => st.at fun oi e => k it (by simp) oi e
  item := by
    intro X hP hw hK hc i pins s σ H E I hf st ⟨xs, hd, hl, hi⟩
    subst hP hw hK
    obtain ⟨f0, f1, f2, f3, f4, f5⟩ := hf it (by simp)
    obtain ⟨es, raw, pr⟩ := dphi_at I.hok hd
    have hes : es.size = n := (psize pr).trans hl
    have hx : xs[i]? = some xs[i] := List.getElem?_eq_getElem _
    obtain ⟨hi', r1, r2⟩ := dent_at pr hx
    refine wpAny_pyNext_keys_item_raw (by rw [hes]; exact st) raw hi' fun h' st' sb => ?_
    rw [hes] at st'
    have I1 : Inv X pins σ H { s with heap := h' } := I.turned (t' := s.toks) (fun b ob hb e => (sb.2 b hb).trans e) f0 f1 f3 f4 f5
    obtain ⟨oi, e, c, dd⟩ := id st'
    refine ⟨_, rfl, go_of (s := { s with heap := h' }) e c dd (by decide) ⟨_, H, I1, r1, ⟨rfl, fun xs' hd' => ?_⟩, st', fun b hb => (hf b hb).1⟩⟩
    obtain ⟨es', raw', pr'⟩ := dphi_at I.hok hd'
    obtain rfl := raw_eq raw raw'
    have hl' : xs'.length = n := (psize pr').symm.trans hes
    have hx' : xs'[i]? = some xs'[i] := List.getElem?_eq_getElem _
    obtain ⟨_, q1, _⟩ := dent_at pr' hx'
    exact ⟨_, hx', r1.inj q1⟩
  done := by
    intro X hP hw hK hc i pins s σ H E I hf st ⟨xs, hd, hl, hi⟩
    subst hP hw hK
    obtain ⟨f0, f1, f2, f3, f4, f5⟩ := hf it (by simp)
    obtain ⟨es, raw, pr⟩ := dphi_at I.hok hd
    have hes : es.size = n := (psize pr).trans hl
    exact wpAny_pyNext_keys_end_raw (I.ok.hd hc) (by rw [hes]; exact st) raw (by omega) fun h' eb => ⟨rfl, I.turned (t' := s.toks) (fun b ob hb e => eb b ob hb e) f0 f1 f3 f4 f5⟩
  self := fun A i s Q E st h => wpAny_pyIter_keyiter st h
theorem turn_D {P : Program} {w : World} {K : PySem.W.Frag} {d : Addr} {ep n : Nat} {elts : List Expr} {kk : Nat} {tpos : Pos} (it : Addr) :
    Turn P w K (.Tuple elts kk tpos) (ItD w d ep n) [it] it (fun i h => ∃ ok ov, IsItemIter h it d i n ep ok ov) where
  mem := by simp
  obj := fun i h st b hb => by
    obtain rfl : b = it := by simpa using hb
    obtain ⟨ok, ov, e⟩ := st
    exact ⟨_, e, fun v z => nomatch z⟩
  keep := fun i h h' st k => let ⟨ok, ov, e⟩ := st; ⟨ok, ov, k it (by simp) _ e⟩
  item := by
    intro X hP hw hK hc i pins s σ H E I hf st ⟨xs, hd, hl, hi⟩
    subst hP hw hK
    obtain ⟨es, raw, pr⟩ := dphi_at I.hok hd
    have hes : es.size = n := (psize pr).trans hl
    have hx : xs[i]? = some xs[i] := List.getElem?_eq_getElem _
    obtain ⟨hi', r1, r2⟩ := dent_at pr hx
    obtain ⟨ok, ov, he⟩ := st
    have hlt : it < s.heap.objs.size := Heap.lt_size he
    refine wpAny_pyNext_items_item_raw (by rw [hes]; exact he) raw hi' fun h' ho hT hz hk => ?_
    refine ⟨_, rfl, wpAny_letOwnedTupleGo_items (s := { s with heap := h' }) ho fun h'' he' sb => ?_⟩
    have hT2 : h''.get? s.heap.objs.size = some { cls := .type "tuple", data := .seq #[es[i].key, es[i].val] } := (sb.2 _ (Nat.ne_of_gt hlt)).trans hT
    have new : ObjOk X.prog X.w (upd H s.heap.objs.size (.tup [xs[i].2.1, xs[i].2.2])) h'' s.heap.objs.size (.tup [xs[i].2.1, xs[i].2.2]) :=
      ⟨by show 2 ≤ sizeLine; decide, [es[i].key, es[i].val], .cons r1 (.cons r2 .nil), ⟨_, hT2, rfl, _, rfl⟩⟩
    have I1 : Inv X pins σ (upd H s.heap.objs.size (.tup [xs[i].2.1, xs[i].2.2])) { s with heap := h'' } :=
      I.turnedNew (t' := s.toks) (ch := [it]) (fun b ob hb e => (sb.2 b (by simpa using hb)).trans (hk b ob (by simpa using hb) e)) hf (Nat.le_refl _) new
    refine ⟨.ref s.heap.objs.size, _, I1, rfl, ⟨_, _, _, rfl, I.hok.fresh (Nat.le_refl _), rfl, fun xs' hd' => ?_⟩, ⟨es[i].key, es[i].val, ?_⟩, fun b hb => ?_⟩
    · obtain ⟨es', raw', pr'⟩ := dphi_at I.hok hd'
      obtain rfl := raw_eq raw raw'
      have hl' : xs'.length = n := (psize pr').symm.trans hes
      have hx' : xs'[i]? = some xs'[i] := List.getElem?_eq_getElem _
      obtain ⟨_, q1, q2⟩ := dent_at pr' hx'
      exact ⟨_, hx', r1.inj q1, r2.inj q2⟩
    · rw [hes] at he'; exact he'
    · have e : b = it := by simpa using hb
      rw [e, upd_ne (Nat.ne_of_lt hlt)]
      exact (hf it (by simp)).1
  done := by
    intro X hP hw hK hc i pins s σ H E I hf st ⟨xs, hd, hl, hi⟩
    subst hP hw hK
    obtain ⟨f0, f1, f2, f3, f4, f5⟩ := hf it (by simp)
    obtain ⟨es, raw, pr⟩ := dphi_at I.hok hd
    have hes : es.size = n := (psize pr).trans hl
    obtain ⟨ok, ov, he⟩ := st
    exact wpAny_pyNext_items_end_raw (I.ok.hd hc) (by rw [hes]; exact he) raw (by omega) fun h' eb => ⟨rfl, I.turned (t' := s.toks) (fun b ob hb e => eb b ob hb e) f0 f1 f3 f4 f5⟩
  self := fun A i s Q E st h => let ⟨_, _, e⟩ := st; wpAny_pyIter_itemiter e h
def iKD (w : World) (td : TE) : TI := fun σ H R => td σ H fun x H1 => ∃ d ep xs, x = .ref d ∧ (d == sysModules) = false ∧ H1 d = some (.ext (dphi w d ep xs)) ∧ R (ItK w d ep xs.length) H1
def iDD (w : World) (td : TE) : TI := fun σ H R => td σ H fun x H1 => ∃ d ep xs, x = .ref d ∧ (d == sysModules) = false ∧ H1 d = some (.ext (dphi w d ep xs)) ∧ R (ItD w d ep xs.length) H1
theorem pi_K {X : Cx} {tg e : Expr} {td : TE} (he : PE X e td) : PI X tg e (iKD X.w td) := ⟨fun pins s σ H R I h => by
  refine thn (he.run pins s σ H _ I h) fun u s1 ⟨x, H1, I1, rx, d, ep, xs, ex, hs, hd, q⟩ => ?_
  subst ex
  obtain rfl : u = Value.ref d := rx
  obtain ⟨es, raw, pr⟩ := dphi_at I1.hok hd
  refine wpAny_pyIter_dict_raw hs raw (pi_one (tk := s1.toks) I1 _ (turn_K (ep0 := 0) _) ⟨_, Heap.get?_push_size _ rfl, rfl, ?_⟩ q)
  rw [psize pr] <;> rfl⟩
theorem pi_D {X : Cx} {e : Expr} {td : TE} {elts : List Expr} {kk : Nat} {tpos apos cpos : Pos} (he : PE X e td) (hbase : attributeBase e "items" X.env (eval e X.env) = eval e X.env := by rfl) (hline : (apos.endLine == cpos.line) = true := by rfl) :
    PI X (.Tuple elts kk tpos) (.Call (.Attribute e "items" apos) [] [] cpos) (iDD X.w td) := ⟨fun pins s σ H R I h => by
  refine wpAny_Call_method (T := "dict") (id := "dict.items") hbase rfl hline F.plainAttrs_dict F.slot_dict_items F.type_dict_items (thn (he.run pins s σ H _ I h) fun u s1 ⟨x, H1, I1, rx, d, ep, xs, ex, hs, hd, q⟩ => ?_)
  subst ex
  obtain rfl : u = Value.ref d := rx
  obtain ⟨es, raw, pr⟩ := dphi_at I1.hok hd
  obtain ⟨o, ho, hc, hdt⟩ := id raw
  refine ⟨raw.typeIs, fun b e => ?_, ?_⟩
  · cases e; exact ⟨o, ho, hc.2.1⟩
  have I2 : Inv X pins σ H1 { s1 with heap := s1.heap.push { cls := .type "dict_items", data := .fields #[.ref d] } } := I1.kept (t' := s1.toks) fun b ob q => Heap.get?_push_of_some _ q
  have fin : wpAny (model X.prog X.w) X.A (pyIter (.ref s1.heap.objs.size)) (PIE X pins σ (.Tuple elts kk tpos) R) X.xe { s1 with heap := s1.heap.push { cls := .type "dict_items", data := .fields #[.ref d] } } := by
    refine wpAny_pyIter_items_raw (d := d) ⟨_, Heap.get?_push_size _ rfl, rfl, rfl⟩ (raw.push _) (pi_one (tk := s1.toks) I2 _ (turn_D _) ⟨.none, .none, ?_⟩ q)
    rw [psize pr]
    exact Heap.get?_push_size _ rfl
  show wpAny _ _ (callWith cpos (.builtin "dict.items") [.ref d] [] []) _ X.xe s1
  exact method_meetsIn F.slot_dict_items F.entry_dict_items rfl (PySem.evalArgs_none ⟨rfl, raw.typeIs, F.args_dict_items_1 _, _, meets_dict_items_raw d hs, ⟨es, ep, raw⟩, fin⟩)⟩
end L2.LL

/-! # LLLoops -/
set_option Elab.async false
set_option linter.all false
set_option maxRecDepth 100000
set_option maxHeartbeats 2000000
namespace L2.LL
open PySem PySem.Spec PyProof.Rows

/-! ## targets -/
abbrev TgD := T → SD → (SD → Prop) → Prop
abbrev TgsD := List T → SD → (SD → Prop) → Prop
def gN (i : Nat) : TgD := fun t σ Q => Q (σ.set i (some (.dat t)))
def gsNil : TgsD := fun ts σ Q => ts = [] ∧ Q σ
def gsCons (f : TgD) (fs : TgsD) : TgsD := fun ts σ Q => ∃ t r, ts = t :: r ∧ f t σ fun σ' => fs r σ' Q
def gT (n : Nat) (fs : TgsD) : TgD := fun t σ Q => ∃ ts, t = .tup ts ∧ ts.length = n ∧ fs ts σ Q
def tG (K : PySem.W.Frag) (w : World) (g : Gp) (vs : List Nat) (f : TgD) : TG := fun v σv H Q => ∃ m S σ t Q0, RS K w g m S H ∧ RSl m H σ σv ∧ RT H t v ∧ f t σ Q0 ∧
  ∀ σ' σv', Q0 σ' → RSl m H σ' σv' → (∀ j, j ∉ vs → σv'[j]? = σv[j]?) → σv'.length = σv.length → Q σv' H
def tGs (K : PySem.W.Frag) (w : World) (g : Gp) (vs : List Nat) (f : TgsD) : TGs := fun xs σv H Q => ∃ m S σ ts Q0, RS K w g m S H ∧ RSl m H σ σv ∧ RTs H ts xs ∧ f ts σ Q0 ∧
  ∀ σ' σv', Q0 σ' → RSl m H σ' σv' → (∀ j, j ∉ vs → σv'[j]? = σv[j]?) → σv'.length = σv.length → Q σv' H
abbrev DG (g : Gp) (X : Cx) (e : Expr) (vs : List Nat) (f : TgD) : Prop := PG X e (tG X.K X.w g vs f)
abbrev DGs (g : Gp) (X : Cx) (e : List Expr) (vs : List Nat) (f : TgsD) : Prop := PGs X e (tGs X.K X.w g vs f)
theorem _root_.L2.PG.imp {X : Cx} {e : Expr} {t t' : TG} (h : PG X e t) (i : ∀ v σ H Q, t' v σ H Q → t v σ H Q) : PG X e t' := ⟨fun pins s σ H v u Q I r q => h.run pins s σ H v u Q I r (i _ _ _ _ q)⟩
theorem _root_.L2.PGs.imp {X : Cx} {e : List Expr} {t t' : TGs} (h : PGs X e t) (i : ∀ v σ H Q, t' v σ H Q → t v σ H Q) : PGs X e t' := ⟨fun pins s σ H v u Q I r q => h.run pins s σ H v u Q I r (i _ _ _ _ q)⟩
section
variable {g : Gp} {X : Cx} {pos : Pos}
theorem dg_n {i : Nat} {x : Str} (hN : X.N.Nodup) (hi : X.N[i]? = some x := by rfl) (hx : Loc X.env.scope x := by first | exact Or.inl rfl | exact Or.inr rfl) (hf : X.fn x = true ∨ X.env.scope.names.lookup x = some .local := by first | exact .inl rfl | exact .inr rfl) :
    DG g X (.Name x pos) [i] (gN i) := (pg_name hN hi hx hf).imp fun v σv H Q ⟨m, S, σ, t, Q0, R, Rl, rt, h, k⟩ => k _ _ h (Rl.set i rt) (fun j hj => by
      have : i ≠ j := fun e => hj (by simp [e])
      exact List.getElem?_set_ne this) (by simp)
theorem dgs_nil : DGs g X [] [] gsNil := pgs_nil.imp fun v σv H Q ⟨m, S, σ, ts, Q0, R, Rl, rt, ⟨e, h⟩, k⟩ => by
  subst e; cases rt; exact ⟨rfl, k _ _ h Rl (fun _ _ => rfl) rfl⟩
theorem dgs_cons {e : Expr} {es : List Expr} {us vs : List Nat} {f : TgD} {fs : TgsD} (h1 : DG g X e us f) (h2 : DGs g X es vs fs) (hs : (assignEach (e :: es) X.env).map (·.2) = assign e X.env :: (assignEach es X.env).map (·.2) := by rfl) :
    DGs g X (e :: es) (us ++ vs) (gsCons f fs) := (pgs_cons h1 h2 hs).imp fun v σv H Q ⟨m, S, σ, ts, Q0, R, Rl, rt, ⟨t, r, e, h⟩, k⟩ => by
  subst e
  cases rt with
  | cons a b =>
    exact ⟨_, _, rfl, m, S, σ, t, _, R, Rl, a, h, fun σ' σv' q Rl' ag ln => ⟨m, S, σ', r, Q0, R, Rl', b, q, fun σ2 σv2 q2 Rl2 ag2 ln2 => k _ _ q2 Rl2 (fun j hj => by
      rw [ag2 j (fun z => hj (List.mem_append_right _ z)), ag j (fun z => hj (List.mem_append_left _ z))]) (ln2.trans ln)⟩⟩
theorem dg_t {es : List Expr} {k n : Nat} {vs : List Nat} {fs : TgsD} (hc : X.calm = true) (h : DGs g X es vs fs) (hn : (assignEach es X.env).length = n := by rfl) (hst : (assignEach es X.env).findIdx? (·.1) = none := by rfl) :
    DG g X (.Tuple es k pos) vs (gT n fs) := (pg_tup hc h hn hst).imp fun v σv H Q ⟨m, S, σ, t, Q0, R, Rl, rt, ⟨ts, e, hl, h⟩, k⟩ => by
  subst e
  obtain ⟨a, xs, rfl, ha, ra⟩ := RD.asTup (m := m) rt
  exact ⟨a, xs, rfl, SqT.of ha, by rw [← ra.length]; exact hl, m, S, σ, ts, Q0, R, Rl, ra, h, k⟩
/-- target = e, e a datum -/
def bAsg (fe : ED) (f : TgD) : BD := fun D0 σ S => fe σ S fun d S1 => ∃ t, d = .dat t ∧ f t σ fun σ' => D0.nx σ' S1
theorem ds_asg {tg e : Expr} {fe : ED} {vs : List Nat} {f : TgD} (he : DE g X e fe) (hg : DG g X tg vs f) (hs : swapsWithSole [tg] e pos.line X.env = pure false := by rfl) (hw : swappedStores [tg] e X.env = pure none := by rfl)
    (h1 : (assignEach [tg] X.env).map (·.2) = [assign tg X.env] := by rfl) : DS g X (.Assign [tg] e pos) (bAsg fe f) :=
  (ps_asg he hg hs hw h1).imp fun De σv H ⟨m, σ, S, D0, R, Rl, h, k⟩ => ⟨m, σ, S, _, R, Rl, h, ⟨fun d S1 m1 H1 v ⟨t, e, q⟩ L R1 rd => by
    subst e
    exact ⟨m1, S1, σ, t, _, R1, Rl.mono L, rd, q, fun σ' σv' q' Rl' _ _ => k.nx _ _ _ _ _ q' L R1 Rl'⟩⟩⟩
end

/-! ## what is walked -/
theorem Le.lt {m m1 : List Addr} {H H1 : Hp} (e : Le m H m1 H1) : Lt m H m1 H1 := ⟨e.pre, e.tup⟩
theorem Lt.rfl {m : List Addr} {H : Hp} : Lt m H m H := ⟨List.prefix_refl _, TLe.rfl⟩
theorem Lt.trans {m m1 m2 : List Addr} {H H1 H2 : Hp} (a : Lt m H m1 H1) (b : Lt m1 H1 m2 H2) : Lt m H m2 H2 := ⟨a.pre.trans b.pre, a.tup.trans b.tup⟩
theorem Lt.at {m m' : List Addr} {H H' : Hp} (e : Lt m H m' H') {n : Nat} {a : Addr} (h : m[n]? = some a) : m'[n]? = some a := by
  obtain ⟨t, rfl⟩ := e.pre
  rw [List.getElem?_append_left (List.getElem?_eq_some_iff.mp h).1]; exact h
structure Desc (K : PySem.W.Frag) (w : World) (g : Gp) (m : List Addr) (H : Hp) (J : It) (ts : List T) (ok : Sto → Prop) : Prop where
  go : ∀ i t m1 S1 H1, ts[i]? = some t → Lt m H m1 H1 → RS K w g m1 S1 H1 → ok S1 → J.go i H1
  yl : ∀ i x m1 S1 H1 H2 t, ts[i]? = some t → Lt m H m1 H1 → RS K w g m1 S1 H1 → ok S1 → J.yld i H1 x H2 → Le m1 H1 m1 H2 ∧ RS K w g m1 S1 H2 ∧ RT H2 t x
  st : ∀ i m1 S1 H1, ts.length ≤ i → Lt m H m1 H1 → RS K w g m1 S1 H1 → ok S1 → J.stop i H1
abbrev ID := SD → Sto → (List T → (Sto → Prop) → Sto → Prop) → Prop
def tI (K : PySem.W.Frag) (w : World) (g : Gp) (f : ID) : TI := fun σv H R => ∃ m σ S Q0, RS K w g m S H ∧ RSl m H σ σv ∧ f σ S Q0 ∧ ∀ ts ok S' m' H' J, Q0 ts ok S' → Le m H m' H' → RS K w g m' S' H' → Desc K w g m' H' J ts ok → R J H'
abbrev DI (g : Gp) (X : Cx) (tg e : Expr) (f : ID) : Prop := PI X tg e (tI X.K X.w g f)
theorem _root_.L2.PI.imp {X : Cx} {tg e : Expr} {t t' : TI} (h : PI X tg e t) (i : ∀ σ H Q, t' σ H Q → t σ H Q) : PI X tg e t' := ⟨fun pins s σ H Q I q => h.run pins s σ H Q I (i _ _ _ q)⟩
def iL (f : ED) : ID := fun σ S Q => f σ S fun d S1 => ∃ n ts, d = .ref n ∧ S1[n]? = some (.lst (ts.map .dat)) ∧ Q ts (fun S => S[n]? = some (.lst (ts.map .dat))) S1
def iT (f : ED) : ID := fun σ S Q => f σ S fun d S1 => ∃ ts, d = .dat (.tup ts) ∧ Q ts (fun _ => True) S1
def enumT (ts : List T) : List T := ts.mapIdx fun i t => .tup [.num i, t]
def iE (f : ED) : ID := fun σ S Q => f σ S fun d S1 => ∃ ts, d = .dat (.tup ts) ∧ Q (enumT ts) (fun _ => True) S1
def iRg (f : RgD) : ID := fun σ S Q => f σ S fun i j S1 => smallRg i j ∧ Q (rgT i j) (fun _ => True) S1
def iKs (f : ED) : ID := fun σ S Q => f σ S fun d S1 => ∃ n kvs ep, d = .ref n ∧ S1[n]? = some (.dct kvs ep) ∧ Q (kvs.map (·.1)) (fun S => S[n]? = some (.dct kvs ep)) S1
def iIs (f : ED) : ID := fun σ S Q => f σ S fun d S1 => ∃ (n : Nat) (us : List (T × T)) (ep : Nat), d = .ref n ∧ S1[n]? = some (.dct (us.map fun p => (p.1, D.dat p.2)) ep) ∧ Q (us.map fun p => .tup [p.1, p.2]) (fun S => S[n]? = some (.dct (us.map fun p => (p.1, .dat p.2)) ep)) S1
section
variable {g : Gp} {X : Cx} {tg e : Expr} {fe : ED} {fr : RgD} {p pos tpos : Pos}
theorem di_list (he : DE g X e fe) : DI g X tg e (iL fe) := (pi_list he).imp fun σv H R ⟨m, σ, S, Q0, Rs, Rl, h, k⟩ => ⟨m, σ, S, _, Rs, Rl, h, ⟨fun d S1 m1 H1 v ⟨n, ts, e, h0, q⟩ L R1 rd => by
  subst e
  obtain ⟨a, vs, rfl, hm, hp, rp⟩ := R1.lst h0 rd
  have at' : ∀ {m2 S2 H2}, Lt m1 H1 m2 H2 → RS X.K X.w g m2 S2 H2 → S2[n]? = some (.lst (ts.map .dat)) → ∃ ws, H2 a = some (.lst ws) ∧ RTs H2 ts ws := fun L2 R2 h2 => by
    obtain ⟨a', ws, e', _, hp', rp'⟩ := R2.lst h2 (⟨a, L2.at hm, rfl⟩ : RD _ _ (.ref n) (.ref a))
    cases e'; exact ⟨ws, hp', rds_dat rp'⟩
  refine ⟨a, rfl, ⟨vs, SqL.of hp⟩, k _ _ _ _ _ _ q L R1 ⟨fun i t m2 S2 H2 e L2 R2 ok => ?_, fun i x m2 S2 H2 H3 t e L2 R2 ok y => ?_, fun i m2 S2 H2 e L2 R2 ok => ?_⟩⟩
  · obtain ⟨ws, hw, rw'⟩ := at' L2 R2 ok
    obtain ⟨z, hz, _⟩ := rw'.get e
    exact ⟨ws, z, SqL.of hw, hz⟩
  · obtain ⟨ws, hw, rw'⟩ := at' L2 R2 ok
    obtain ⟨z, hz, rz⟩ := rw'.get e
    obtain ⟨rfl, y⟩ := y
    have := (y ws (SqL.of hw)).symm.trans hz
    cases this
    exact ⟨Le.rfl, R2, rz⟩
  · obtain ⟨ws, hw, rw'⟩ := at' L2 R2 ok
    exact ⟨ws, SqL.of hw, by rw [← rw'.length]; exact e⟩⟩⟩
theorem di_tup (he : DE g X e fe) : DI g X tg e (iT fe) := (pi_tup he).imp fun σv H R ⟨m, σ, S, Q0, Rs, Rl, h, k⟩ => ⟨m, σ, S, _, Rs, Rl, h, ⟨fun d S1 m1 H1 v ⟨ts, e, q⟩ L R1 rd => by
  subst e
  obtain ⟨a, vs, rfl, hp, rp⟩ := RD.asTup rd
  refine ⟨a, rfl, ⟨vs, SqT.of hp⟩, k _ _ _ _ _ _ q L R1 ⟨fun i t m2 S2 H2 e L2 R2 ok => ?_, fun i x m2 S2 H2 H3 t e L2 R2 ok y => ?_, fun i m2 S2 H2 e L2 R2 ok => ?_⟩⟩
  · obtain ⟨z, hz, _⟩ := rp.get e
    exact ⟨vs, z, SqT.of (L2.tup _ _ hp), hz⟩
  · obtain ⟨z, hz, rz⟩ := rp.get e
    obtain ⟨rfl, y⟩ := y
    have := (y vs (SqT.of (L2.tup _ _ hp))).symm.trans hz
    cases this
    exact ⟨Le.rfl, R2, RT.mono L2.tup _ _ rz⟩
  · exact ⟨vs, SqT.of (L2.tup _ _ hp), by rw [← rp.length]; exact e⟩⟩⟩
theorem enumT_at {ts : List T} {i : Nat} {t : T} (e : (enumT ts)[i]? = some t) : ∃ u, ts[i]? = some u ∧ t = .tup [.num i, u] := by
  unfold enumT at e
  rw [List.getElem?_mapIdx, Option.map_eq_some_iff] at e
  obtain ⟨u, h, rfl⟩ := e
  exact ⟨u, h, rfl⟩
theorem di_enum {elts : List Expr} {kk : Nat} (hg : Gl X "enumerate") (hm : X.mg "enumerate" = none) (he : DE g X e fe) (hs : starEach [e] X.env = [(false, eval e X.env)] := by rfl) (hs2 : starEach [e] X.env = (false, eval e X.env) :: starEach [] X.env := by rfl) :
    DI g X (.Tuple elts kk tpos) (.Call (.Name "enumerate" p) [e] [] pos) (iE fe) := (pi_enumT hg hm (pa_cons he pa_nil hs2) hs).imp fun σv H R ⟨m, σ, S, Q0, Rs, Rl, h, k⟩ => ⟨m, σ, S, _, Rs, Rl, h, ⟨fun d S1 m1 H1 v ⟨ts, e, q⟩ L R1 rd => by
  subst e
  obtain ⟨a, vs, rfl, hp, rp⟩ := RD.asTup rd
  refine ⟨a, vs, rfl, SqT.of hp, k _ _ _ _ _ _ q L R1 ⟨fun i t m2 S2 H2 e L2 R2 ok => ?_, fun i x m2 S2 H2 H3 t e L2 R2 ok y => ?_, fun i m2 S2 H2 e L2 R2 ok => ?_⟩⟩
  · obtain ⟨u, hu, rfl⟩ := enumT_at e
    obtain ⟨z, hz, _⟩ := rp.get hu
    exact ⟨vs, z, SqT.of (L2.tup _ _ hp), hz⟩
  · obtain ⟨u, hu, rfl⟩ := enumT_at e
    obtain ⟨z, hz, rz⟩ := rp.get hu
    obtain ⟨b, x0, rfl, hb, rfl, y⟩ := y
    have := (y vs (SqT.of (L2.tup _ _ hp))).symm.trans hz
    cases this
    exact ⟨le_new hb, R2.fresh hb, .tup upd_same (.cons (.num _) (.cons (RT.mono (L2.tup.trans (tle_new hb)) _ _ rz) .nil))⟩
  · exact ⟨vs, SqT.of (L2.tup _ _ hp), by rw [← rp.length]; simpa [enumT] using e⟩⟩⟩
theorem rgT_at {a b : Int} {i : Nat} {t : T} (e : (rgT a b)[i]? = some t) : i < (b - a).toNat ∧ t = .num (a + i) := by
  unfold rgT at e
  rw [List.getElem?_map, Option.map_eq_some_iff] at e
  obtain ⟨j, h, rfl⟩ := e
  obtain ⟨h1, h2⟩ := List.getElem?_eq_some_iff.mp h
  rw [List.length_range] at h1
  rw [List.getElem_range] at h2
  subst h2
  exact ⟨h1, rfl⟩
theorem rgT_len (a b : Int) : (rgT a b).length = (b - a).toNat := by simp [rgT]
theorem desc_rg {m : List Addr} {H : Hp} {a b : Int} : Desc X.K X.w g m H (Itr a (b - a).toNat) (rgT a b) (fun _ => True) := by
  refine ⟨fun i t m2 S2 H2 e L2 R2 ok => ?_, fun i x m2 S2 H2 H3 t e L2 R2 ok y => ?_, fun i m2 S2 H2 e L2 R2 ok => ?_⟩
  · exact (rgT_at e).1
  · obtain ⟨_, rfl⟩ := rgT_at e
    obtain ⟨rfl, rfl⟩ := y
    exact ⟨Le.rfl, R2, .num _⟩
  · rw [rgT_len] at e; exact e
theorem di_rg1 (hg : Gl X "range") (hm : X.mg "range" = none) (ha : DE g X e fe) (hs : starEach [e] X.env = [(false, eval e X.env)] := by rfl) (hs2 : starEach [e] X.env = (false, eval e X.env) :: starEach [] X.env := by rfl) :
    DI g X tg (.Call (.Name "range" p) [e] [] pos) (iRg (rg1 fe)) := (pi_range1 hg hm (pa_cons ha pa_nil hs2) hs).imp fun σv H R ⟨m, σ, S, Q0, Rs, Rl, h, k⟩ => ⟨m, σ, S, _, Rs, Rl, h, ⟨fun d S1 m1 H1 v q L R1 rd => by
  split at q
  · rename_i n
    cases rd
    obtain ⟨sm, q⟩ := q
    unfold smallRg at sm
    refine ⟨n, rfl, by omega, by omega, ?_⟩
    have := k _ _ _ _ _ (Itr 0 (n - 0).toNat) q L R1 desc_rg
    simpa using this
  · exact q.elim⟩⟩
theorem di_rg2 {e2 : Expr} {fb : ED} (hg : Gl X "range") (hm : X.mg "range" = none) (ha : DE g X e fe) (hb : DE g X e2 fb) (hs : starEach [e, e2] X.env = [(false, eval e X.env), (false, eval e2 X.env)] := by rfl) (hs2 : starEach [e2] X.env = [(false, eval e2 X.env)] := by rfl)
    (hs3 : starEach [e, e2] X.env = (false, eval e X.env) :: starEach [e2] X.env := by rfl) (hs4 : starEach [e2] X.env = (false, eval e2 X.env) :: starEach [] X.env := by rfl) :
    DI g X tg (.Call (.Name "range" p) [e, e2] [] pos) (iRg (rg2 fe fb)) := (pi_range2 hg hm (pa_cons ha (pa_cons hb pa_nil hs4) hs3) hs hs2).imp fun σv H R ⟨m, σ, S, Q0, Rs, Rl, h, k⟩ => ⟨m, σ, S, _, Rs, Rl, h, ⟨fun d S1 m1 H1 v q L1 R1 rd => ⟨m1, σ, S1, _, R1, Rl.mono L1, q, ⟨fun d2 S2 m2 H2 v2 q2 L2 R2 rd2 => by
  split at q2
  · rename_i i j
    cases rd; cases rd2
    obtain ⟨sm, q2⟩ := q2
    unfold smallRg at sm
    exact ⟨i, j, rfl, ⟨by omega, by omega, by omega, by omega⟩, k _ _ _ _ _ _ q2 (L1.trans L2) R2 desc_rg⟩
  · exact q2.elim⟩⟩⟩⟩
theorem RS.dctH {m : List Addr} {S : Sto} {H : Hp} {n : Nat} {kvs : List (T × D)} {ep : Nat} {v : V} (R : RS X.K X.w g m S H) (h : S[n]? = some (.dct kvs ep)) (r : RD m H (.ref n) v) : ∃ a xs, v = .ref a ∧ m[n]? = some a ∧ (a == sysModules) = false ∧ H a = some (.ext (dphi X.w a ep xs)) ∧ Paired (DKV m H) kvs xs := by
  obtain ⟨a, ha, e⟩ := r
  obtain ⟨h0, ok, xs, h1, h2⟩ := R.obj n a _ ha h
  exact ⟨a, xs, e, ha, h0, h1, h2⟩
theorem di_keys (he : DE g X e fe) : DI g X tg e (iKs fe) := (pi_K he).imp fun σv H R ⟨m, σ, S, Q0, Rs, Rl, h, k⟩ => ⟨m, σ, S, _, Rs, Rl, h, ⟨fun d S1 m1 H1 v ⟨n, kvs, ep, e, h0, q⟩ L R1 rd => by
  subst e
  obtain ⟨a, xs, rfl, hm, sy, hp, rp⟩ := R1.dctH h0 rd
  have ln := Paired.length rp
  have at' : ∀ {m2 S2 H2}, Lt m1 H1 m2 H2 → RS X.K X.w g m2 S2 H2 → S2[n]? = some (.dct kvs ep) → ∃ ys, H2 a = some (.ext (dphi X.w a ep ys)) ∧ Paired (DKV m2 H2) kvs ys := fun L2 R2 h2 => by
    obtain ⟨a', ys, e', _, _, hp', rp'⟩ := R2.dctH h2 (⟨a, L2.at hm, rfl⟩ : RD _ _ (.ref n) (.ref a))
    cases e'; exact ⟨ys, hp', rp'⟩
  refine ⟨a, ep, xs, rfl, sy, hp, k _ _ _ _ _ _ q L R1 ⟨fun i t m2 S2 H2 e L2 R2 ok => ?_, fun i x m2 S2 H2 H3 t e L2 R2 ok y => ?_, fun i m2 S2 H2 e L2 R2 ok => ?_⟩⟩
  · obtain ⟨ys, hy, ry⟩ := at' L2 R2 ok
    have hi := (List.getElem?_eq_some_iff.mp e).1
    simp at hi
    exact ⟨ys, hy, by rw [← Paired.length ry, ln], by omega⟩
  · obtain ⟨ys, hy, ry⟩ := at' L2 R2 ok
    obtain ⟨rfl, y⟩ := y
    obtain ⟨z, hz, rfl⟩ := y ys hy
    obtain ⟨kv, hk, rk⟩ := Paired.back ry hz
    rw [List.getElem?_map, hk] at e
    cases e
    exact ⟨Le.rfl, R2, rk.2.1⟩
  · obtain ⟨ys, hy, ry⟩ := at' L2 R2 ok
    rw [List.length_map] at e
    exact ⟨ys, hy, by rw [← Paired.length ry, ln], by omega⟩⟩⟩
theorem di_items {elts : List Expr} {kk : Nat} {apos cpos : Pos} (he : DE g X e fe) (hbase : attributeBase e "items" X.env (eval e X.env) = eval e X.env := by rfl) (hline : (apos.endLine == cpos.line) = true := by rfl) :
    DI g X (.Tuple elts kk tpos) (.Call (.Attribute e "items" apos) [] [] cpos) (iIs fe) := (pi_D he hbase hline).imp fun σv H R ⟨m, σ, S, Q0, Rs, Rl, h, k⟩ => ⟨m, σ, S, _, Rs, Rl, h, ⟨fun d S1 m1 H1 v ⟨n, us, ep, e, h0, q⟩ L R1 rd => by
  subst e
  obtain ⟨a, xs, rfl, hm, sy, hp, rp⟩ := R1.dctH h0 rd
  have ln := Paired.length rp
  rw [List.length_map] at ln
  have at' : ∀ {m2 S2 H2}, Lt m1 H1 m2 H2 → RS X.K X.w g m2 S2 H2 → S2[n]? = some (.dct (us.map fun p => (p.1, .dat p.2)) ep) → ∃ ys, H2 a = some (.ext (dphi X.w a ep ys)) ∧ Paired (DKV m2 H2) (us.map fun p => (p.1, .dat p.2)) ys := fun L2 R2 h2 => by
    obtain ⟨a', ys, e', _, _, hp', rp'⟩ := R2.dctH h2 (⟨a, L2.at hm, rfl⟩ : RD _ _ (.ref n) (.ref a))
    cases e'; exact ⟨ys, hp', rp'⟩
  refine ⟨a, ep, xs, rfl, sy, hp, k _ _ _ _ _ _ q L R1 ⟨fun i t m2 S2 H2 e L2 R2 ok => ?_, fun i x m2 S2 H2 H3 t e L2 R2 ok y => ?_, fun i m2 S2 H2 e L2 R2 ok => ?_⟩⟩
  · obtain ⟨ys, hy, ry⟩ := at' L2 R2 ok
    have hi := (List.getElem?_eq_some_iff.mp e).1
    have l2 := Paired.length ry
    simp at hi l2
    exact ⟨ys, hy, by omega, by omega⟩
  · obtain ⟨ys, hy, ry⟩ := at' L2 R2 ok
    obtain ⟨b, k1, y1, rfl, hb, rfl, y⟩ := y
    obtain ⟨z, hz, rfl, rfl⟩ := y ys hy
    obtain ⟨kv, hk, rk⟩ := Paired.back ry hz
    rw [List.getElem?_map, Option.map_eq_some_iff] at hk
    obtain ⟨u, hu, rfl⟩ := hk
    rw [List.getElem?_map, hu] at e
    cases e
    exact ⟨le_new hb, R2.fresh hb, .tup upd_same (.cons (RT.mono (tle_new hb) _ _ rk.2.1) (.cons (RT.mono (tle_new hb) _ _ rk.2.2) .nil))⟩
  · obtain ⟨ys, hy, ry⟩ := at' L2 R2 ok
    have l2 := Paired.length ry
    simp at e l2
    exact ⟨ys, hy, by omega, by omega⟩⟩⟩
end

/-! ## for, while -/
def bFor (fi : ID) (tg : TgD) (tb : BD) : BD := fun D0 σ S => fi σ S fun ts ok S1 => ∃ Pv : Nat → SD → Sto → Prop, Pv 0 σ S1 ∧ (∀ i σ S, Pv i σ S → ok S) ∧
  (∀ i t σ S, ts[i]? = some t → Pv i σ S → tg t σ fun σ2 => tb { D0 with nx := Pv (i + 1), ct := Pv (i + 1), bk := D0.nx } σ2 S) ∧ ∀ σ S, Pv ts.length σ S → D0.nx σ S
def bWhile (c : XD) (tb : BD) : BD := fun D0 σ S => ∃ Pv : Nat → SD → Sto → Prop, (∃ n, Pv n σ S) ∧ ∀ n σ S, Pv n σ S → c σ S fun b S1 => match b with
  | true => tb { D0 with nx := fun σ S => ∃ k, k < n ∧ Pv k σ S, ct := fun σ S => ∃ k, k < n ∧ Pv k σ S, bk := D0.nx } σ S1
  | false => D0.nx σ S1
section
variable {g : Gp} {X : Cx} {tg iter c : Expr} {body : List Stmt} {fi : ID} {f : TgD} {vs : List Nat} {tb : BD} {fc : XD} {pos : Pos}
theorem ds_for (hp : PassesOwn (model X.prog X.w) X.A X.env X.xe) (hc : X.calm = true) (hi : DI g X tg iter fi) (hg : DG g X tg vs f) (hb : DSs g X body tb) (hs : ∀ x, foldedSetIterable iter X.env x = pure x := by intro _; rfl) :
    DS g X (.For tg iter body [] pos) (bFor fi f tb) := (ps_for hp hc hi hg hb hs).imp fun De σv H ⟨m, σ, S, D0, R, Rl, h, k⟩ => ⟨m, σ, S, _, R, Rl, h, fun ts ok S1 m1 H1 J ⟨Pv, p0, pok, pstep, pend⟩ L1 R1 ds => by
  refine ⟨fun i n σv H => i + n = ts.length ∧ ∃ m σ S, Le m1 H1 m H ∧ RS X.K X.w g m S H ∧ RSl m H σ σv ∧ Pv i σ S, ⟨ts.length, by omega, m1, σ, S1, Le.rfl, R1, Rl.mono L1, p0⟩, ?_⟩
  rintro i n σv2 H2 ⟨hin, m2, σ2, S2, L2, R2, Rl2, p2⟩
  by_cases hi : i < ts.length
  · have ht : ts[i]? = some ts[i] := List.getElem?_eq_getElem hi
    refine .inr ⟨ds.go i _ m2 S2 H2 ht L2.lt R2 (pok _ _ _ p2), fun σv' H' => ∃ m σ S, Le m1 H1 m H' ∧ RS X.K X.w g m S H' ∧ RSl m H' σ σv' ∧ Pv (i + 1) σ S, fun σv' H' q => ⟨n - 1, by omega, by omega, q⟩, fun x H3 y => ?_⟩
    obtain ⟨L3, R3, rt⟩ := ds.yl i x m2 S2 H2 H3 _ ht L2.lt R2 (pok _ _ _ p2) y
    refine ⟨m2, S2, σ2, _, _, R3, Rl2.mono L3, rt, pstep i _ σ2 S2 ht p2, fun σ' σv' q Rl' _ _ => ⟨m2, σ', S2, _, R3, Rl', q, ?_⟩⟩
    have L13 := L2.trans L3
    exact ⟨fun σ4 S4 m4 H4 σv4 q4 L4 R4 Rl4 => ⟨m4, σ4, S4, L13.trans L4, R4, Rl4, q4⟩, fun d S4 m4 H4 v4 q4 L4 R4 rd4 => k.rt _ _ _ _ _ q4 ((L1.trans L13).trans L4) R4 rd4,
      fun σ4 S4 m4 H4 σv4 q4 L4 R4 Rl4 => k.nx _ _ _ _ _ q4 ((L1.trans L13).trans L4) R4 Rl4, fun σ4 S4 m4 H4 σv4 q4 L4 R4 Rl4 => ⟨m4, σ4, S4, L13.trans L4, R4, Rl4, q4⟩⟩
  · have e : i = ts.length := by omega
    subst e
    exact .inl ⟨ds.st _ m2 S2 H2 (Nat.le_refl _) L2.lt R2 (pok _ _ _ p2), k.nx _ _ _ _ _ (pend _ _ p2) (L1.trans L2) R2 Rl2⟩⟩
theorem ds_while (hp : PassesOwn (model X.prog X.w) X.A X.env X.xe) (hc : DX g X c fc) (hb : DSs g X body tb) : DS g X (.While c body [] pos) (bWhile fc tb) := (ps_while hp hc hb).imp fun De σv H ⟨m, σ, S, D0, R, Rl, ⟨Pv, ⟨n0, p0⟩, pstep⟩, k⟩ => by
  refine ⟨fun n σv' H' => ∃ m' σ S, Le m H m' H' ∧ RS X.K X.w g m' S H' ∧ RSl m' H' σ σv' ∧ Pv n σ S, ⟨n0, m, σ, S, Le.rfl, R, Rl, p0⟩, ?_⟩
  rintro n σv2 H2 ⟨m2, σ2, S2, L2, R2, Rl2, p2⟩
  refine ⟨m2, σ2, S2, _, R2, Rl2, pstep n σ2 S2 p2, fun b S3 m3 H3 q L3 R3 => ?_⟩
  cases b with
  | false => rw [if_neg Bool.false_ne_true]; exact k.nx _ _ _ _ _ q (L2.trans L3) R3 (Rl2.mono L3)
  | true =>
    rw [if_pos rfl]
    refine ⟨fun σv' H' => ∃ n', n' < n ∧ ∃ m' σ S, Le m H m' H' ∧ RS X.K X.w g m' S H' ∧ RSl m' H' σ σv' ∧ Pv n' σ S, fun σ' H' q => q, m3, σ2, S3, _, R3, Rl2.mono L3, q, ?_⟩
    have L := L2.trans L3
    exact ⟨fun σ4 S4 m4 H4 σv4 ⟨n', hn, q4⟩ L4 R4 Rl4 => ⟨n', hn, m4, σ4, S4, L.trans L4, R4, Rl4, q4⟩, fun d S4 m4 H4 v4 q4 L4 R4 rd4 => k.rt _ _ _ _ _ q4 (L.trans L4) R4 rd4,
      fun σ4 S4 m4 H4 σv4 q4 L4 R4 Rl4 => k.nx _ _ _ _ _ q4 (L.trans L4) R4 Rl4, fun σ4 S4 m4 H4 σv4 ⟨n', hn, q4⟩ L4 R4 Rl4 => ⟨n', hn, m4, σ4, S4, L.trans L4, R4, Rl4, q4⟩⟩
end
end L2.LL

/-! # LLComp -/
set_option Elab.async false
set_option linter.all false
set_option maxRecDepth 100000
set_option maxHeartbeats 2000000
namespace L2.LL
open PySem PySem.Spec PyProof.Rows

theorem wipe_in {σ : St} {j : Nat} : ∀ {vs : List Nat}, j ∈ vs → j < σ.length → (wipe σ vs)[j]? = some none
  | v :: vs, h, hl => by
    unfold wipe
    by_cases e : v = j
    · subst e
      rw [List.getElem?_set_self (by rw [wipe_length]; exact hl)]
    · rw [List.getElem?_set_ne e]
      rcases List.mem_cons.mp h with z | z
      · exact absurd z.symm e
      · exact wipe_in z hl
theorem wipe_same {a b : St} {vs : List Nat} (hl : a.length = b.length) (h : ∀ j, j ∉ vs → a[j]? = b[j]?) : wipe a vs = wipe b vs := by
  apply List.ext_getElem?
  intro j
  by_cases hj : j ∈ vs
  · by_cases hlt : j < a.length
    · rw [wipe_in hj hlt, wipe_in hj (by omega)]
    · rw [List.getElem?_eq_none (by rw [wipe_length]; omega), List.getElem?_eq_none (by rw [wipe_length]; omega)]
  · rw [wipe_out hj, wipe_out hj]; exact h j hj
theorem wipe_agree {σ σ' : St} {us vs : List Nat} (hs : ∀ j ∈ us, j ∈ vs) (hl : σ'.length = (wipe σ vs).length) (h : ∀ j, j ∉ us → σ'[j]? = (wipe σ vs)[j]?) : wipe σ' vs = wipe σ vs := by
  rw [wipe_length] at hl
  exact wipe_same hl fun j hj => by rw [h j (fun z => hj (hs j z)), wipe_out hj]
theorem RSl.lt {m m' : List Addr} {H H' : Hp} (e : Lt m H m' H') {σ : SD} {σv : St} (h : RSl m H σ σv) : RSl m' H' σ σv := ⟨h.1, fun i d q => let ⟨v, a, b⟩ := h.2 i d q; ⟨v, a, RD.lt e b⟩⟩
def wipeD (σ : SD) : List Nat → SD
  | [] => σ
  | v :: vs => (wipeD σ vs).set v none
theorem wipeD_length (σ : SD) : ∀ vs : List Nat, (wipeD σ vs).length = σ.length
  | [] => rfl
  | v :: vs => by unfold wipeD; rw [List.length_set, wipeD_length σ vs]
theorem RSl.wipe {m : List Addr} {H : Hp} {σ : SD} {σv : St} (h : RSl m H σ σv) : ∀ vs : List Nat, RSl m H (wipeD σ vs) (L2.wipe σv vs)
  | [] => h
  | v :: vs => by
    have ih := RSl.wipe h vs
    unfold wipeD L2.wipe
    refine ⟨by simp [ih.1], fun i d q => ?_⟩
    by_cases e : v = i
    · subst e
      have hl := (List.getElem?_eq_some_iff.mp q).1
      rw [List.getElem?_set_self (by simpa using hl)] at q
      cases q
    · rw [List.getElem?_set_ne e] at q
      obtain ⟨x, h1, h2⟩ := ih.2 i d q
      exact ⟨x, by rw [List.getElem?_set_ne e]; exact h1, h2⟩

abbrev DTs (g : Gp) (X : Cx) (ifs : List Expr) (f : XD) : Prop := PTs X ifs (tX X.K X.w g f)
def xYes : XD := fun _ S Q => Q true S
theorem dts_nil {g : Gp} {X : Cx} : DTs g X [] xYes := ⟨fun pins s σv H Q I ⟨m, σ, S, Q0, R, Rl, h, k⟩ => pts_nil.run pins s σv H Q I (k _ _ _ _ h Le.rfl R)⟩
theorem dts_one {g : Gp} {X : Cx} {c : Expr} {f : XD} (h : DX g X c f) : DTs g X [c] f := pts_one h

/-- [elt for tg in iter if ..] -/
def dLc (fi : ID) (tg : TgD) (tt : XD) (te : ED) (vs : List Nat) : ED := fun σ S Q => fi σ S fun ts ok S1 => ∃ Pv : Nat → List D → Sto → Prop, Pv 0 [] S1 ∧ (∀ i acc S, Pv i acc S → ok S) ∧
  (∀ i t acc S, ts[i]? = some t → Pv i acc S → tg t (wipeD σ vs) fun σ2 => tt σ2 S fun b S2 => match b with
    | true => te σ2 S2 fun y S3 => acc.length < 100000 ∧ Pv (i + 1) (acc ++ [y]) S3
    | false => Pv (i + 1) acc S2) ∧ ∀ acc S, Pv ts.length acc S → Q (.ref S.length) (S ++ [.lst acc])
/-- two clauses -/
def dLc2 (fi : ID) (tg : TgD) (tt : XD) (fi1 : ID) (tg1 : TgD) (tt1 : XD) (te : ED) (vs vs1 : List Nat) : ED := fun σ S Q => fi σ S fun ts ok S1 => ∃ Pv : Nat → List D → Sto → Prop, Pv 0 [] S1 ∧ (∀ i acc S, Pv i acc S → ok S) ∧
  (∀ i t acc S, ts[i]? = some t → Pv i acc S → tg t (wipeD σ vs) fun σ2 => tt σ2 S fun b S2 => match b with
    | true => fi1 σ2 S2 fun us ok1 S3 => ∃ Pw : Nat → List D → Sto → Prop, Pw 0 acc S3 ∧ (∀ i acc S, Pw i acc S → ok1 S) ∧
      (∀ j u acc S, us[j]? = some u → Pw j acc S → tg1 u (wipeD σ2 vs1) fun σ3 => tt1 σ3 S fun b S4 => match b with
        | true => te σ3 S4 fun y S5 => acc.length < 100000 ∧ Pw (j + 1) (acc ++ [y]) S5
        | false => Pw (j + 1) acc S4) ∧ ∀ acc S, Pw us.length acc S → Pv (i + 1) acc S
    | false => Pv (i + 1) acc S2) ∧ ∀ acc S, Pv ts.length acc S → Q (.ref S.length) (S ++ [.lst acc])
/-- the state within a comprehension: the new list at p, not named -/
structure InLc (K : PySem.W.Frag) (w : World) (g : Gp) (m1 : List Addr) (H1 : Hp) (p : Addr) (acc : List D) (S : Sto) (m : List Addr) (H : Hp) : Prop where
  le : Le m1 H1 m H
  rs : RS K w g m S H
  ac : ∃ vs, H p = some (.lst vs) ∧ RDs m H acc vs
  np : p ∉ m
section
variable {K : PySem.W.Frag} {w : World} {g : Gp} {m1 m m' : List Addr} {H1 H H' : Hp} {p : Addr} {acc : List D} {S S' : Sto}
theorem InLc.start (R : RS K w g m1 S H1) (hp : H1 p = none) : InLc K w g m1 H1 p [] S m1 (upd H1 p (.lst [])) := ⟨le_new hp, R.fresh hp, ⟨[], upd_same, .nil⟩, R.notin hp⟩
theorem InLc.on (x : InLc K w g m1 H1 p acc S m H) (L : Le m H m' H') (R : RS K w g m' S' H') : InLc K w g m1 H1 p acc S' m' H' := by
  obtain ⟨vs, h, r⟩ := x.ac
  obtain ⟨h', n⟩ := L.kept x.np h (fun ps z => by cases z)
  exact ⟨x.le.trans L, R, ⟨vs, h', r.mono L⟩, n⟩
theorem InLc.app (x : InLc K w g m1 H1 p acc S m H) (hs : NotScr K g p) (hp : H1 p = none) {d : D} {v : V} (rd : RD m H d v) {vs : List V} (h : H p = some (.lst vs)) : InLc K w g m1 H1 p (acc ++ [d]) S m (upd H p (.lst (vs ++ [v]))) := by
  obtain ⟨ws, h2, r⟩ := x.ac
  rw [h] at h2; cases h2
  have L : Lt m H m (upd H p (.lst (vs ++ [v]))) := ⟨List.prefix_refl _, tle_mut h trivial⟩
  exact ⟨x.le.off hp h trivial, x.rs.off x.np hs h trivial, ⟨_, upd_same, Paired.imp (fun _ _ z => RD.lt L z) (Paired.app r (.cons rd .nil))⟩, x.np⟩
theorem InLc.done (x : InLc K w g m1 H1 p acc S m H) (hs : NotScr K g p) (hp : H1 p = none) {m0 : List Addr} {H0 : Hp} (L : Le m0 H0 m1 H1) {Q0 : DQ} {Q : VK} (k : Kont K w g m0 H0 Q0 Q) (q : Q0 (.ref S.length) (S ++ [.lst acc])) : Q (.ref p) H := by
  obtain ⟨vs, h, r⟩ := x.ac
  refine k.run _ _ (m ++ [p]) H _ q (L.trans (x.le.nm hp)) (x.rs.name x.np hs ⟨vs, h, Paired.imp (fun _ _ z => rd_app z) r⟩) ⟨p, by rw [← x.rs.len]; simp, rfl⟩
end
section
variable {g : Gp} {X : Cx}
theorem lc_of {fi : ID} {tg : TgD} {tt : XD} {te : ED} {vs us : List Nat} (hs : ∀ j ∈ us, j ∈ vs) : ∀ σv H Q, tD X.K X.w g (dLc fi tg tt te vs) σv H Q → tLc (tI X.K X.w g fi) (tG X.K X.w g us tg) (tX X.K X.w g tt) (tD X.K X.w g te) vs σv H Q := fun σv H Q ⟨m, σ, S, Q0, R, Rl, h, k⟩ =>
  ⟨m, σ, S, _, R, Rl, h, fun ts ok S1 m1 H1 J ⟨Pv, p0, pok, pstep, pend⟩ L1 R1 ds p hp => by
    have ns := R1.notScr hp
    have L0 := le_new (m := m1) (o := HO.lst []) hp
    refine ⟨fun i n H2 => i + n = ts.length ∧ ∃ m2 acc S2, InLc X.K X.w g m1 H1 p acc S2 m2 H2 ∧ Pv i acc S2, ⟨ts.length, by omega, m1, [], S1, InLc.start R1 hp, p0⟩, ?_⟩
    rintro i n H2 ⟨hin, m2, acc, S2, x2, p2⟩
    by_cases hi : i < ts.length
    · have ht : ts[i]? = some ts[i] := List.getElem?_eq_getElem hi
      refine .inr ⟨ds.go i _ m2 S2 H2 ht x2.le.lt x2.rs (pok _ _ _ p2), fun H' => ∃ m acc S, InLc X.K X.w g m1 H1 p acc S m H' ∧ Pv (i + 1) acc S, fun H' q => ⟨n - 1, by omega, by omega, q⟩, fun x H3 y => ?_⟩
      obtain ⟨L3, R3, rt⟩ := ds.yl i x m2 S2 H2 H3 _ ht x2.le.lt x2.rs (pok _ _ _ p2) y
      have x3 := x2.on L3 R3
      refine ⟨m2, S2, wipeD σ vs, _, _, R3, ((Rl.mono L1).mono x3.le).wipe vs, rt, pstep i _ acc S2 ht p2, fun σ' σv' q Rl' ag ln => ⟨wipe_agree hs ln ag, m2, σ', S2, _, R3, Rl', q, fun b S4 m4 H4 q4 L4 R4 => ?_⟩⟩
      have x4 := x3.on L4 R4
      cases b with
      | false => simp only [Bool.false_eq_true, if_false]; exact ⟨m4, acc, S4, x4, q4⟩
      | true =>
        simp only [if_true]
        refine ⟨m4, σ', S4, _, R4, Rl'.mono L4, q4, ⟨fun d S5 m5 H5 v5 q5 L5 R5 rd5 => ?_⟩⟩
        have x5 := x4.on L5 R5
        obtain ⟨ws, hw, rw'⟩ := x5.ac
        exact ⟨ws, hw, by rw [← Paired.length rw', sizeLine_eq]; have := q5.1; omega, m5, acc ++ [d], S5, x5.app ns hp rd5 hw, q5.2⟩
    · have e : i = ts.length := by omega
      subst e
      exact .inl ⟨ds.st _ m2 S2 H2 (Nat.le_refl _) x2.le.lt x2.rs (pok _ _ _ p2), x2.done ns hp L1 k (pend _ _ p2)⟩⟩
theorem lc2_of {fi : ID} {tg : TgD} {tt : XD} {te : ED} {vs us : List Nat} (hs : ∀ j ∈ us, j ∈ vs) {fi1 : ID} {tg1 : TgD} {tt1 : XD} {vs1 us1 : List Nat} (hs1 : ∀ j ∈ us1, j ∈ vs1) : ∀ σv H Q, tD X.K X.w g (dLc2 fi tg tt fi1 tg1 tt1 te vs vs1) σv H Q →
    tLc2 (tI X.K X.w g fi) (tG X.K X.w g us tg) (tX X.K X.w g tt) (tI X.K X.w g fi1) (tG X.K X.w g us1 tg1) (tX X.K X.w g tt1) (tD X.K X.w g te) vs vs1 σv H Q := fun σv H Q ⟨m, σ, S, Q0, R, Rl, h, k⟩ =>
  ⟨m, σ, S, _, R, Rl, h, fun ts ok S1 m1 H1 J ⟨Pv, p0, pok, pstep, pend⟩ L1 R1 ds p hp => by
    have ns := R1.notScr hp
    have L0 := le_new (m := m1) (o := HO.lst []) hp
    refine ⟨fun i n H2 => i + n = ts.length ∧ ∃ m2 acc S2, InLc X.K X.w g m1 H1 p acc S2 m2 H2 ∧ Pv i acc S2, ⟨ts.length, by omega, m1, [], S1, InLc.start R1 hp, p0⟩, ?_⟩
    rintro i n H2 ⟨hin, m2, acc, S2, x2, p2⟩
    by_cases hi : i < ts.length
    · have ht : ts[i]? = some ts[i] := List.getElem?_eq_getElem hi
      refine .inr ⟨ds.go i _ m2 S2 H2 ht x2.le.lt x2.rs (pok _ _ _ p2), fun H' => ∃ m acc S, InLc X.K X.w g m1 H1 p acc S m H' ∧ Pv (i + 1) acc S, fun H' q => ⟨n - 1, by omega, by omega, q⟩, fun x H3 y => ?_⟩
      obtain ⟨L3, R3, rt⟩ := ds.yl i x m2 S2 H2 H3 _ ht x2.le.lt x2.rs (pok _ _ _ p2) y
      have x3 := x2.on L3 R3
      refine ⟨m2, S2, wipeD σ vs, _, _, R3, ((Rl.mono L1).mono x3.le).wipe vs, rt, pstep i _ acc S2 ht p2, fun σ' σv' q Rl' ag ln => ⟨wipe_agree hs ln ag, m2, σ', S2, _, R3, Rl', q, fun b S4 m4 H4 q4 L4 R4 => ?_⟩⟩
      have x4 := x3.on L4 R4
      cases b with
      | false => simp only [Bool.false_eq_true, if_false]; exact ⟨m4, acc, S4, x4, q4⟩
      | true =>
        simp only [if_true]
        refine ⟨m4, σ', S4, _, R4, Rl'.mono L4, q4, fun us ok1 S5 m5 H5 J1 ⟨Pw, w0, wok, wstep, wend⟩ L5 R5 ds1 => ?_⟩
        have x5 := x4.on L5 R5
        refine ⟨fun j n H6 => j + n = us.length ∧ ∃ m6 acc S6, InLc X.K X.w g m1 H1 p acc S6 m6 H6 ∧ Lt m5 H5 m6 H6 ∧ Pw j acc S6, ⟨us.length, by omega, m5, acc, S5, x5, Lt.rfl, w0⟩, ?_⟩
        rintro j n1 H6 ⟨hjn, m6, acc6, S6, x6, L6, w6⟩
        by_cases hj : j < us.length
        · have hu : us[j]? = some us[j] := List.getElem?_eq_getElem hj
          refine .inr ⟨ds1.go j _ m6 S6 H6 hu L6 x6.rs (wok _ _ _ w6), fun H' => ∃ m acc S, InLc X.K X.w g m1 H1 p acc S m H' ∧ Lt m5 H5 m H' ∧ Pw (j + 1) acc S, fun H' q => ⟨n1 - 1, by omega, by omega, q⟩, fun x1 H7 y1 => ?_⟩
          obtain ⟨L7, R7, rt1⟩ := ds1.yl j x1 m6 S6 H6 H7 _ hu L6 x6.rs (wok _ _ _ w6) y1
          have x7 := x6.on L7 R7
          refine ⟨m6, S6, wipeD σ' vs1, _, _, R7, ((Rl'.mono (L4.trans L5)).lt (L6.trans L7.lt)).wipe vs1, rt1, wstep j _ acc6 S6 hu w6, fun σ3 σ3v q7 Rl7 ag7 ln7 => ⟨wipe_agree hs1 ln7 ag7, m6, σ3, S6, _, R7, Rl7, q7, fun b1 S8 m8 H8 q8 L8 R8 => ?_⟩⟩
          have x8 := x7.on L8 R8
          have L68 := (L6.trans L7.lt).trans L8.lt
          cases b1 with
          | false => simp only [Bool.false_eq_true, if_false]; exact ⟨m8, acc6, S8, x8, L68, q8⟩
          | true =>
            simp only [if_true]
            refine ⟨m8, σ3, S8, _, R8, Rl7.mono L8, q8, ⟨fun d S9 m9 H9 v9 q9 L9 R9 rd9 => ?_⟩⟩
            have x9 := x8.on L9 R9
            obtain ⟨ws, hw, rw'⟩ := x9.ac
            refine ⟨ws, hw, by rw [← Paired.length rw', sizeLine_eq]; have := q9.1; omega, m9, acc6 ++ [d], S9, x9.app ns hp rd9 hw, ?_, q9.2⟩
            exact (L68.trans L9.lt).trans ⟨List.prefix_refl _, tle_mut hw trivial⟩
        · have e : j = us.length := by omega
          subst e
          exact .inl ⟨ds1.st _ m6 S6 H6 (Nat.le_refl _) L6 x6.rs (wok _ _ _ w6), m6, acc6, S6, x6, wend _ _ w6⟩
    · have e : i = ts.length := by omega
      subst e
      exact .inl ⟨ds.st _ m2 S2 H2 (Nat.le_refl _) x2.le.lt x2.rs (pok _ _ _ p2), x2.done ns hp L1 k (pend _ _ p2)⟩⟩
end
end L2.LL

/-! # LLStm -/
set_option Elab.async false
set_option linter.all false
set_option maxRecDepth 100000
set_option maxHeartbeats 2000000
namespace L2.LL
open PySem PySem.Spec PyProof.Rows

section
variable {g : Gp} {X : Cx} {elt tg iter tg1 iter1 : Expr} {ifs ifs1 : List Expr} {scope : Scope} {own : List (Str × Nat)} {us us1 vs1 vs : List Nat} {pos spos : Pos} {fi fi1 : ID} {f f1 : TgD} {tt tt1 : XD} {te : ED}
theorem de_lc (hc : X.calm = true) (hN : X.N.Nodup) (hi : DI g X tg iter fi) (ok : BlkOk X.N X.env.scope scope own) (hg : ∀ (s : Shared) (H : Hp) (C : Addr) (cl : List (Str × Addr)) (fp : List Addr), DG g (X.blk s H scope (compEnvC scope cl C X.env) fp) tg us f)
    (ht : ∀ (s : Shared) (H : Hp) (C : Addr) (cl : List (Str × Addr)) (fp : List Addr), DTs g (X.blk s H scope (compEnvC scope cl C X.env) fp) ifs tt) (he : ∀ (s : Shared) (H : Hp) (C : Addr) (cl : List (Str × Addr)) (fp : List Addr), DE g (X.blk s H scope (compEnvC scope cl C X.env) fp) elt te)
    (hu : ∀ j ∈ us, j ∈ own.map (·.2) := by decide) (hs : ∀ x, foldedSetIterable iter X.env x = pure x := by intro _; rfl) (hv : own.map (·.2) = vs := by rfl) : DE g X (.ListComp elt [⟨tg, iter, ifs, 0⟩] scope pos) (dLc fi f tt te vs) := by
  subst hv
  exact (pe_lc hc hN hi ok hg ht he hs).imp (lc_of hu)
theorem de_lc2 (hc : X.calm = true) (hN : X.N.Nodup) (hi : DI g X tg iter fi) (ok : BlkOk X.N X.env.scope scope own) (hv : ∀ i ∈ vs1, i ∈ own.map (·.2)) (hg : ∀ (s : Shared) (H : Hp) (C : Addr) (cl : List (Str × Addr)) (fp : List Addr), DG g (X.blk s H scope (compEnvC scope cl C X.env) fp) tg us f)
    (ht : ∀ (s : Shared) (H : Hp) (C : Addr) (cl : List (Str × Addr)) (fp : List Addr), DTs g (X.blk s H scope (compEnvC scope cl C X.env) fp) ifs tt)
    (hi1 : ∀ (s : Shared) (H : Hp) (C : Addr) (cl : List (Str × Addr)) (fp : List Addr), DI g (X.blk s H scope (compEnvC scope cl C X.env) fp) tg1 iter1 fi1)
    (hg1 : ∀ (s : Shared) (H : Hp) (C : Addr) (cl : List (Str × Addr)) (fp : List Addr), DG g (X.blk s H scope (compEnvC scope cl C X.env) fp) tg1 us1 f1) (ht1 : ∀ (s : Shared) (H : Hp) (C : Addr) (cl : List (Str × Addr)) (fp : List Addr), DTs g (X.blk s H scope (compEnvC scope cl C X.env) fp) ifs1 tt1)
    (he : ∀ (s : Shared) (H : Hp) (C : Addr) (cl : List (Str × Addr)) (fp : List Addr), DE g (X.blk s H scope (compEnvC scope cl C X.env) fp) elt te)
    (hu : ∀ j ∈ us, j ∈ own.map (·.2) := by decide) (hu1 : ∀ j ∈ us1, j ∈ vs1 := by decide) (hs : ∀ x, foldedSetIterable iter X.env x = pure x := by intro _; rfl) (hs1 : ∀ env x, foldedSetIterable iter1 env x = pure x := by intro _ _; rfl) (hvv : own.map (·.2) = vs := by rfl) :
    DE g X (.ListComp elt [⟨tg, iter, ifs, 0⟩, ⟨tg1, iter1, ifs1, 0⟩] scope pos) (dLc2 fi f tt fi1 f1 tt1 te vs vs1) := by
  subst hvv
  exact (pe_lc2 hc hN hi ok hv hg ht hi1 hg1 ht1 he hs hs1).imp (lc2_of hu hu1)
theorem set_of {t : TE} {fe : ED} {i : Nat} (h : ∀ σv H Q, tD X.K X.w g fe σv H Q → t σv H Q) : ∀ D σv H, tS X.K X.w g (bSet i fe) D σv H → tAsg t (gName i) D σv H := fun D σv H ⟨m, σ, S, D0, R, Rl, q, k⟩ =>
  h σv H (fun x H1 => D.nx (σv.set i (some x)) H1) ⟨m, σ, S, _, R, Rl, q, ⟨fun d S1 m1 H1 v q1 L R1 rd => k.nx _ _ _ _ _ q1 L R1 ((Rl.mono L).set i rd)⟩⟩
theorem ds_setLc {i : Nat} {y : Str} {py : Pos} (hc : X.calm = true) (hN : X.N.Nodup) (hy : X.N[i]? = some y) (hyl : X.env.scope.names.lookup y = some .local) (hsw : swapsWith (.ListComp elt [⟨tg, iter, ifs, 0⟩] scope pos) (some (.Name y py)) spos.line X.env = pure true)
    (hi : DI g X tg iter fi) (ok : BlkOk X.N X.env.scope scope own) (hg : ∀ (s : Shared) (H : Hp) (C : Addr) (cl : List (Str × Addr)) (fp : List Addr), DG g (X.blk s H scope (compEnvC scope cl C X.env) fp) tg us f)
    (ht : ∀ (s : Shared) (H : Hp) (C : Addr) (cl : List (Str × Addr)) (fp : List Addr), DTs g (X.blk s H scope (compEnvC scope cl C X.env) fp) ifs tt) (he : ∀ (s : Shared) (H : Hp) (C : Addr) (cl : List (Str × Addr)) (fp : List Addr), DE g (X.blk s H scope (compEnvC scope cl C X.env) fp) elt te)
    (hu : ∀ j ∈ us, j ∈ own.map (·.2) := by decide) (hs : ∀ x, foldedSetIterable iter X.env x = pure x := by intro _; rfl) (hv : own.map (·.2) = vs := by rfl) : DS g X (.Assign [.Name y py] (.ListComp elt [⟨tg, iter, ifs, 0⟩] scope pos) spos) (bSet i (dLc fi f tt te vs)) := by
  subst hv
  exact (ps_setLc hc hN hy hyl hsw hi ok hg ht he hs).imp (set_of (lc_of hu))
end

/-! ## what is no more needed is let go -/
def scoD (n : Nat) : D → Prop
  | .ref k => k < n
  | _ => True
def scoO (n : Nat) : AO → Prop
  | .lst ds => ∀ d ∈ ds, scoD n d
  | .dct kvs _ => ∀ p ∈ kvs, scoD n p.2
  | .ins _ fs => ∀ p ∈ fs, scoD n p.2
/-- the store speaks of itself alone -/
def Sco (S : Sto) : Prop := ∀ o ∈ S, scoO S.length o
section
variable {K : PySem.W.Frag} {w : World} {g : Gp} {m m' : List Addr} {S S1 : Sto} {H H' : Hp}
theorem RD.sco {d : D} {v : V} (r : RD m H d v) : scoD m.length d := by
  cases d with
  | ref k => obtain ⟨a, h, _⟩ := r; exact (List.getElem?_eq_some_iff.mp h).1
  | _ => exact trivial
theorem paired_mem {α β : Type} {F : α → β → Prop} {l : List α} {r : List β} (h : Paired F l r) {a : α} (ha : a ∈ l) : ∃ b, F a b := by
  induction h with
  | nil => cases ha
  | cons p _ ih =>
    rcases List.mem_cons.mp ha with rfl | ha
    · exact ⟨_, p⟩
    · exact ih ha
theorem RS.sco (R : RS K w g m S H) : Sco S := fun o ho => by
  obtain ⟨n, hn⟩ := List.mem_iff_getElem?.mp ho
  obtain ⟨a, ha, r⟩ := R.at hn
  rw [← R.len]
  cases o with
  | lst ds => obtain ⟨vs, _, r⟩ := r; exact fun d hd => (paired_mem r hd).elim fun v z => RD.sco z
  | dct kvs ep => obtain ⟨_, _, xs, _, r⟩ := r; exact fun p hp => (paired_mem r hp).elim fun v z => RD.sco z.2.2
  | ins C fs => obtain ⟨dx, vfs, _, r⟩ := r; exact fun p hp => (paired_mem r hp).elim fun v z => RD.sco z.2
theorem RD.cut {n : Nat} {d : D} {v : V} (r : RD m H d v) (h : scoD n d) : RD (m.take n) H d v := by
  cases d with
  | ref k => obtain ⟨a, h1, h2⟩ := r; exact ⟨a, by rw [List.getElem?_take]; simp [show k < n from h, h1], h2⟩
  | dat t => exact r
  | bl b => exact r
  | raw u => exact r
theorem paired_cut {α β : Type} {F G : α → β → Prop} {l : List α} {r : List β} (h : Paired F l r) (f : ∀ a ∈ l, ∀ b, F a b → G a b) : Paired G l r := by
  induction h with
  | nil => exact .nil
  | cons p _ ih => exact .cons (f _ List.mem_cons_self _ p) (ih fun a ha b z => f a (List.mem_cons_of_mem _ ha) b z)
theorem RS.cut (R : RS K w g m S H) (hp : S1 <+: S) (hs : Sco S1) : RS K w g (m.take S1.length) S1 H := by
  have hl : S1.length ≤ m.length := by rw [R.len]; exact hp.length_le
  refine ⟨by simp; omega, R.nd.sublist (List.take_sublist _ _), fun n a o h1 h2 => ?_, R.tz, R.tl, ?_⟩
  · have hn := (List.getElem?_eq_some_iff.mp h2).1
    rw [List.getElem?_take, if_pos hn] at h1
    obtain ⟨t, rfl⟩ := hp
    have r := R.obj n a o h1 (by rw [List.getElem?_append_left hn]; exact h2)
    have s := hs o (List.mem_of_getElem? h2)
    cases o with
    | lst ds => obtain ⟨vs, e, r⟩ := r; exact ⟨vs, e, paired_cut r fun d hd v z => RD.cut z (s d hd)⟩
    | dct kvs ep => obtain ⟨e0, e1, xs, e, r⟩ := r; exact ⟨e0, e1, xs, e, paired_cut r fun p hp v z => ⟨z.1, z.2.1, RD.cut z.2.2 (s p hp)⟩⟩
    | ins C fs => obtain ⟨dx, vfs, e, r⟩ := r; exact ⟨dx, vfs, e, paired_cut r fun p hp v z => ⟨z.1, RD.cut z.2 (s p hp)⟩⟩
  · rcases R.sc with ⟨u, e, h2, h3⟩ | h
    · exact .inl ⟨u, e, h2, fun z => h3 (List.mem_of_mem_take z)⟩
    · exact .inr h
theorem Le.cut (L : Le m H m' H') {n : Nat} (h : m.length ≤ n) : Le m H (m'.take n) H' where
  pre := by
    obtain ⟨t, rfl⟩ := L.pre
    exact ⟨t.take (n - m.length), by rw [List.take_append, List.take_of_length_le h]⟩
  tup := L.tup
  kp := L.kp
  nw := fun b hb => L.nw b (List.mem_of_mem_take hb)
/-- an end, the rest let go -/
def gcR (n : Nat) (Q : DQ) : DQ := fun d S' => ∃ S1, S1 <+: S' ∧ n ≤ S1.length ∧ Sco S1 ∧ scoD S1.length d ∧ Q d S1
theorem gc_dat {Q : DQ} {S l : Sto} {t : T} (hs : Sco S) (h : Q (.dat t) S) : gcR S.length Q (.dat t) (S ++ l) := ⟨S, List.prefix_append _ _, Nat.le_refl _, hs, trivial, h⟩
theorem gc_bl {Q : DQ} {S l : Sto} {b : Bool} (hs : Sco S) (h : Q (.bl b) S) : gcR S.length Q (.bl b) (S ++ l) := ⟨S, List.prefix_append _ _, Nat.le_refl _, hs, trivial, h⟩
theorem gc_same {Q : DQ} {S : Sto} {n : Nat} {d : D} (hs : Sco S) (hn : n ≤ S.length) (hd : scoD S.length d) (h : Q d S) : gcR n Q d S := ⟨S, List.prefix_refl _, hn, hs, hd, h⟩
theorem Kont.gc {Q0 : DQ} {Q : VK} (R : RS K w g m S H) (k : Kont K w g m H Q0 Q) : Kont K w g m H (gcR S.length Q0) Q := ⟨fun d S' m' H' v ⟨S1, h1, h2, h3, h4, q⟩ L R' rd =>
  k.run d S1 (m'.take S1.length) H' v q (L.cut (by rw [R.len]; exact h2)) (R'.cut h1 h3) (RD.cut rd h4)⟩
end
/-- an expression, what it laid beside let go -/
def dGc (f : ED) : ED := fun σ S Q => Sco S → f σ S (gcR S.length Q)
def xGc (f : XD) : XD := fun σ S Q => Sco S → f σ S fun b S' => ∃ S1, S1 <+: S' ∧ S.length ≤ S1.length ∧ Sco S1 ∧ Q b S1
section
variable {g : Gp} {X : Cx} {e : Expr} {f : ED} {fx : XD}
theorem de_gc (h : DE g X e f) : DE g X e (dGc f) := h.imp fun σv H Q ⟨m, σ, S, Q0, R, Rl, q, k⟩ => ⟨m, σ, S, _, R, Rl, q R.sco, k.gc R⟩
theorem dx_gc (h : DX g X e fx) : DX g X e (xGc fx) := h.imp fun σv H Q ⟨m, σ, S, Q0, R, Rl, q, k⟩ => ⟨m, σ, S, _, R, Rl, q R.sco, fun b S' m' H' ⟨S1, h1, h2, h3, q'⟩ L R' =>
  k b S1 (m'.take S1.length) H' q' (L.cut (by rw [R.len]; exact h2)) (R'.cut h1 h3)⟩
end
section
variable {P : Program} {w : World} {K : PySem.W.Frag} {mg : Str → Option Value} {base : Heap} {g : Gp}
/-- .. of a def's body -/
theorem FunC.okG {x qual : Str} {st : Stmt} {f : Addr} {fd : FuncData} {cdv : Value} {N ps : List Str} {k : Nat} {Ff : FD} (F : FunC K x qual st f fd cdv) (S : FnScope N ps (defScope st)) (len : ∀ ds S Q, Ff ds S Q → ds.length = ps.length)
    (hbody : ∀ (A : Around) (outer : List Env) (s : Shared) (H : Hp) (E : XK), Room k (A.deeper (envOfC qual (defScope st) s.heap.objs.size f cdv)) →
      ∃ fb : BD, DSs g (cxOf CX0 P w K mg base N qual (defScope st) f cdv A outer s H E).nox (defBody st) fb ∧ ∀ ds S Q, Sco S → Ff ds S Q → fb { nx := fun _ S' => gcR S.length Q (.dat .none) S', rt := gcR S.length Q } (startD N ds) S) :
    FnOk P w K mg base CX0 (k + 1) f fd ps (spD K w g Ff) := by
  obtain ⟨oc, od, kV, doc, pm, an, ct, osl, dV, rfl, lk, hcd⟩ := F.ex
  refine fn_of lk hcd S (fun vs H Q E ⟨m, S, ds, Q0, _, rs, h, _⟩ => by rw [← Paired.length rs]; exact len _ _ _ h) fun A outer s H vs Q E hr ⟨m, S, ds, Q0, R, rs, h, k⟩ => ?_
  obtain ⟨fb, hb, hq⟩ := hbody A outer s H E hr
  have kg := k.gc R
  exact ⟨_, hb.nox, m, startD N ds, S, _, R, RSl.start rs, hq ds S Q0 R.sco h, fun σ S1 m1 H1 σv q L R1 _ => kg.run _ _ _ _ _ q L R1 .none, fun d S1 m1 H1 v q L R1 rd => kg.run _ _ _ _ _ q L R1 rd, fun _ _ _ _ _ q => q.elim, fun _ _ _ _ _ q => q.elim⟩
end

/-! ## a, b = x, y; name op= e -/
def bPar (i j : Nat) (fa : AD) : BD := fun D0 σ S => fa σ S fun ds S1 => ∃ x y, ds = [x, y] ∧ D0.nx ((σ.set i (some x)).set j (some y)) S1
def bPar3 (i j l : Nat) (fa : AD) : BD := fun D0 σ S => fa σ S fun ds S1 => ∃ x y z, ds = [x, y, z] ∧ D0.nx (((σ.set i (some x)).set j (some y)).set l (some z)) S1
def bAug (i : Nat) (fe : ED) (r : OD) : BD := fun D0 σ S => ∃ x, σ[i]? = some (some x) ∧ fe σ S fun y S1 => r x y S1 fun z S2 => D0.nx (σ.set i (some z)) S2
/-- += of two lists -/
def opExt : OD
  | .ref n, .ref k, S, Q => ∃ a b, n ≠ k ∧ S[n]? = some (.lst a) ∧ S[k]? = some (.lst b) ∧ a.length + b.length ≤ 100000 ∧ Q (.ref n) (S.set n (.lst (a ++ b)))
  | _, _, _, _ => False
section
variable {g : Gp} {X : Cx} {a b c e : Expr} {fa : AD} {fe : ED} {x y z : Str} {px py pz pt pos pos' : Pos} {r : OD}
theorem ds_par {i j : Nat} {kt k2 pt2} (hc : X.calm = true) (hN : X.N.Nodup) (ha : DA g X [a, b] fa) (hi : X.N[i]? = some x := by rfl) (hj : X.N[j]? = some y := by rfl) (hij : i ≠ j := by decide)
    (hx : X.env.scope.names.lookup x = some .local := by rfl) (hy : X.env.scope.names.lookup y = some .local := by rfl)
    (hw : swappedStores [.Tuple [.Name x px, .Name y py] kt pt] (.Tuple [a, b] k2 pt2) X.env = pure (some [x, y]) := by rfl)
    (hs : swapsWithSole [.Tuple [.Name x px, .Name y py] kt pt] (.Tuple [a, b] k2 pt2) pos.line X.env = pure false := by rfl) : DS g X (.Assign [.Tuple [.Name x px, .Name y py] kt pt] (.Tuple [a, b] k2 pt2) pos) (bPar i j fa) :=
  (ps_par hc hN hi hj hij hx hy ha hw hs).imp fun De σv H ⟨m, σ, S, D0, R, Rl, h, k⟩ => ⟨m, σ, S, _, R, Rl, h, fun ds S1 m1 H1 vs ⟨u, v, e, q⟩ L R1 rs => by
    subst e
    obtain ⟨v1, v2, rfl, r1, r2⟩ := two_rd rs
    exact ⟨v1, v2, rfl, k.nx _ _ _ _ _ q L R1 (((Rl.mono L).set i r1).set j r2)⟩⟩
theorem ds_par3 {i j l : Nat} {kt k2 pt2} (hc : X.calm = true) (hN : X.N.Nodup) (ha : DA g X [a, b, c] fa) (hi : X.N[i]? = some x := by rfl) (hj : X.N[j]? = some y := by rfl) (hl : X.N[l]? = some z := by rfl) (hij : i ≠ j := by decide) (hil : i ≠ l := by decide) (hjl : j ≠ l := by decide)
    (hx : X.env.scope.names.lookup x = some .local := by rfl) (hy : X.env.scope.names.lookup y = some .local := by rfl) (hz : X.env.scope.names.lookup z = some .local := by rfl)
    (hw : swappedStores [.Tuple [.Name x px, .Name y py, .Name z pz] kt pt] (.Tuple [a, b, c] k2 pt2) X.env = pure (some [x, y, z]) := by rfl)
    (hs : swapsWithSole [.Tuple [.Name x px, .Name y py, .Name z pz] kt pt] (.Tuple [a, b, c] k2 pt2) pos.line X.env = pure false := by rfl) : DS g X (.Assign [.Tuple [.Name x px, .Name y py, .Name z pz] kt pt] (.Tuple [a, b, c] k2 pt2) pos) (bPar3 i j l fa) :=
  (ps_par3 hc hN hi hj hl hij hil hjl hx hy hz ha hw hs).imp fun De σv H ⟨m, σ, S, D0, R, Rl, h, k⟩ => ⟨m, σ, S, _, R, Rl, h, fun ds S1 m1 H1 vs ⟨u, v, t, e, q⟩ L R1 rs => by
    subst e
    cases rs with
    | cons r1 rr =>
      obtain ⟨v2, v3, rfl, r2, r3⟩ := two_rd rr
      exact ⟨_, v2, v3, rfl, k.nx _ _ _ _ _ q L R1 ((((Rl.mono L).set i r1).set j r2).set l r3)⟩⟩
theorem ds_aug {i : Nat} {op : Operator} (hN : X.N.Nodup) (he : DE g X e fe) (ho : OpR X (inplaceOp op) (rD X.K X.w g r)) (hi : X.N[i]? = some x := by rfl) (hx : Loc X.env.scope x := by first | exact Or.inl rfl | exact Or.inr rfl)
    (hf : X.fn x = true ∨ X.env.scope.names.lookup x = some .local := by first | exact .inl rfl | exact .inr rfl) : DS g X (.AugAssign (.Name x pos') op e pos) (bAug i fe r) :=
  (ps_aug hN hi hx he ho hf).imp fun De σv H ⟨m, σ, S, D0, R, Rl, ⟨d, hd, h⟩, k⟩ => by
    obtain ⟨v, hv, rv⟩ := Rl.2 i d hd
    exact ⟨v, hv, m, σ, S, _, R, Rl, h, ⟨fun d2 S1 m1 H1 v2 q L R1 rd => ⟨m1, S1, d, d2, _, R1, rv.mono L, rd, q, ⟨fun d3 S2 m2 H2 v3 q2 L2 R2 rd3 => k.nx _ _ _ _ _ q2 (L.trans L2) R2 ((Rl.mono (L.trans L2)).set i rd3)⟩⟩⟩⟩
theorem od_ext : OpR X (inplaceOp .Add) (rD X.K X.w g opExt) := by
  intro pins s σ H x y v u Q I rx ry ⟨m, S, dx, dy, Q0, R, ax, ay, h, k⟩
  unfold opExt at h
  split at h
  · obtain ⟨a, b, hne, h1, h2, hz, h⟩ := h
    obtain ⟨p, vs, rfl, hm, hp, rp⟩ := R.lst h1 ax
    obtain ⟨q, ws, rfl, hm', hq, rq⟩ := R.lst h2 ay
    have L := le_mut (o := HO.lst (vs ++ ws)) (List.mem_of_getElem? hm) hp trivial
    refine iop_ext pins s σ H _ _ v u Q I rx ry ⟨p, q, vs, ws, rfl, rfl, hp, hq, by rw [← Paired.length rp, ← Paired.length rq]; exact sz_le hz, ?_⟩
    exact k.run _ _ _ _ _ h L (R.lstSet hm hp trivial (Paired.app rp rq)) ⟨p, hm, rfl⟩
  · exact h.elim
end
end L2.LL

/-! # LLObj -/
set_option Elab.async false
set_option linter.all false
set_option maxRecDepth 100000
set_option maxHeartbeats 2000000
namespace L2.LL
open PySem PySem.Spec PyProof.Rows

/-! ## fields, new instances, methods -/
abbrev FsR (m : List Addr) (H : Hp) : List (Str × D) → List (Str × V) → Prop := Paired fun p q => p.1 = q.1 ∧ RD m H p.2 q.2
def putFD (f : Str) (d : D) : List (Str × D) → List (Str × D)
  | [] => [(f, d)]
  | (g, x) :: r => if g = f then (g, d) :: r else (g, x) :: putFD f d r
section
variable {m : List Addr} {H : Hp} {fs : List (Str × D)} {vs : List (Str × V)}
theorem FsR.put (h : FsR m H fs vs) {f : Str} {d : D} {v : V} (r : RD m H d v) : FsR m H (putFD f d fs) (putF f v vs) := by
  induction h with
  | nil => exact .cons ⟨rfl, r⟩ .nil
  | @cons p q _ _ a b ih =>
    obtain ⟨p1, p2⟩ := p
    obtain ⟨q1, q2⟩ := q
    obtain ⟨e, a⟩ := a
    simp only at e
    subst e
    unfold putFD putF
    by_cases h : p1 = f
    · rw [if_pos h, if_pos h]; exact .cons ⟨rfl, r⟩ b
    · rw [if_neg h, if_neg h]; exact .cons ⟨rfl, a⟩ ih
theorem FsR.look (h : FsR m H fs vs) {f : Str} {d : D} (e : fs.lookup f = some d) : ∃ v, vs.lookup f = some v ∧ RD m H d v := by
  induction h with
  | nil => cases e
  | @cons p q _ _ a b ih =>
    obtain ⟨p1, p2⟩ := p
    obtain ⟨q1, q2⟩ := q
    obtain ⟨e1, a⟩ := a
    simp only at e1
    subst e1
    rw [List.lookup_cons] at e ⊢
    split at e
    · cases e; exact ⟨_, rfl, a⟩
    · exact ih e
theorem FsR.none (h : FsR m H fs vs) {f : Str} (e : fs.lookup f = .none) : vs.lookup f = .none := by
  induction h with
  | nil => rfl
  | @cons p q _ _ a b ih =>
    obtain ⟨p1, p2⟩ := p
    obtain ⟨q1, q2⟩ := q
    obtain ⟨e1, a⟩ := a
    simp only at e1
    subst e1
    rw [List.lookup_cons] at e ⊢
    split at e
    · cases e
    · exact ih e
end
section
variable {g : Gp} {X : Cx} {o e value : Expr} {es : List Expr} {f x : Str} {pos pos' p apos : Pos} {fo fv : ED} {fa : AD} {C c : Addr} {F : FD} {k : Nat} {fd : FuncData} {ps : List Str}
theorem RS.ins {m : List Addr} {S : Sto} {H : Hp} {n : Nat} {fs : List (Str × D)} {v : V} (R : RS X.K X.w g m S H) (h : S[n]? = some (.ins C fs)) (r : RD m H (.ref n) v) : ∃ a dx vs, v = .ref a ∧ m[n]? = some a ∧ H a = some (.ins C dx vs) ∧ FsR m H fs vs := by
  obtain ⟨a, ha, e⟩ := r
  obtain ⟨dx, vs, h1, h2⟩ := R.obj n a _ ha h
  exact ⟨a, dx, vs, e, ha, h1, h2⟩
/-- o.f of an instance of the class at C -/
def dFld (C : Addr) (f : Str) (fo : ED) : ED := fun σ S Q => fo σ S fun d S1 => ∃ n fs y, d = .ref n ∧ S1[n]? = some (.ins C fs) ∧ fs.lookup f = some y ∧ Q y S1
theorem de_fld (he : DE g X o fo) (c : Cls X.K C) (n : NoAttr X.K C f) (hb : attributeBase o f X.env (eval o X.env) = eval o X.env := by rfl) : DE g X (.Attribute o f pos) (dFld C f fo) :=
  (pe_fld he hb).imp fun σv H Q ⟨m, σ, S, Q0, R, Rl, h, k⟩ => ⟨m, σ, S, _, R, Rl, h, ⟨fun d S1 m1 H1 v ⟨j, fs, y, e, h0, h1, q⟩ L R1 rd => by
    subst e
    obtain ⟨a, dx, vs, rfl, hm, hp, rp⟩ := R1.ins h0 rd
    obtain ⟨z, hz, rz⟩ := rp.look h1
    exact ⟨a, C, dx, vs, z, rfl, hp, c, n, hz, k.run _ _ _ _ _ q L R1 rz⟩⟩⟩
/-- o.f = value, the value first -/
def bFld (C : Addr) (f : Str) (fo fv : ED) : BD := fun D0 σ S => fv σ S fun y S1 => fo σ S1 fun d S2 => ∃ n fs, d = .ref n ∧ S2[n]? = some (.ins C fs) ∧ fs.length < 100 ∧ D0.nx σ (S2.set n (.ins C (putFD f y fs)))
theorem ds_fld (ho : DE g X o fo) (hv : DE g X value fv) (c : Cls X.K C) (n : NoAttr X.K C f) (hs : swapsWith value (some (.Attribute o f pos')) pos.line X.env = pure false := by rfl) : DS g X (.Assign [.Attribute o f pos'] value pos) (bFld C f fo fv) :=
  (ps_fld ho hv hs).imp fun De σv H ⟨m, σ, S, D0, R, Rl, h, k⟩ => ⟨m, σ, S, _, R, Rl, h, ⟨fun y S1 m1 H1 v q L R1 ry => ⟨m1, σ, S1, _, R1, Rl.mono L, q, ⟨fun d S2 m2 H2 v2 ⟨j, fs, e, h0, hl, q2⟩ L2 R2 rd => by
    subst e
    obtain ⟨a, dx, vs, rfl, hm, hp, rp⟩ := R2.ins h0 rd
    have L3 := le_mut (o := HO.ins C dx (putF f v vs)) (List.mem_of_getElem? hm) hp trivial
    exact ⟨a, C, dx, vs, rfl, hp, c, n, by rw [← Paired.length rp]; omega, k.nx _ _ _ _ _ q2 ((L.trans L2).trans L3)
      (R2.mut hm ⟨dx, _, upd_same, Paired.imp (fun _ _ z => ⟨z.1, RD.mono L3 z.2⟩) (rp.put (ry.mono L2))⟩) (Rl.mono ((L.trans L2).trans L3))⟩⟩⟩⟩⟩
/-- C(..) of a class of the text -/
def dMake (C : Addr) (F : FD) (fa : AD) : ED := fun σ S Q => fa σ S fun ds S1 => F (.ref S1.length :: ds) (S1 ++ [.ins C []]) fun d S2 => d = .dat .none ∧ Q (.ref S1.length) S2
theorem de_make {fI : Addr} (M : Mk X.K C fI) (G : FnOk X.prog X.w X.K X.mg X.base CX0 k fI fd ps (spD X.K X.w g F)) (hr : Room (k + 1) X.A) (hg : Gl X x) (hm : X.mg x = some (.ref C)) (hb : Binds X.K fd ps []) (ha : DA g X (e :: es) fa)
    (hdb : (x == ("__debug__" : Str)) = false := by decide) (he : starEach (e :: es) X.env = (false, eval e X.env) :: starEach es X.env := by rfl) (hpl : (backTo pos (starEach es X.env)).any (·.1) = false := by rfl) :
    DE g X (.Call (.Name x p) (e :: es) [] pos) (dMake C F fa) :=
  (pe_make M G hr hg hm hb .nil pass0 ha hdb he hpl).imp fun σv H Q ⟨m, σ, S, Q0, R, Rl, h, k⟩ => ⟨m, σ, S, _, R, Rl, h, fun ds S1 m1 H1 vs q L R1 rs a dx ha hdx hne => by
    have L1 : Le m1 H1 m1 (upd H1 dx (.own a)) := le_new hdx
    have R2 := R1.fresh (o := .own a) hdx
    have ha2 : upd H1 dx (.own a) a = none := by rw [upd_ne (Ne.symm hne)]; exact ha
    have R3 := R2.reg (o := .ins C dx []) (ao := .ins C []) ha2 ⟨dx, [], upd_same, .nil⟩
    have L2 := L1.trans (le_reg (o := .ins C dx []) ha2)
    refine ⟨m1 ++ [a], S1 ++ [.ins C []], .ref S1.length :: ds, _, R3, ?_, q, ⟨fun d S4 m4 H4 v ⟨e, q4⟩ L4 R4 rd => ?_⟩⟩
    · rw [List.append_nil]
      exact .cons ⟨a, by rw [← R1.len]; simp, rfl⟩ (rs.mono L2)
    · subst e
      cases rd
      refine ⟨rfl, k.run _ _ _ _ _ q4 ((L.trans L2).trans L4) R4 ⟨a, L4.at ?_, rfl⟩⟩
      rw [← R1.len]; simp⟩
/-- o.m(..), o.m() -/
def dMeth (C : Addr) (m : Str) (F : FD) (fo : ED) (fa : AD) : ED := fun σ S Q => fo σ S fun d S1 => ∃ n fs, d = .ref n ∧ S1[n]? = some (.ins C fs) ∧ fs.lookup m = none ∧ fa σ S1 fun ds S2 => F (.ref n :: ds) S2 Q
theorem meth_of {mm : Str} {t : TA} {E : XK} (ht : ∀ σv H Q, tA X.K X.w g fa σv H Q → t σv H Q) : ∀ σv H Q, tD X.K X.w g (dMeth C mm F fo fa) σv H Q → tMeth C mm (spD X.K X.w g F) [] E (tD X.K X.w g fo) t σv H Q := fun σv H Q ⟨m, σ, S, Q0, R, Rl, h, k⟩ =>
  ⟨m, σ, S, _, R, Rl, h, ⟨fun d S1 m1 H1 v ⟨n, fs, e, h0, h1, q⟩ L R1 rd => by
    subst e
    obtain ⟨a, dx, vs, rfl, hm, hp, rp⟩ := R1.ins h0 rd
    refine ⟨a, dx, vs, rfl, hp, rp.none h1, ht _ _ _ ⟨m1, σ, S1, _, R1, Rl.mono L, q, fun ds S2 m2 H2 vs2 q2 L2 R2 rs => ⟨m2, S2, _, Q0, R2, ?_, q2, k.le (L.trans L2)⟩⟩⟩
    rw [List.append_nil]
    exact .cons (rd.mono L2) rs⟩⟩
theorem de_meth {mm : Str} {fM : Addr} {pl : Sem Bool} (ho : DE g X o fo) (c : Cls X.K C) (hm : Meth X.K C mm fM) (G : FnOk X.prog X.w X.K X.mg X.base CX0 k fM fd ps (spD X.K X.w g F)) (hr : Room k X.A) (hb : Binds X.K fd ps []) (ha : DA g X (e :: es) fa)
    (hst : starEach (e :: es) X.env = (false, eval e X.env) :: starEach es X.env := by rfl) (hpl : (backTo pos (starEach es X.env)).any (·.1) = false := by rfl)
    (ht : eval (.Call (.Attribute o mm apos) (e :: es) [] pos) X.env = (do let ov ← eval o X.env; standAt apos.atName; let (f, first) ← holding [ov] (getMethod ov mm pl); callWith pos f first (backTo pos (starEach (e :: es) X.env)) (backToKw pos (keywordEach [] X.env))) := by rfl) :
    DE g X (.Call (.Attribute o mm apos) (e :: es) [] pos) (dMeth C mm F fo fa) :=
  (pe_meth ho c hm G hr hb .nil pass0 ha hst hpl ht).imp (meth_of fun _ _ _ z => z)
theorem de_meth0 {mm : Str} {fM : Addr} {pl : Sem Bool} (ho : DE g X o fo) (c : Cls X.K C) (hm : Meth X.K C mm fM) (G : FnOk X.prog X.w X.K X.mg X.base CX0 k fM fd ps (spD X.K X.w g F)) (hr : Room k X.A) (hb : Binds X.K fd ps [])
    (ht : eval (.Call (.Attribute o mm apos) [] [] pos) X.env = (do let ov ← eval o X.env; standAt apos.atName; let (f, first) ← holding [ov] (getMethod ov mm pl); callWith pos f first (backTo pos (starEach [] X.env)) (backToKw pos (keywordEach [] X.env))) := by rfl) :
    DE g X (.Call (.Attribute o mm apos) [] [] pos) (dMeth C mm F fo dNil) :=
  (pe_meth0 ho c hm G hr hb .nil pass0 ht).imp (meth_of fun σv H Q ⟨m, σ, S, Q0, R, Rl, h, k⟩ => k _ _ _ _ _ h Le.rfl R .nil)
end
end L2.LL

/-! # LLGen -/
set_option Elab.async false
set_option linter.all false
set_option maxRecDepth 100000
set_option maxHeartbeats 2000000
namespace L2.LL
open PySem PySem.Spec PyProof.Rows GxR GenW

/-! ## all, any of a generator expression: the generator's frame -/
structure GSc (N : List Str) (sc scope : Scope) (own : List (Str × Nat)) : Prop where
  blk : BlkOk N sc scope own
  co : scope.isCoroutine = false
  cell : ∀ y ∈ scope.names, y.2 ≠ .cell
  dot : scope.names.lookup (".0" : Str) = some NameKind.local
/-- the around of the generator's code -/
def gOver (A : Around) (cenv : Env) : Around := { A with depth := A.depth + 1, frames := pushEnvs [cenv] A.frames, units := A.units + 3 }
theorem over_gen {A : Around} {elt : Expr} {gens : List Comprehension} {scope : Scope} {pos : Pos} {it acc : Value} {cenv : Env} : A.over (.compLoop (.GeneratorExp elt gens scope pos) 0 it acc cenv) [] = gOver A cenv := by
  obtain ⟨hd, d, fr, gs, u⟩ := A
  simp [gOver, Around.over, marksOver, frameCount, unitsOf, envsOf, guardsOf, pushEnvs, pushGuards, Code.envs, Code.env?, Code.isFrame, Code.guards, Code.isGuard, Code.weight, Code.frames, Code.isCreation, Code.isCaller, Code.cUnits]
theorem over_gen0 {A : Around} {elt : Expr} {gens : List Comprehension} {scope : Scope} {pos : Pos} {it acc : Value} {cenv : Env} : A.over (.compStart (.GeneratorExp elt gens scope pos) 0 it acc cenv) [] = gOver A cenv := by
  obtain ⟨hd, d, fr, gs, u⟩ := A
  simp [gOver, Around.over, marksOver, frameCount, unitsOf, envsOf, guardsOf, pushEnvs, pushGuards, Code.envs, Code.env?, Code.isFrame, Code.guards, Code.isGuard, Code.weight, Code.frames, Code.isCreation, Code.isCaller, Code.cUnits]
/-- the context of the generator's frame -/
abbrev gx (X : Cx) (A : Around) (s : Shared) (H : Hp) (cenv : Env) (fp : List Addr) (pn : List (Addr × Obj)) : Cx :=
  { X with A := gOver A cenv, s_0 := s, H_0 := H, env := cenv, outer := X.stack, stack := cenv :: X.stack, ex := fp, fn := fun _ => false, pn := pn, xe := fun _ _ => False }
section
variable {X : Cx} {pins : List (Addr × Obj)} {σ : St} {H : Hp} {s s' : Shared} {scope : Scope} {own : List (Str × Nat)} {code : Value} {A : Around} {fp : List Addr} {a : Addr} {go : Obj} {m : Str → Option Value}
theorem gx_start (hd : A.handled = none) (hfr : A.frames = some X.stack) (I : Inv X pins σ H s) (ok : GSc X.N X.env.scope scope own) (hN : X.N.Nodup) (hfp : ∀ b ∈ fp, FpOk X pins H b ∧ b < s.heap.objs.size) (hos : s'.os = s.os) (hb : AllBare s'.gens)
    (kp : ∀ b o, s.heap.get? b = some o → s'.heap.get? b = some o) (hn : s'.heap.Ns s.heap.objs.size m) (ha : s'.heap.get? a = some go) (hsa : s.heap.objs.size < a) (hgc : ∀ v, go.data ≠ .cell v) :
    Inv (gx X A s H (genEnv scope (cloFrom X.env.cells scope.names []) s.heap.objs.size code builtinsNs X.env) fp [(a, go)]) [] (wipe σ (own.map (·.2))) H s' := by
  obtain ⟨ok, hco, hcell, hdot⟩ := ok
  have hfree : ∀ y ∈ scope.names, y.2 = .free → ∃ c, X.env.cells.lookup y.1 = some c := fun y hy e => by
    rcases ok.free y hy e with k | k
    · exact I.ok.has _ (.inl k)
    · exact I.ok.has _ (.inr k)
  generalize hce : genEnv scope (cloFrom X.env.cells scope.names []) s.heap.objs.size code builtinsNs X.env = cenv
  have hL : cenv.locals = s.heap.objs.size := by rw [← hce]; rfl
  have hcl : cenv.cells = cloFrom X.env.cells scope.names [] := by rw [← hce]; rfl
  have hsc : cenv.scope = scope := by rw [← hce]; rfl
  have mem : ∀ {y c}, cenv.cells.lookup y = some c → X.env.cells.lookup y = some c ∧ c < s.heap.objs.size := fun {y c} e => by
    rw [hcl] at e
    rcases cloFrom_mem (PySem.mem_of_lookup e) with hm | ⟨h1, rfl⟩
    · cases hm
    · obtain ⟨c, hc⟩ := hfree _ h1 rfl
      rw [hc]
      obtain ⟨w, z⟩ := I.cell _ _ hc
      exact ⟨rfl, z.lt⟩
  have look : ∀ {y}, scope.names.lookup y = some .free → ∃ c, cenv.cells.lookup y = some c ∧ X.env.cells.lookup y = some c := fun {y} hl => by
    obtain ⟨c', e'⟩ := mem_lookup (cloFrom_has (cells := X.env.cells) (acc := []) (PySem.mem_of_lookup hl))
    rw [← hcl] at e'
    exact ⟨c', e', (mem e').1⟩
  have nocell : ∀ {y}, scope.names.lookup y ≠ some .cell := fun {y} e => hcell _ (PySem.mem_of_lookup e) rfl
  have okB : (gx X A s H cenv fp [(a, go)]).Ok := by
    refine ⟨I.ok.mod, by show cenv.scope.kind = _; rw [hsc]; exact ok.kind, by show cenv.globals = _; rw [← hce]; exact I.ok.glob, by rw [← hce]; rfl, by show s.heap.objs.size ≤ cenv.locals; rw [hL]; exact Nat.le_refl _,
      fun y z c e1 e2 => I.ok.inj y z c (mem e1).1 (mem e2).1, fun y hy => ?_, fun y c z => Bool.noConfusion z, fun _ => hd, ?_, .inr ⟨rfl, by show cenv.frame = some cenv.locals; rw [← hce]; rfl⟩, fun b hb => ⟨?_, fun y c e z => ?_⟩, I.bs, Nat.le_trans I.ok.bsz I.sz, fun b o e hb => ?_, fun b hb z => ?_, I.stack, I.stkFree⟩
    · show ∃ c, cenv.cells.lookup y = some c
      have hy : scope.names.lookup y = some .cell ∨ scope.names.lookup y = some .free := by
        have hy : cenv.scope.names.lookup y = some .cell ∨ cenv.scope.names.lookup y = some .free := hy
        rw [hsc] at hy; exact hy
      rcases hy with hy | hy
      · exact absurd hy nocell
      · obtain ⟨c, h1, _⟩ := look hy; exact ⟨c, h1⟩
    · show pushEnvs [cenv] A.frames = some (cenv :: X.stack)
      rw [hfr]; rfl
    · show b ≠ cenv.locals
      rw [hL]; exact Nat.ne_of_lt (hfp b hb).2
    · exact (hfp b hb).1.2.2.2.2.1 y c (mem e).1 z
    · rcases (hfp b hb).1.2.2.2.1 with z | z
      · exact I.ok.noex b o e z
      · exact absurd (Nat.lt_of_lt_of_le (Heap.lt_size e) (Nat.le_trans I.ok.bsz z)) (Nat.lt_irrefl _)
    · rcases List.mem_cons.mp (I.stkSub b z) with z | z
      · exact (hfp b hb).1.2.1 z
      · exact (hfp b hb).1.2.2.1 z
  refine ⟨okB, hos, hb, Un.kept kp, ⟨m, by show Heap.Ns _ cenv.locals _; rw [hL]; exact hn, fun i y av e1 e2 e3 => ?_⟩, fun y c e => ?_, ?_, fun y c e => I.freeC y c (mem e).1, fun p hp => ?_, I.hok.kept kp, by rw [wipe_length]; exact I.len⟩
  · obtain ⟨e2, hne⟩ := wipe_some e2
    have e3 : Vis scope y := by
      have e3 : Vis cenv.scope y := e3
      rw [hsc] at e3; exact e3
    have hfr : scope.names.lookup y = some .free := by
      rcases e3 with e3 | e3 | e3
      · rcases ok.own _ (PySem.mem_of_lookup e3) (.inl rfl) with e' | e'
        · obtain ⟨p, hp, hpy⟩ := List.mem_map.mp e'
          have e4 := ok.ix p hp
          have q : p.1 = y := hpy
          rw [q] at e4
          exact absurd (List.mem_map.mpr ⟨p, hp, nodup_ix hN e4 e1⟩) hne
        · exact absurd (List.mem_of_getElem? e1) e'
      · exact absurd e3 nocell
      · exact e3
    obtain ⟨m', hn', hl⟩ := I.loc
    have hvis : Vis X.env.scope y := (ok.free _ (PySem.mem_of_lookup hfr) rfl).elim (fun k => .inr (.inl k)) (fun k => .inr (.inr k))
    obtain ⟨w, r, q⟩ := hl i y av e1 e2 hvis
    refine ⟨w, r, .inr ⟨.inr (by show cenv.scope.names.lookup y = _; rw [hsc]; exact hfr), ?_⟩⟩
    obtain ⟨c, h1, h2⟩ := look hfr
    rcases q with ⟨k, _⟩ | ⟨_, c', e', z⟩
    · have k : X.env.scope.names.lookup y = some .local := k
      rcases ok.free _ (PySem.mem_of_lookup hfr) rfl with k' | k' <;> rw [show X.env.scope.names.lookup y = _ from k'] at k <;> cases k
    · rw [h2] at e'; cases e'
      exact ⟨c, h1, z.keeps kp⟩
  · obtain ⟨w, z⟩ := I.cell y c (mem e).1
    exact ⟨w, z.keeps kp⟩
  · show H cenv.locals = none
    rw [hL]; exact I.hok.fresh (Nat.le_refl _)
  · have e : p = (a, go) := by simpa using hp
    subst e
    refine ⟨ha, I.hok.fresh (Nat.le_of_lt hsa), by show a ≠ cenv.locals; rw [hL]; exact Nat.ne_of_gt hsa, fun z => ?_, hgc⟩
    obtain ⟨_, o, ho, _⟩ := I.stack.mem z
    exact absurd (Nat.lt_trans (Heap.lt_size ho) hsa) (Nat.lt_irrefl _)
end

/-- what stands when the generator has handed out or ended -/
structure GDone (X : Cx) (s0 : Shared) (H0 : Hp) (fp : List Addr) (a : Addr) (go : Obj) (H : Hp) (s : Shared) : Prop where
  os : s.os = s0.os
  bare : AllBare s.gens
  un : Un (frs X.stack) fp H0 H s0.heap s.heap
  hok : HOk X.prog X.w H s.heap
  gen : s.heap.get? a = some go
  lim : s.heap.NoLimit
def YG (X : Cx) (s0 : Shared) (H0 : Hp) (fp : List Addr) (a : Addr) (go : Obj) (c : Bool) (QF : Hp → Prop) : Protocol := fun n s₀ v s kap =>
  ∃ b H, v = .bool b ∧ GDone X s0 H0 fp a go H s ∧ (b ≠ c → QF H) ∧ (b = c → ∀ G', AllBare G' → kap (.send .none) { s with gens := G' })
def RG (X : Cx) (s0 : Shared) (H0 : Hp) (fp : List Addr) (a : Addr) (go : Obj) (QT : Hp → Prop) : GenEnd := fun n s₀ r s => ((r = .ok (.ret .none) ∨ r = .ok .next) ∧ ∃ H, GDone X s0 H0 fp a go H s ∧ QT H) ∨ ∃ e, r = .error e ∧ False
/-- the turns: W by the turn and a measure; c: the value that goes on -/
def tTurns (J : It) (g : TG) (te : TE) (c : Bool) (σ : St) (vs : List Nat) (QT QF : Hp → Prop) (W : Nat → Nat → Hp → Prop) : Prop := ∀ i m H, W i m H →
  (J.stop i H ∧ QT H) ∨ (J.go i H ∧ ∃ N : Hp → Prop, (∀ H', N H' → ∃ m', m' < m ∧ W (i + 1) m' H') ∧ ∀ x H', J.yld i H x H' → g x (wipe σ vs) H' fun σ2 H2 => wipe σ2 vs = wipe σ vs ∧ te σ2 H2 fun y H3 => ∃ b, y = .bl b ∧ (b = c → N H3) ∧ (b ≠ c → QF H3))
section
variable {X : Cx} {A : Around} {s0 : Shared} {H0 : Hp} {cenv : Env} {fp : List Addr} {a it : Addr} {go : Obj} {elt tg iter : Expr} {scope : Scope} {pos : Pos} {tn : Nat → Heap → Prop} {J : It} {g : TG} {te : TE} {c : Bool} {σ : St} {vs : List Nat} {QT QF : Hp → Prop} {W : Nat → Nat → Hp → Prop}
theorem gdone_of {pins : List (Addr × Obj)} {σ' : St} {H : Hp} {s : Shared} (I : Inv (gx X A s0 H0 cenv fp [(a, go)]) pins σ' H s) : GDone X s0 H0 fp a go H s :=
  ⟨I.os, I.bare, I.base, I.hok, (I.pin (a, go) (List.mem_append_left _ (List.mem_singleton.mpr rfl))).1, I.nolimit⟩
theorem seg_gl (hc : X.calm = true) (hco : cenv.scope.isCoroutine = false) (T : Turn X.prog X.w X.K tg J fp it tn) (hfa : ∀ b ∈ fp, a ≠ b) (pg : PG (gx X A s0 H0 cenv fp [(a, go)]) tg g) (pe : PE (gx X A s0 H0 cenv fp [(a, go)]) elt te)
    (turn : tTurns J g te c σ vs QT QF W) : ∀ (n m i : Nat) (s₀ s : Shared) (H : Hp), m + 1 ≤ n → W i m H → Inv (gx X A s0 H0 cenv fp [(a, go)]) [] (wipe σ vs) H s → tn i s.heap → (∀ b ∈ fp, H b = none) →
      Seg (model X.prog X.w) A (RG X s0 H0 fp a go QT) (YG X s0 H0 fp a go c QF) n s₀ (.compLoop (.GeneratorExp elt [⟨tg, iter, [], 0⟩] scope pos) 0 (.ref it) .none cenv)
        ((model X.prog X.w).den (.compLoop (.GeneratorExp elt [⟨tg, iter, [], 0⟩] scope pos) 0 (.ref it) .none cenv)) [] s := by
  have stat : ∀ {σ' : St} {H' : Hp} {s' : Shared}, Inv (gx X A s0 H0 cenv fp [(a, go)]) [] σ' H' s' → (∀ b ∈ fp, H' b = none) → ∀ b ∈ fp, FpOk (gx X A s0 H0 cenv fp [(a, go)]) [] H' b := fun {σ' H' s'} I' hn b hb =>
    ⟨hn b hb, (I'.ok.exf b hb).1, I'.ok.exfs b hb, .inl hb, fun x c e => (I'.ok.exf b hb).2 x c e, fun p hp => by
      have e : p = (a, go) := by simpa using hp
      subst e; exact hfa b hb⟩
  intro n
  induction n with
  | zero => intro m i s₀ s H hm; omega
  | succ n ih =>
    intro m i s₀ s H hm w I st fn
    show Seg _ A _ _ _ s₀ _ ((compTurn (.GeneratorExp elt [⟨tg, iter, [], 0⟩] scope pos) 0 (.ref it) .none cenv).onRaise (leaving cenv)) [] s
    rw [compTurn_gen, Sem.onRaise_eq_wrap]
    refine seg_bind_wrap (wpAny_standAt ?_)
    rcases turn i m H w with ⟨stop, qq⟩ | ⟨gg, Nx, hNx, step⟩
    · refine seg_bind_wrap ?_
      rw [over_gen]
      refine wpAny_mono (T.done (gx X A s0 H0 cenv fp [(a, go)]) rfl rfl rfl hc i [] s _ H (fun _ _ => False) I (stat I fn) st stop) (fun r s6 h6 => ?_) fun _ _ z => z.elim
      obtain ⟨rfl, I6⟩ := h6
      exact seg_end (.ok .next) (.inl ⟨.inr rfl, H, gdone_of I6, qq⟩)
    · refine seg_bind_wrap ?_
      rw [over_gen]
      refine wpAny_mono (T.item (gx X A s0 H0 cenv fp [(a, go)]) rfl rfl rfl hc i [] s _ H (fun _ _ => False) I (stat I fn) st gg) (fun r s6 h6 => ?_) fun _ _ z => z.elim
      obtain ⟨u, rfl, h6⟩ := h6
      refine seg_bind_wrap ?_
      rw [over_gen]
      refine wpAny_mono h6 (fun _ s7 h7 => ?_) fun _ _ z => z.elim
      obtain ⟨x, H7, I7, r7, y7, st7, n7⟩ := h7
      have I7' := I7.pinned (stat I7 n7) (T.obj _ _ st7)
      refine seg_bind_wrap ?_
      rw [over_gen]
      refine wpAny_mono (pg.run _ s7 _ H7 x u _ I7' r7 (step x H7 y7)) (fun _ s8 h8 => ?_) fun _ _ z => z.elim
      obtain ⟨σ8, H8, I8, hw8, q8⟩ := h8
      simp only [List.forIn_nil]
      refine seg_bind_wrap (wpAny_pure ?_)
      simp only [if_true]
      have hy : ∀ v, yieldOut cenv v = yieldValue v := fun v => by simp only [yieldOut, hco, Bool.false_eq_true, if_false]
      simp only [hy]
      rw [Sem.bind_eq_wrap', Sem.bind_eq_wrap', Sem.wrap_wrap, Sem.wrap_wrap]
      refine seg_wrap ?_
      rw [over_gen]
      refine wpAny_mono (pe.run _ s8 σ8 H8 _ I8 q8) (fun v s9 h9 => ?_) fun _ _ z => z.elim
      obtain ⟨yv, H9, I9, r9, b, rfl, hT, hF⟩ := h9
      cases (show v = Value.bool b from r9)
      refine seg_at (seg_yield rfl rfl rfl ⟨b, H9, rfl, gdone_of I9, hF, fun hb G' hG => ?_⟩)
      obtain ⟨m', hm', w'⟩ := hNx H9 (hT hb)
      have pin' : ∀ d ∈ fp, ∀ o, s7.heap.get? d = some o → s9.heap.get? d = some o ∧ H9 d = none := fun d hd o e =>
        let z := I9.pin (d, o) (List.mem_append_right _ (List.mem_append_right _ (mem_pinsAt hd e)))
        ⟨z.1, z.2.1⟩
      have hl : (wipe σ vs).length = σ8.length := by rw [← hw8, wipe_length]
      have I10 : Inv (gx X A s0 H0 cenv fp [(a, go)]) [] (wipe σ vs) H9 s9 := (I9.unpinned (pins := [])).weak hl fun j v e => by
        rw [← hw8] at e
        exact (wipe_some e).1
      refine seg_again rfl (ih m' (i + 1) _ _ H9 (by omega) w' ⟨I10.ok, I10.os, hG, I10.base, I10.loc, I10.cell, I10.free, I10.freeC, I10.pin, I10.hok, I10.len⟩ (T.keep _ _ _ st7 fun d hd o e => (pin' d hd o e).1) fun d hd => ?_)
      obtain ⟨o, e, _⟩ := T.obj _ _ st7 d hd
      exact (pin' d hd o e).2
theorem seg_gs {n : Nat} {s₀ s : Shared} (T : Turn X.prog X.w X.K tg J fp it tn) (st : tn 0 s.heap)
    (loop : Seg (model X.prog X.w) A (RG X s0 H0 fp a go QT) (YG X s0 H0 fp a go c QF) n s₀ (.compLoop (.GeneratorExp elt [⟨tg, iter, [], 0⟩] scope pos) 0 (.ref it) .none cenv)
        ((model X.prog X.w).den (.compLoop (.GeneratorExp elt [⟨tg, iter, [], 0⟩] scope pos) 0 (.ref it) .none cenv)) [] s) :
    Seg (model X.prog X.w) A (RG X s0 H0 fp a go QT) (YG X s0 H0 fp a go c QF) n s₀ (.compStart (.GeneratorExp elt [⟨tg, iter, [], 0⟩] scope pos) 0 (.ref it) .none cenv)
        ((model X.prog X.w).den (.compStart (.GeneratorExp elt [⟨tg, iter, [], 0⟩] scope pos) 0 (.ref it) .none cenv)) [] s := by
  show Seg _ A _ _ _ s₀ _ ((compStart (.GeneratorExp elt [⟨tg, iter, [], 0⟩] scope pos) 0 (.ref it) .none cenv).onRaise (leaving cenv)) [] s
  unfold compStart
  rw [Sem.onRaise_eq_wrap]
  show Seg _ A _ _ _ s₀ _ ((ask >>= _).wrap _ _ _ _) [] s
  refine seg_bind_wrap (wpAny_askSetting ?_)
  split
  · exact seg_again rfl loop
  · first
      | exact seg_bind_wrap (wpAny_rule (seg_bind_wrap (wpAny_standAt (seg_bind_wrap (T.self _ 0 s _ _ st (seg_again rfl loop))))))
      | (refine seg_bind_wrap (wpAny_rule ?_); show Seg _ A _ _ _ s₀ _ ((standAt iter.pos >>= _).wrap _ _ _ _) [] s; exact seg_bind_wrap (wpAny_standAt (seg_bind_wrap (T.self _ 0 s _ _ st (seg_again rfl loop)))))
/-- asleep, ahead of a wake -/
structure Asleep (X : Cx) (A : Around) (s0 : Shared) (H0 : Hp) (fp : List Addr) (a : Addr) (go : Obj) (c : Bool) (QT QF : Hp → Prop) (gi n : Nat) (s : Shared) : Prop where
  gen : s.heap.IsGen a gi
  lim : s.heap.NoLimit
  goes : ∃ gs, s.gens[gi]? = some gs ∧ gs.Goes (model X.prog X.w) A (RG X s0 H0 fp a go QT) (YG X s0 H0 fp a go c QF) n (.send .none) (s.setGen gi .running)
/-- one wake -/
theorem wake {Aw : Around} {s : Shared} {gi n : Nat} {Q : Option Value → Shared → Prop} {E : Value → Shared → Prop} (hh : Aw.handled = none) (hd : Aw.depth < recursionLimit) (hgo : ∀ h : Heap, h.get? a = some go → h.IsGen a gi) (Z : Asleep X Aw.in1 s0 H0 fp a go c QT QF gi n s)
    (h1 : ∀ s1 H, GDone X s0 H0 fp a go H s1 → QT H → Q none s1) (h2 : ∀ s1 H, GDone X s0 H0 fp a go H s1 → QF H → Q (some (.bool (!c))) s1)
    (h3 : ∀ s1, 0 < n → Asleep X Aw.in1 s0 H0 fp a go c QT QF gi (n - 1) s1 → Q (some (.bool c)) s1) : wpAny (model X.prog X.w) Aw (pyNext (.ref a)) Q E s := by
  obtain ⟨hg, hl, gs, hgs, go'⟩ := Z
  have hgl : gi < s.gens.size := (Array.getElem?_eq_some_iff.mp hgs).1
  have drop : ∀ {s1 : Shared} {H : Hp} {x : GenState} {h' : Heap}, x.bare = true → (∀ b o, s1.heap.get? b = some o → h'.get? b = some o) → GDone X s0 H0 fp a go H s1 → GDone X s0 H0 fp a go H { s1.setGen gi x with heap := h' } := fun {s1 H x h'} hx hk D =>
    ⟨D.os, allBare_setGen D.bare hx, D.un.trans (Un.kept hk), D.hok.kept hk, hk _ _ D.gen, D.lim.keeps hk⟩
  refine wpAny_gsz (n := gi + 1) hgl (next_genG (F := fun _ _ s₁ => ∃ H, GDone X s0 H0 fp a go H s₁ ∧ QT H) (Er := fun _ _ => False) hh hl hd hg hgs go' (fun v s1 gs' hb hv hsz => ?_) (fun s1 ⟨H, D, q⟩ h' hk _ => ?_) fun e s1 z => z.elim)
  · obtain ⟨b, H, rfl, D, hF, hT⟩ := hv
    by_cases hbc : b = c
    · subst hbc
      cases n with
      | zero => exact (hT rfl s1.gens D.bare).elim
      | succ n =>
        have hsz1 : gi < s1.gens.size := by
          have q : (s1.setGen gi gs').gens.size = s1.gens.size := setGen_size _ _ _
          have hsz' : gi + 1 ≤ (s1.setGen gi gs').gens.size := hsz
          omega
        refine h3 _ (Nat.succ_pos n) ⟨hgo _ D.gen, D.lim, gs', setGen_at hsz1, ?_⟩
        have z := hT rfl ((s1.setGen gi gs').setGen gi .running).gens (allBare_setGen (s := s1.setGen gi gs') (allBare_setGen D.bare hb) rfl)
        cases gs' with
        | fresh c0 => exact ⟨z.1, z.2⟩
        | suspended k l c0 p fs kp => exact z
        | running => exact z.elim
        | finished => exact z.elim
    · have e : b = !c := by cases b <;> cases c <;> simp_all
      subst e
      exact h2 _ H (drop (h' := s1.heap) hb (fun _ _ e => e) D) (hF hbc)
  · exact h1 _ H (drop rfl hk D) q
/-- all's loop -/
theorem all_run {A0 : Around} {gi : Nat} {R : Result → Shared → Prop} (hh : A0.handled = none) (hd : A0.depth < recursionLimit) (hgo : ∀ h : Heap, h.get? a = some go → h.IsGen a gi)
    (hT : ∀ s1 H, GDone X s0 H0 fp a go H s1 → QT H → R (.ok (.ret (.bool true))) s1) (hF : ∀ s1 H, GDone X s0 H0 fp a go H s1 → QF H → R (.ok (.ret (.bool false))) s1) :
    ∀ (n : Nat) (s : Shared), Asleep X A0.in1.in1 s0 H0 fp a go true QT QF gi n s → codeAny (model X.prog X.w) A0 (.builtin "all.loop" ⟨[.ref a], []⟩) R s := by
  intro n
  induction n with
  | zero =>
    intro s Z
    refine codeAny_builtin F.entry_all_loop ?_
    rw [Around.under_plainId F.plain_all_loop _]
    show wpAny _ A0.in1 (pyNext (.ref a) >>= _) _ _ s
    refine wpAny_bind (wake (Aw := A0.in1) hh hd hgo Z (fun s1 H D q => ?_) (fun s1 H D q => ?_) fun s1 hn => by omega)
    · exact wpAny_bind (wpAny_rule (wpAny_pure (hT s1 H D q)))
    · refine wpAny_bind (wpAny_holding (wpAny_truthy_bool (wpAny_bind (wpAny_letGo ?_))))
      simp only [Bool.not_true, Bool.false_eq_true, if_false]
      exact wpAny_bind (wpAny_rule (wpAny_pure (hF s1 H D q)))
  | succ n ih =>
    intro s Z
    refine codeAny_builtin F.entry_all_loop ?_
    rw [Around.under_plainId F.plain_all_loop _]
    show wpAny _ A0.in1 (pyNext (.ref a) >>= _) _ _ s
    refine wpAny_bind (wake (Aw := A0.in1) hh hd hgo Z (fun s1 H D q => ?_) (fun s1 H D q => ?_) fun s1 _ Z' => ?_)
    · exact wpAny_bind (wpAny_rule (wpAny_pure (hT s1 H D q)))
    · refine wpAny_bind (wpAny_holding (wpAny_truthy_bool (wpAny_bind (wpAny_letGo ?_))))
      simp only [Bool.not_true, Bool.false_eq_true, if_false]
      exact wpAny_bind (wpAny_rule (wpAny_pure (hF s1 H D q)))
    · refine wpAny_bind (wpAny_holding (wpAny_truthy_bool (wpAny_bind (wpAny_letGo ?_))))
      simp only [if_true]
      exact wpAny_pure ⟨plainId_quiet F.plain_all_loop _, ih s1 Z'⟩
theorem any_run {A0 : Around} {gi : Nat} {R : Result → Shared → Prop} (hh : A0.handled = none) (hd : A0.depth < recursionLimit) (hgo : ∀ h : Heap, h.get? a = some go → h.IsGen a gi)
    (hT : ∀ s1 H, GDone X s0 H0 fp a go H s1 → QT H → R (.ok (.ret (.bool false))) s1) (hF : ∀ s1 H, GDone X s0 H0 fp a go H s1 → QF H → R (.ok (.ret (.bool true))) s1) :
    ∀ (n : Nat) (s : Shared), Asleep X A0.in1.in1 s0 H0 fp a go false QT QF gi n s → codeAny (model X.prog X.w) A0 (.builtin "any.loop" ⟨[.ref a], []⟩) R s := by
  intro n
  induction n with
  | zero =>
    intro s Z
    refine codeAny_builtin F.entry_any_loop ?_
    rw [Around.under_plainId F.plain_any_loop _]
    show wpAny _ A0.in1 (pyNext (.ref a) >>= _) _ _ s
    refine wpAny_bind (wake (Aw := A0.in1) hh hd hgo Z (fun s1 H D q => ?_) (fun s1 H D q => ?_) fun s1 hn => by omega)
    · exact wpAny_bind (wpAny_rule (wpAny_pure (hT s1 H D q)))
    · refine wpAny_bind (wpAny_holding (wpAny_truthy_bool (wpAny_bind (wpAny_letGo ?_))))
      simp only [Bool.not_false, if_true]
      exact wpAny_bind (wpAny_rule (wpAny_pure (hF s1 H D q)))
  | succ n ih =>
    intro s Z
    refine codeAny_builtin F.entry_any_loop ?_
    rw [Around.under_plainId F.plain_any_loop _]
    show wpAny _ A0.in1 (pyNext (.ref a) >>= _) _ _ s
    refine wpAny_bind (wake (Aw := A0.in1) hh hd hgo Z (fun s1 H D q => ?_) (fun s1 H D q => ?_) fun s1 _ Z' => ?_)
    · exact wpAny_bind (wpAny_rule (wpAny_pure (hT s1 H D q)))
    · refine wpAny_bind (wpAny_holding (wpAny_truthy_bool (wpAny_bind (wpAny_letGo ?_))))
      simp only [Bool.not_false, if_true]
      exact wpAny_bind (wpAny_rule (wpAny_pure (hF s1 H D q)))
    · refine wpAny_bind (wpAny_holding (wpAny_truthy_bool (wpAny_bind (wpAny_letGo ?_))))
      simp only [Bool.false_eq_true, if_false]
      exact wpAny_pure ⟨plainId_quiet F.plain_any_loop _, ih s1 Z'⟩
end
end L2.LL

/-! # LLGenE -/
set_option Elab.async false
set_option linter.all false
set_option maxRecDepth 100000
set_option maxHeartbeats 2000000
namespace L2.LL
open PySem PySem.Spec PyProof.Rows GxR GenW

/-- a generator that was made: all that its consumer leans on -/
structure GReady (X : Cx) (pins : List (Addr × Obj)) (σ : St) (elt tg iter : Expr) (scope : Scope) (own : List (Str × Nat)) (J : It) (H0 : Hp) (a : Addr) (s5 : Shared) : Prop where
  ex : ∃ (s0 : Shared) (fp : List Addr) (go : Obj) (gi : Nat) (cenv : Env) (code : Value), cenv = genEnv scope (cloFrom X.env.cells scope.names []) s0.heap.objs.size code builtinsNs X.env ∧ s5.heap.IsGen a gi ∧ (∀ h : Heap, h.get? a = some go → h.IsGen a gi) ∧
    (∀ H' s', GDone X s0 H0 fp a go H' s' → Inv X pins σ H' s') ∧
    ∀ (g : TG) (te : TE) (c : Bool) (QT QF : Hp → Prop) (W : Nat → Nat → Hp → Prop) (m : Nat), PG (gx X X.A.in1.in1 s0 H0 cenv fp [(a, go)]) tg g → PE (gx X X.A.in1.in1 s0 H0 cenv fp [(a, go)]) elt te → tTurns J g te c σ (own.map (·.2)) QT QF W → W 0 m H0 →
      Asleep X X.A.in1.in1 s0 H0 fp a go c QT QF gi (m + 1) s5
theorem gen_make {X : Cx} {pins : List (Addr × Obj)} {σ : St} {H : Hp} {s : Shared} {k : Nat} {cc P : Addr} {elt tg iter : Expr} {scope : Scope} {own : List (Str × Nat)} {gpos : Pos} {wi : TI} {R : It → Hp → Prop} {Q' : Value → Shared → Prop}
    (hr : Room k X.A) (hc : X.calm = true) (TB : TabB X.base X.mg cc P) (hcode : X.env.code = .ref cc) (S : GSc X.N X.env.scope scope own) (hN : X.N.Nodup) (hi : PI X tg iter wi) (hs : ∀ v, genFold iter X.env v = pure v) (I : Inv X pins σ H s)
    (h : wi σ H fun J H1 => TabG H1 P ∧ R J H1) (hQ : ∀ J H1 H0 a s5, R J H1 → Tabbed P H1 H0 → GReady X pins σ elt tg iter scope own J H0 a s5 → Q' (.ref a) s5) :
    wpAny (model X.prog X.w) X.A (eval (.GeneratorExp elt [⟨tg, iter, [], 0⟩] scope gpos) X.env) Q' X.xe s := by
  have hfree : ∀ y ∈ scope.names, y.2 = .free → ∃ c, X.env.cells.lookup y.1 = some c := fun y hy e => by
    rcases S.blk.free y hy e with k | k
    · exact I.ok.has _ (.inl k)
    · exact I.ok.has _ (.inr k)
  refine wpAny_GeneratorExp_make S.co (closure_ok hfree) S.cell S.dot S.blk.kind (by have := hr.dp; omega) ?_ hs
  refine thn (hi.run pins s σ H _ I h) fun xv s1 h1 => thn h1 fun itv s2 h2 => ?_
  obtain ⟨it, fp, tn, J, H2, e, I2, T, st2, f2, ⟨ps, hP, ht⟩, hR⟩ := h2
  subst e
  have hPs : s2.heap.get? P = some { cls := .none, data := .fields ps } := I2.hok P _ hP
  have cd : PySem.W.CodeHd s2.heap cc P := TB.code.keeps I2.bk
  have lim2 := I2.nolimit
  refine ⟨lim2, ?_⟩
  have cont : ∀ (code : Value) (h3 : Heap) (tk : Nat) (more : Array Value), Heap.ExtBut P s2.heap h3 → s2.heap.objs.size ≤ h3.objs.size → h3.get? P = some { cls := .none, data := .fields (ps ++ more) } → TriplesOk (ps ++ more).toList →
      wpAny (model X.prog X.w) X.A (builtinsFor X.env.globals X.env.builtins) (fun bi s₄ => ∀ h', h'.Ns s₄.heap.objs.size (fun y => if y = ".0" then some (.ref it) else none) → Heap.SameBut s₄.heap.objs.size (s₄.heap.push { cls := .type "frame", data := .dict #[] }) h' →
          Q' (.ref h'.objs.size) { s₄ with
            gens := s₄.gens.push (.fresh (.compStart (.GeneratorExp elt [⟨tg, iter, [], 0⟩] scope gpos) 0 (.ref it) .none (genEnv scope (cloFrom X.env.cells scope.names []) s₄.heap.objs.size code bi X.env))),
            toks := s₄.toks + 1 + 1 + 1,
            heap := h'.push { cls := .type "generator", data := .fields #[.int s₄.gens.size 0, .str "<genexpr>" (s₄.toks + 1), .str (X.env.qual ++ "<genexpr>") (s₄.toks + 1 + 1)] } }) X.xe { s2 with heap := h3, toks := tk } := by
    intro code h3 tk more hx hsz hP3 ht3
    obtain ⟨bm, ob, e1, e2, e3, e4, e5, e6, e7, e8⟩ := TB.bm
    have keep3 : ∀ b u, b ≠ P → s2.heap.get? b = some u → h3.get? b = some u := fun b u hb e => hx b u hb e
    refine wpAny_builtinsFor (m := X.mg) (by rw [I2.ok.glob]; exact (I2.mod.glob.keeps I2.bk).extBut hx TB.gP) e1 e2 (keep3 _ _ e4 (I2.bk _ _ e5)) e6 e7 e8 ?_
    intro h' hns hsb
    have I3 := inv_tab (more := more) (h' := h3) (g' := s2.gens) (d' := s2.drawn) (t' := tk) I2 hP (fun b u hb e => keep3 b u hb e) hP3 I2.bare
    have f3 : ∀ b ∈ fp, FpOk X pins (upd H2 P (.tbl (ps ++ more))) b ∧ b < h3.objs.size := fun b hb => by
      obtain ⟨o, eo, _⟩ := T.obj _ _ st2 b hb
      have hbP : b ≠ P := fun z => by rw [z, ] at hb; have := (f2 P hb).1; rw [hP] at this; cases this
      exact ⟨⟨by rw [upd_ne hbP]; exact (f2 b hb).1, (f2 b hb).2⟩, Heap.lt_size (keep3 b o hbP eo)⟩
    have kp' : ∀ b o, h3.get? b = some o → h'.get? b = some o := fun b o e => hsb.extBut b o (Nat.ne_of_lt (Heap.lt_size e)) (Heap.get?_push_of_some _ e)
    have hsz' : h'.objs.size = h3.objs.size + 1 := by rw [hsb.1]; exact Heap.size_push ..
    generalize hgo : ({ cls := .type "generator", data := .fields #[.int s2.gens.size 0, .str "<genexpr>" (tk + 1), .str (X.env.qual ++ "<genexpr>") (tk + 1 + 1)] } : Obj) = go
    have isg : ∀ h : Heap, h.get? h'.objs.size = some go → h.IsGen h'.objs.size s2.gens.size := fun h e => ⟨go, _, _, e, by rw [← hgo], by rw [← hgo], by rw [← hgo]⟩
    have ga : (h'.push go).get? h'.objs.size = some go := Heap.get?_push_size _ (by rw [← hgo]; rfl)
    have kp5 : ∀ b o, h3.get? b = some o → (h'.push go).get? b = some o := fun b o e => Heap.get?_push_of_some _ (kp' b o e)
    refine hQ J H2 (upd H2 P (.tbl (ps ++ more))) _ _ hR ⟨⟨ps ++ more, upd_same, ht3⟩, fun b hb => upd_ne hb⟩ ⟨{ s2 with heap := h3, toks := tk }, fp, go, s2.gens.size, _, code, rfl, isg _ ga, isg, fun H' s' D => ?_, fun g te c QT QF W m pg pe turn w0 => ?_⟩
    · exact I3.call' (ch := fp) D.os D.un D.hok D.bare fun b hb => ⟨(f3 b hb).1.2.2.2.1, (f3 b hb).1.2.1, (f3 b hb).1.2.2.2.2.1, (f3 b hb).1.2.2.2.2.2⟩
    · refine ⟨isg _ ga, ?_, .fresh (.compStart (.GeneratorExp elt [⟨tg, iter, [], 0⟩] scope gpos) 0 (.ref it) .none (genEnv scope (cloFrom X.env.cells scope.names []) h3.objs.size code builtinsNs X.env)), Array.getElem?_push_size .., rfl, ?_⟩
      · refine Heap.NoLimit.keeps (lim2.extBut hx fun z => ?_) kp5
        obtain ⟨_, hns', _⟩ := lim2
        obtain ⟨o', es, ep, ho, hd, _⟩ := hns'
        rw [z, hPs] at ho
        cases ho; cases hd
      · have hfa : ∀ b ∈ fp, h'.objs.size ≠ b := fun b hb z => by
          have := (f3 b hb).2
          rw [← z, hsz'] at this
          exact absurd (Nat.lt_of_succ_lt this) (Nat.lt_irrefl _)
        have st5 : tn 0 (h'.push go) := T.keep _ _ _ st2 fun b hb o e => kp5 b o (keep3 b o (fun z => by rw [z] at hb; have := (f2 P hb).1; rw [hP] at this; cases this) e)
        have I5 := gx_start (A := X.A.in1.in1) (go := go) (a := h'.objs.size) (code := code) (s' := ({ s2 with heap := h'.push go, toks := tk + 1 + 1 + 1, gens := s2.gens.push (.fresh (.compStart (.GeneratorExp elt [⟨tg, iter, [], 0⟩] scope gpos) 0 (.ref it) .none (genEnv scope (cloFrom X.env.cells scope.names []) h3.objs.size code builtinsNs X.env))) } : Shared).setGen s2.gens.size .running)
          (I3.ok.hd hc) I3.ok.frames I3 S hN f3 rfl (allBare_setGen (AllBare.push I2.bare rfl) rfl) kp5 (Heap.Ns.keeps hns fun b o e => Heap.get?_push_of_some _ e) ga (by show h3.objs.size < _; rw [hsz']; exact Nat.lt_succ_self _) (fun v z => by rw [← hgo] at z; cases z)
        refine seg_gs T st5 (seg_gl hc S.co T hfa pg pe turn (m + 1) m 0 _ _ _ (Nat.le_refl _) w0 I5 st5 fun b hb => (f3 b hb).1.1)
  cases hf : codeAmong gpos ps.toList with
  | none =>
    refine wpAny_genexprCodeX hcode (cd.code hPs ht) (cd.tab hPs) hf fun c' h' tk hx hge hlt hco' _ htab' _ => ?_
    obtain ⟨o1, vs, f1, tf, fl, tg', inF, tx, tt, op, _, _, _, _, _, _, _, _, _, htr, _⟩ := hco'
    exact cont _ h' tk _ hx (Nat.le_trans hge (Nat.le_of_lt hlt)) htab'.2 htr
  | some cv =>
    refine wpAny_genexprCode_hit hcode (cd.code hPs ht) hf ?_
    exact cont cv s2.heap s2.toks #[] (Heap.ExtBut.refl _ _) (Nat.le_refl _) (by simpa using hPs) (by simpa using ht)
end L2.LL

/-! # LLAll -/
set_option Elab.async false
set_option linter.all false
set_option maxRecDepth 100000
set_option maxHeartbeats 2000000
namespace L2.LL
open PySem PySem.Spec PyProof.Rows GxR GenW

theorem room_gx {k : Nat} {A : Around} {cenv : Env} (r : Room (k + 1) A) : Room k (gOver A.in1.in1 cenv) :=
  ⟨r.hd, by have := r.dp; show A.depth + 1 + 3 * k + 5 < _; omega, by have := r.un; show A.units + 1 + 1 + 3 + 16 * k + 200 < _; omega⟩
section
variable {K : PySem.W.Frag} {w : World} {g : Gp} {m : List Addr} {S : Sto} {H H0 : Hp} {P : Addr}
theorem le_tab (hP : ∃ ps, H P = some (.tbl ps)) (t : Tabbed P H H0) : Le m H m H0 where
  pre := List.prefix_refl _
  tup := fun b xs e => by
    obtain ⟨ps, hP⟩ := hP
    rw [t.2 b (fun z => by rw [z, hP] at e; cases e)]; exact e
  kp := fun b o _ e => by
    obtain ⟨ps, hP⟩ := hP
    by_cases hb : b = P
    · subst hb
      obtain ⟨ps', e', _⟩ := t.1
      rw [hP] at e; cases e
      exact ⟨_, e', fun z => absurd rfl (z ps)⟩
    · exact ⟨o, by rw [t.2 b hb]; exact e, fun _ => rfl⟩
  nw := fun _ h => .inl h
theorem RS.tabbed (R : RS K w g m S H) (hP : P ∈ g.Z) (hL : P ∉ g.L) (t : Tabbed P H H0) : RS K w g m S H0 := by
  obtain ⟨ps, eP, _⟩ := R.tz P hP
  have L : Le m H m H0 := le_tab ⟨ps, eP⟩ t
  have ne : ∀ {b : Addr} {z : HO}, H b = some z → (∀ q, z ≠ .tbl q) → b ≠ P := fun e k q => by subst q; rw [eP] at e; cases e; exact k ps rfl
  refine ⟨R.len, R.nd, fun n a o h1 h2 => ?_, fun b hb => ?_, fun b hb => ?_, ?_⟩
  · obtain ⟨u, e, k⟩ := (R.obj n a o h1 h2).kind
    exact (R.obj n a o h1 h2).mono L (t.2 a (ne e fun q z => by subst z; exact k))
  · by_cases e : b = P
    · subst e; exact t.1
    · obtain ⟨q, e1, e2⟩ := R.tz b hb
      exact ⟨q, by rw [t.2 b e]; exact e1, e2⟩
  · rw [t.2 b (fun e => by subst e; exact hL hb)]; exact R.tl b hb
  · rcases R.sc with ⟨u, e, h2, h3⟩ | hk
    · refine .inl ⟨u, ?_, h2, h3⟩
      rw [t.2 _ (ne e fun q z => by rcases h2 with h2 | ⟨_, h2⟩ <;> rw [h2] at z <;> cases z)]; exact e
    · exact .inr hk
end
/-- all(..), any(..) of a generator expression; c: the value that goes on -/
def dGen (c : Bool) (fi : ID) (tg : TgD) (te : ED) (vs : List Nat) : ED := fun σ S Q => fi σ S fun ts ok S1 => ∃ Pv : Nat → Sto → Prop, Pv 0 S1 ∧ (∀ i S, Pv i S → ok S) ∧
  (∀ i t S, ts[i]? = some t → Pv i S → tg t (wipeD σ vs) fun σ2 => te σ2 S fun y S2 => ∃ b, y = .bl b ∧ (b = c → Pv (i + 1) S2) ∧ (b ≠ c → Q (.bl (!c)) S2)) ∧ ∀ S, Pv ts.length S → Q (.bl c) S
section
variable {g : Gp} {X : Cx} {k : Nat} {cc P : Addr} {elt tg iter : Expr} {scope : Scope} {own : List (Str × Nat)} {us vs : List Nat} {gpos p pos : Pos} {fi : ID} {f : TgD} {te : ED} {c : Bool}
theorem gen_D {pins : List (Addr × Obj)} {s : Shared} {σv : St} {H : Hp} {Q : VK} {Q' : Value → Shared → Prop} (hr : Room k X.A) (hc : X.calm = true) (TB : TabB X.base X.mg cc P) (hcode : X.env.code = .ref cc) (hZ : P ∈ g.Z) (hL : P ∉ g.L) (S : GSc X.N X.env.scope scope own) (hN : X.N.Nodup)
    (hi : DI g X tg iter fi) (hs : ∀ v, genFold iter X.env v = pure v) (hu : ∀ j ∈ us, j ∈ own.map (·.2))
    (hg : ∀ (s : Shared) (H : Hp) (C : Addr) (code : Value) (fp : List Addr) (pn : List (Addr × Obj)), DG g (gx X X.A.in1.in1 s H (genEnv scope (cloFrom X.env.cells scope.names []) C code builtinsNs X.env) fp pn) tg us f)
    (he : ∀ (s : Shared) (H : Hp) (C : Addr) (code : Value) (fp : List Addr) (pn : List (Addr × Obj)), DE g (gx X X.A.in1.in1 s H (genEnv scope (cloFrom X.env.cells scope.names []) C code builtinsNs X.env) fp pn) elt te)
    (I : Inv X pins σv H s) (h : tD X.K X.w g (dGen c fi f te (own.map (·.2))) σv H Q)
    (hQ : ∀ (s0 : Shared) (H0 : Hp) (fp : List Addr) (a : Addr) (go : Obj) (gi n : Nat) (s5 : Shared) (QT QF : Hp → Prop), s5.heap.IsGen a gi → (∀ h : Heap, h.get? a = some go → h.IsGen a gi) → (∀ H' s', GDone X s0 H0 fp a go H' s' → QT H' → EP X pins σv Q (.bool c) s') → (∀ H' s', GDone X s0 H0 fp a go H' s' → QF H' → EP X pins σv Q (.bool (!c)) s') →
      Asleep X X.A.in1.in1 s0 H0 fp a go c QT QF gi n s5 → Q' (.ref a) s5) :
    wpAny (model X.prog X.w) X.A (eval (.GeneratorExp elt [⟨tg, iter, [], 0⟩] scope gpos) X.env) Q' X.xe s := by
  obtain ⟨m, σ, S0, Q0, R, Rl, h, kk⟩ := h
  refine gen_make (R := fun J H1 => ∃ m1 S1 ts ok, Le m H m1 H1 ∧ RS X.K X.w g m1 S1 H1 ∧ Desc X.K X.w g m1 H1 J ts ok ∧ ∃ Pv : Nat → Sto → Prop, Pv 0 S1 ∧ (∀ i S, Pv i S → ok S) ∧
    (∀ i t S, ts[i]? = some t → Pv i S → f t (wipeD σ (own.map (·.2))) fun σ2 => te σ2 S fun y S2 => ∃ b, y = .bl b ∧ (b = c → Pv (i + 1) S2) ∧ (b ≠ c → Q0 (.bl (!c)) S2)) ∧ ∀ S, Pv ts.length S → Q0 (.bl c) S)
    hr hc TB hcode S hN hi hs I ⟨m, σ, S0, _, R, Rl, h, fun ts ok S1 m1 H1 J q L1 R1 ds => ⟨?_, m1, S1, ts, ok, L1, R1, ds, q⟩⟩ fun J H1 H0 a s5 ⟨m1, S1, ts, ok, L1, R1, ds, Pv, p0, pok, pstep, pend⟩ tb ⟨s0, fp, go, gi, cenv, code, hcv, hgen, hgo, hfin, hrun⟩ => ?_
  · obtain ⟨ps, e, t⟩ := R1.tz P hZ
    exact ⟨ps, e, t⟩
  · obtain ⟨ps, eP, _⟩ := R1.tz P hZ
    have L0 : Le m1 H1 m1 H0 := le_tab ⟨ps, eP⟩ tb
    have R0 := R1.tabbed hZ hL tb
    subst hcv
    refine hQ s0 H0 fp a go gi (ts.length + 1) s5 (fun H' => ∃ m2 S2, Le m1 H0 m2 H' ∧ RS X.K X.w g m2 S2 H' ∧ Q0 (.bl c) S2) (fun H' => ∃ m2 S2, Le m1 H0 m2 H' ∧ RS X.K X.w g m2 S2 H' ∧ Q0 (.bl (!c)) S2) hgen hgo
      (fun H' s' D ⟨m2, S2, L2, R2, q⟩ => ⟨.bl c, H', hfin H' s' D, rfl, kk.run _ _ _ _ _ q ((L1.trans L0).trans L2) R2 rfl⟩) (fun H' s' D ⟨m2, S2, L2, R2, q⟩ => ⟨.bl (!c), H', hfin H' s' D, rfl, kk.run _ _ _ _ _ q ((L1.trans L0).trans L2) R2 rfl⟩) ?_
    refine hrun _ _ c _ _ (fun i n H' => i + n = ts.length ∧ ∃ m2 S2, Le m1 H0 m2 H' ∧ RS X.K X.w g m2 S2 H' ∧ Pv i S2) ts.length (hg _ _ _ _ _ _) (he _ _ _ _ _ _) ?_ ⟨by omega, m1, S1, Le.rfl, R0, p0⟩
    rintro i n H2 ⟨hin, m2, S2, L2, R2, p2⟩
    have L02 := L0.trans L2
    by_cases hlt : i < ts.length
    · have ht : ts[i]? = some ts[i] := List.getElem?_eq_getElem hlt
      refine .inr ⟨ds.go i _ m2 S2 H2 ht L02.lt R2 (pok _ _ p2), fun H' => ∃ m2 S2, Le m1 H0 m2 H' ∧ RS X.K X.w g m2 S2 H' ∧ Pv (i + 1) S2, fun H' q => ⟨n - 1, by omega, by omega, q⟩, fun x H3 y => ?_⟩
      obtain ⟨L3, R3, rt⟩ := ds.yl i x m2 S2 H2 H3 _ ht L02.lt R2 (pok _ _ p2) y
      refine ⟨m2, S2, wipeD σ (own.map (·.2)), _, _, R3, (Rl.mono ((L1.trans L02).trans L3)).wipe _, rt, pstep i _ S2 ht p2, fun σ' σv' q Rl' ag ln => ⟨wipe_agree hu ln ag, m2, σ', S2, _, R3, Rl', q, ⟨fun d S4 m4 H4 v4 q4 L4 R4 rd4 => ?_⟩⟩⟩
      obtain ⟨b, rfl, q5, q6⟩ := q4
      exact ⟨b, rd4, fun hb => ⟨m4, S4, (L2.trans L3).trans L4, R4, q5 hb⟩, fun hb => ⟨m4, S4, (L2.trans L3).trans L4, R4, q6 hb⟩⟩
    · have e : i = ts.length := by omega
      subst e
      exact .inl ⟨ds.st _ m2 S2 H2 (Nat.le_refl _) L02.lt R2 (pok _ _ p2), m2, S2, L2, R2, pend _ p2⟩
variable (hr : Room k X.A) (hc : X.calm = true)
include hr hc
theorem de_all (hgl : Gl X "all") (hm : X.mg "all" = none) (hb : bootBuiltins "all" = some (.builtin "all")) (TB : TabB X.base X.mg cc P) (hcode : X.env.code = .ref cc) (hZ : P ∈ g.Z) (hL : P ∉ g.L) (S : GSc X.N X.env.scope scope own) (hN : X.N.Nodup)
    (hi : DI g X tg iter fi) (hs : ∀ v, genFold iter X.env v = pure v)
    (hg : ∀ (s : Shared) (H : Hp) (C : Addr) (code : Value) (fp : List Addr) (pn : List (Addr × Obj)), DG g (gx X X.A.in1.in1 s H (genEnv scope (cloFrom X.env.cells scope.names []) C code builtinsNs X.env) fp pn) tg us f)
    (he : ∀ (s : Shared) (H : Hp) (C : Addr) (code : Value) (fp : List Addr) (pn : List (Addr × Obj)), DE g (gx X X.A.in1.in1 s H (genEnv scope (cloFrom X.env.cells scope.names []) C code builtinsNs X.env) fp pn) elt te)
    (hu : ∀ j ∈ us, j ∈ own.map (·.2) := by decide)
    (hst : starEach [.GeneratorExp elt [⟨tg, iter, [], 0⟩] scope gpos] X.env = (false, eval (.GeneratorExp elt [⟨tg, iter, [], 0⟩] scope gpos) X.env) :: starEach [] X.env := by rfl) (hv : own.map (·.2) = vs := by rfl) :
    DE g X (.Call (.Name "all" p) [.GeneratorExp elt [⟨tg, iter, [], 0⟩] scope gpos] [] pos) (dGen true fi f te vs) := ⟨fun pins s σv H Q I h => by
  subst hv
  refine wpAny_Call_Name_kw (ld_blt I hgl hm hb (PyProof.Rows.callWith_builtin1 ?_ hst (by rfl)))
  rw [hst]
  show wpAny _ _ (spliced ((false, eval (.GeneratorExp elt [⟨tg, iter, [], 0⟩] scope gpos) X.env) :: backTo pos (starEach [] X.env))) _ _ s
  refine Calls.spliced_cons (gen_D hr hc TB hcode hZ hL S hN hi hs hu hg he I h fun s0 H0 fp a go gi n s5 QT QF hgen hgo hT hF Z => Calls.spliced_nil ?_)
  refine call_function_tree F.kind_all F.plain_all F.entry_all (F.args_all1 _) ?_
  unfold Builtin.«all»
  refine wpAny_bind (m := oneArg "all" _) (wpAny_pure (wpAny_bind (wpAny_pyIter_gen hgen (wpAny_pure ⟨plainId_quiet F.plain_all_loop _, ?_⟩))))
  exact all_run (I.ok.hd hc) (by have := hr.dp; show X.A.depth < _; omega) hgo (fun s1 H' D q => hT H' s1 D q) (fun s1 H' D q => hF H' s1 D q) n s5 Z⟩
theorem de_any (hgl : Gl X "any") (hm : X.mg "any" = none) (hb : bootBuiltins "any" = some (.builtin "any")) (TB : TabB X.base X.mg cc P) (hcode : X.env.code = .ref cc) (hZ : P ∈ g.Z) (hL : P ∉ g.L) (S : GSc X.N X.env.scope scope own) (hN : X.N.Nodup)
    (hi : DI g X tg iter fi) (hs : ∀ v, genFold iter X.env v = pure v)
    (hg : ∀ (s : Shared) (H : Hp) (C : Addr) (code : Value) (fp : List Addr) (pn : List (Addr × Obj)), DG g (gx X X.A.in1.in1 s H (genEnv scope (cloFrom X.env.cells scope.names []) C code builtinsNs X.env) fp pn) tg us f)
    (he : ∀ (s : Shared) (H : Hp) (C : Addr) (code : Value) (fp : List Addr) (pn : List (Addr × Obj)), DE g (gx X X.A.in1.in1 s H (genEnv scope (cloFrom X.env.cells scope.names []) C code builtinsNs X.env) fp pn) elt te)
    (hu : ∀ j ∈ us, j ∈ own.map (·.2) := by decide)
    (hst : starEach [.GeneratorExp elt [⟨tg, iter, [], 0⟩] scope gpos] X.env = (false, eval (.GeneratorExp elt [⟨tg, iter, [], 0⟩] scope gpos) X.env) :: starEach [] X.env := by rfl) (hv : own.map (·.2) = vs := by rfl) :
    DE g X (.Call (.Name "any" p) [.GeneratorExp elt [⟨tg, iter, [], 0⟩] scope gpos] [] pos) (dGen false fi f te vs) := ⟨fun pins s σv H Q I h => by
  subst hv
  refine wpAny_Call_Name_kw (ld_blt I hgl hm hb (PyProof.Rows.callWith_builtin1 ?_ hst (by rfl)))
  rw [hst]
  show wpAny _ _ (spliced ((false, eval (.GeneratorExp elt [⟨tg, iter, [], 0⟩] scope gpos) X.env) :: backTo pos (starEach [] X.env))) _ _ s
  refine Calls.spliced_cons (gen_D hr hc TB hcode hZ hL S hN hi hs hu hg he I h fun s0 H0 fp a go gi n s5 QT QF hgen hgo hT hF Z => Calls.spliced_nil ?_)
  refine call_function_tree F.kind_any F.plain_any F.entry_any (F.args_any1 _) ?_
  unfold Builtin.«any»
  refine wpAny_bind (m := oneArg "any" _) (wpAny_pure (wpAny_bind (wpAny_pyIter_gen hgen (wpAny_pure ⟨plainId_quiet F.plain_any_loop _, ?_⟩))))
  exact any_run (I.ok.hd hc) (by have := hr.dp; show X.A.depth < _; omega) hgo (fun s1 H' D q => hT H' s1 D q) (fun s1 H' D q => hF H' s1 D q) n s5 Z⟩
end
end L2.LL

/-! # LLMisc -/
set_option Elab.async false
set_option linter.all false
set_option maxRecDepth 100000
set_option maxHeartbeats 2000000
namespace L2.LL
open PySem PySem.Spec PyProof.Rows

/-! ## truth of any value; isinstance of two types; list(d) -/
def dTruth (f : ED) : XD := fun σ S Q => f σ S fun d S1 => match d with
  | .bl b => Q b S1
  | .dat .none => Q false S1
  | .dat (.tup ts) => Q (!ts.isEmpty) S1
  | .ref n => ∃ ds, S1[n]? = some (.lst ds) ∧ Q (!ds.isEmpty) S1
  | _ => False
theorem paired_empty {α β : Type} {F : α → β → Prop} {l : List α} {r : List β} (h : Paired F l r) : l.isEmpty = r.isEmpty := by cases h <;> rfl
theorem RTs.empty {H : Hp} {l : List T} {r : List V} (h : RTs H l r) : l.isEmpty = r.isEmpty := by cases h <;> rfl
section
variable {g : Gp} {X : Cx} {a : Expr} {fa : ED} {x : Str} {p pos : Pos}
theorem dx_truth (ha : DE g X a fa) (he : ∀ whole, isTrue a X.env whole = (do let v ← whole; standAt a.pos; holding [v] (truthy v)) := by intro _; rfl) : DX g X a (dTruth fa) :=
  (pt_truth ha he).imp fun σv H Q ⟨m, σ, S, Q0, R, Rl, h, k⟩ => ⟨m, σ, S, _, R, Rl, h, ⟨fun d S1 m1 H1 v q L R1 rd => by
    cases d with
    | bl b => cases (show v = .bl b from rd); exact ⟨b, rfl, k _ _ _ _ q L R1⟩
    | raw u => exact q.elim
    | ref n =>
      obtain ⟨ds, h0, q⟩ := q
      obtain ⟨a, vs, rfl, hm, hp, rp⟩ := R1.lst h0 rd
      exact ⟨!vs.isEmpty, .inl ⟨vs, SqL.of hp, rfl⟩, k _ _ _ _ (by rw [← paired_empty rp]; exact q) L R1⟩
    | dat t =>
      cases t with
      | none => cases rd; exact ⟨false, rfl, k _ _ _ _ q L R1⟩
      | num i => exact q.elim
      | text y => exact q.elim
      | tup ts =>
        obtain ⟨a, vs, rfl, hp, rp⟩ := RD.asTup rd
        exact ⟨!vs.isEmpty, .inr (.inl ⟨vs, SqT.of hp, rfl⟩), k _ _ _ _ (by rw [← rp.empty]; exact q) L R1⟩⟩⟩
/-- isinstance(x, (T, U)) -/
def dIsi2 (n1 n2 : String) (fa : ED) : ED := fun σ S Q => fa σ S fun d S1 => ∃ t b1 b2, tyD d = some t ∧ kitB t n1 = some b1 ∧ kitB t n2 = some b2 ∧ Q (.bl (b1 || b2)) S1
theorem de_isi2 {y1 y2 : Str} {n1 n2 : String} {k : Nat} {p1 p2 p3 : Pos} (hg : Gl X "isinstance") (hm : X.mg "isinstance" = none) (hv : bootBuiltins "isinstance" = some (.builtin "isinstance")) (g1 : Gl X y1) (m1 : X.mg y1 = none) (v1 : bootBuiltins y1 = some (.type n1)) (g2 : Gl X y2) (m2 : X.mg y2 = none) (v2 : bootBuiltins y2 = some (.type n2))
    (ha : DE g X a fa) (w1 : y1 ≠ "__name__" := by decide) (z1 : (y1 == ("__debug__" : Str)) = false := by decide) (w2 : y2 ≠ "__name__" := by decide) (z2 : (y2 == ("__debug__" : Str)) = false := by decide)
    (he : starEach [a, .Tuple [.Name y1 p1, .Name y2 p2] k p3] X.env = (false, eval a X.env) :: starEach [.Tuple [.Name y1 p1, .Name y2 p2] k p3] X.env := by rfl) (he2 : starEach [.Tuple [.Name y1 p1, .Name y2 p2] k p3] X.env = (false, eval (.Tuple [.Name y1 p1, .Name y2 p2] k p3) X.env) :: starEach [] X.env := by rfl)
    (he3 : starEach [.Name y1 p1, .Name y2 p2] X.env = (false, eval (.Name y1 p1) X.env) :: starEach [.Name y2 p2] X.env := by rfl) (he4 : starEach [.Name y2 p2] X.env = (false, eval (.Name y2 p2) X.env) :: starEach [] X.env := by rfl)
    (hpl : (backTo pos (starEach [.Tuple [.Name y1 p1, .Name y2 p2] k p3] X.env)).any (·.1) = false := by rfl) :
    DE g X (.Call (.Name "isinstance" p) [a, .Tuple [.Name y1 p1, .Name y2 p2] k p3] [] pos) (dIsi2 n1 n2 fa) :=
  (pe_callB call_isiT hg hm hv (pa_cons ha (pa_cons (pe_tup (pa_cons (pe_bltn (v := .ty n1) g1 m1 v1 rfl w1 z1) (pa_cons (pe_bltn (v := .ty n2) g2 m2 v2 rfl w2 z2) pa_nil he4) he3)) pa_nil he2) he) (by decide) (by decide) he hpl).imp fun σv H Q ⟨m, σ, S, Q0, R, Rl, h, k⟩ =>
    ⟨m, σ, S, _, R, Rl, h, ⟨fun d S1 m1 H1 v ⟨t, b1, b2, e1, e2, e3, q⟩ L R1 rd => ⟨by show 2 ≤ sizeLine; decide, fun q' hq' => by
      have ty : TyX X.K (upd H1 q' (.tup [.ty n1, .ty n2])) v (.type t) := tyx_of (RD.mono (le_new (m := m1) hq') rd) e1
      refine ⟨v, q', [.ty n1, .ty n2], .type t, [.type n1, .type n2], b1 || b2, rfl, upd_same, .cons (.ty n1) (.cons (.ty n2) .nil), ty, ?_, k.run _ _ _ _ _ q (L.trans (le_new hq')) (R1.fresh hq') rfl⟩
      refine kitAny_cons (kit_ty e2) (fun hb => ?_) (fun hb => by rw [hb]; rfl)
      subst hb
      exact kitAny_cons (kit_ty e3) (fun hb => by subst hb; rfl) (fun hb => by rw [hb]; rfl)⟩⟩⟩
end
/-- list(d): the keys -/
def fListD : FD := fun ds S Q => match ds with
  | [.ref n] => ∃ kvs ep, S[n]? = some (.dct kvs ep) ∧ Q (.ref S.length) (S ++ [.lst (kvs.map fun p => .dat p.1)])
  | _ => False
theorem dkv_keys {m : List Addr} {H : Hp} {kvs : List (T × D)} {xs : List (T × V × V)} (h : Paired (DKV m H) kvs xs) : RDs m H (kvs.map fun p => .dat p.1) (xs.map fun x => x.2.1) := by
  induction h with
  | nil => exact .nil
  | cons a _ ih => exact .cons a.2.1 ih
theorem vals_at : ∀ {xs : List V} {us : List Value}, xs.length = us.length → (∀ (j : Nat) (x : V) (u : Value), xs[j]? = some x → us[j]? = some u → RelV x u) → Vals xs us := fun h f => vals_of_at h f
section
variable {g : Gp} {X : Cx}
theorem cr_listD (hc : X.calm = true) : CallR X (.type "list") (cD X.K X.w g fListD) := by
  intro pins s σ H xs us Q I r ⟨m, S, ds, Q0, R, rs, h, k⟩
  unfold fListD at h
  split at h
  · obtain ⟨kvs, ep, h0, h⟩ := h
    obtain ⟨v, rfl, rv⟩ := one_rd rs
    obtain ⟨u, rfl, ru⟩ := vals1 r
    obtain ⟨a, xs, rfl, hm, sy, hp, rp⟩ := R.dctH h0 rv
    cases ru
    obtain ⟨es, ⟨o, ho, hx, hdt⟩, pr⟩ := dphi_at I.hok hp
    have l1 : es.size = xs.length := psize pr
    have l2 : kvs.length = xs.length := Paired.length rp
    have hz : xs.length ≤ sizeLine := by
      obtain ⟨_, ok, _⟩ := R.obj _ _ _ hm h0
      rw [← l2]; exact ok.sz
    refine PySem.W.kdl_call (kdl_raw sy hx hdt) (I.ok.hd hc) ho (by omega) fun h' tk acc' c' kp e it => ?_
    have e1 : acc'.toList.length = es.size := by rw [Array.length_toList]; exact it.1
    have rv' : Vals (xs.map fun x => x.2.1) acc'.toList := by
      refine vals_of_at (by rw [List.length_map, e1]; omega) fun j x u h1 h2 => ?_
      rw [List.getElem?_map, Option.map_eq_some_iff] at h1
      obtain ⟨y, hy, rfl⟩ := h1
      obtain ⟨en, hen, rfl⟩ := it.2 j u (by rw [← Array.getElem?_toList]; exact h2)
      obtain ⟨hi, q1, _⟩ := dent_at pr hy
      rw [Array.getElem?_eq_getElem hi] at hen
      cases hen
      exact q1
    refine ⟨.ref s.heap.objs.size, _, I.laid (t' := tk) (o := .lst (xs.map fun x => x.2.1)) kp (Nat.le_refl _) ?_, rfl, k.lst R h (dkv_keys rp) (I.hok.fresh (Nat.le_refl _))⟩
    exact ⟨by rw [List.length_map]; exact hz, acc'.toList, c', rv', by rw [Array.toArray_toList]; exact e⟩
  · exact h.elim
end
end L2.LL

/-! # LLTx -/
set_option Elab.async false
set_option linter.all false
set_option maxRecDepth 100000
set_option maxHeartbeats 2000000
namespace L2.LL
open PySem PySem.Spec PyProof.Rows
def gscC (N : List Str) (sc scope : Scope) (own : List (Str × Nat)) : Bool := blkC N sc scope own && !scope.isCoroutine && (scope.names.all fun y => decide (y.2 ≠ .cell)) && decide (scope.names.lookup (".0" : Str) = some NameKind.local)
theorem gsc_by {N : List Str} {sc scope : Scope} {own : List (Str × Nat)} (h : gscC N sc scope own = true) : GSc N sc scope own := by
  unfold gscC at h
  simp only [Bool.and_eq_true, List.all_eq_true, decide_eq_true_eq, Bool.not_eq_true'] at h
  obtain ⟨⟨⟨h1, h2⟩, h3⟩, h4⟩ := h
  exact ⟨blkOk_by h1, h2, h3, h4⟩
theorem u64 {k : Nat} {A : Around} (r : Room k A) : A.units + 64 < cLine := r.units
theorem u65 {k : Nat} {A : Around} (r : Room k A) : A.units + 65 < cLine := by have := r.un; omega
theorem u10 {k : Nat} {A : Around} (r : Room k A) : A.units + 10 < cLine := by have := r.un; omega
theorem t_dd {m : List Addr} {H : Hp} : RDs m H [.dat (.num 8)] [.int 8] := .cons (.num 8) .nil
theorem dx_bool {g : Gp} {X : Cx} {e : Expr} {f : XD} (h : DW g X e f) : DX g X e f := L2.PW.pt h
/-! ## what the top of the text has written -/
def top (i : Nat) : Stmt := PySem.Challenge.pw_lostlines_k00_whole_law.main.body.getD i (.Pass ⟨0, 0, 0, 0⟩)
theorem bt_len : bootBuiltins "len" = some (.builtin "len") := by decide +kernel
theorem bt_isinstance : bootBuiltins "isinstance" = some (.builtin "isinstance") := by decide +kernel
theorem bt_max : bootBuiltins "max" = some (.builtin "max") := by decide +kernel
theorem bt_int : bootBuiltins "int" = some (.type "int") := by decide +kernel
theorem bt_tuple : bootBuiltins "tuple" = some (.type "tuple") := by decide +kernel
theorem bt_list : bootBuiltins "list" = some (.type "list") := by decide +kernel
theorem bt_range : bootBuiltins "range" = some (.type "range") := by decide +kernel
theorem bt_enumerate : bootBuiltins "enumerate" = some (.type "enumerate") := by decide +kernel
theorem bt_all : bootBuiltins "all" = some (.builtin "all") := by decide +kernel
theorem bt_any : bootBuiltins "any" = some (.builtin "any") := by decide +kernel
theorem bt_bool : bootBuiltins "bool" = some (.type "bool") := by decide +kernel
theorem bt_str : bootBuiltins "str" = some (.type "str") := by decide +kernel
abbrev N_is_number : List Str := ["value", "low", "high"]
abbrev P_is_number : List Str := ["value", "low", "high"]
abbrev s_is_number : Stmt := (top 14)
abbrev N_need_machine : List Str := ["value", "cells", "functions", "reads"]
abbrev P_need_machine : List Str := ["value"]
abbrev s_need_machine : Stmt := (top 15)
abbrev N_is_line : List Str := ["machine", "value", "cells", "functions", "cell", "function", "sources", "source"]
abbrev P_is_line : List Str := ["machine", "value"]
abbrev s_is_line : Stmt := (top 16)
abbrev N_need_program : List Str := ["machine", "value", "index", "line"]
abbrev P_need_program : List Str := ["machine", "value"]
abbrev s_need_program : Stmt := (top 17)
abbrev N_is_soft : List Str := ["line"]
abbrev P_is_soft : List Str := ["line"]
abbrev s_is_soft : Stmt := (top 18)
abbrev N_depth : List Str := ["term", "part"]
abbrev P_depth : List Str := ["term"]
abbrev s_depth : Stmt := (top 19)
abbrev N_is_term : List Str := ["machine", "value", "deep", "cells", "functions", "part"]
abbrev P_is_term : List Str := ["machine", "value", "deep"]
abbrev s_is_term : Stmt := (top 20)
abbrev N_first_terms : List Str := ["machine"]
abbrev P_first_terms : List Str := ["machine"]
abbrev s_first_terms : Stmt := (top 21)
abbrev N_done : List Str := ["held", "line", "cell", "function", "sources", "term", "source"]
abbrev P_done : List Str := ["held", "line"]
abbrev s_done : Stmt := (top 22)
abbrev N_need_many : List Str := ["value"]
abbrev P_need_many : List Str := ["value"]
abbrev s_need_many : Stmt := (top 26)
abbrev N_all_moments : List Str := ["machine", "program", "many", "found", "index", "line", "later", "held", "last", "losses"]
abbrev P_all_moments : List Str := ["machine", "program", "many"]
abbrev s_all_moments : Stmt := (top 27)
abbrev N_keep : List Str := ["later", "pair", "losses"]
abbrev P_keep : List Str := ["later", "pair", "losses"]
abbrev s_keep : Stmt := (top 28)
abbrev N_is_wish : List Str := ["machine", "value"]
abbrev P_is_wish : List Str := ["machine", "value"]
abbrev s_is_wish : Stmt := (top 29)
abbrev N_need_wishes : List Str := ["machine", "value", "index", "wish"]
abbrev P_need_wishes : List Str := ["machine", "value"]
abbrev s_need_wishes : Stmt := (top 30)
abbrev N_fulfilled : List Str := ["held", "wishes", "cell", "term"]
abbrev P_fulfilled : List Str := ["held", "wishes"]
abbrev s_fulfilled : Stmt := (top 31)
abbrev N_need_wished : List Str := ["machine", "program", "many", "wishes"]
abbrev P_need_wished : List Str := ["machine", "program", "many", "wishes"]
abbrev s_need_wished : Stmt := (top 32)
abbrev N_least_harm : List Str := ["machine", "program", "many", "wishes", "last", "bad", "held", "_", "losses"]
abbrev P_least_harm : List Str := ["machine", "program", "many", "wishes"]
abbrev s_least_harm : Stmt := (top 33)
abbrev N_is_proof : List Str := ["machine", "program", "many", "wishes"]
abbrev P_is_proof : List Str := ["machine", "program", "many", "wishes"]
abbrev s_is_proof : Stmt := (top 34)
abbrev N_repeated_ends : List Str := ["machine", "program", "many", "found", "line", "later", "held", "_"]
abbrev P_repeated_ends : List Str := ["machine", "program", "many"]
abbrev s_repeated_ends : Stmt := (top 35)
abbrev N_is_repeat_proof : List Str := ["machine", "program", "many", "wishes", "held"]
abbrev P_is_repeat_proof : List Str := ["machine", "program", "many", "wishes"]
abbrev s_is_repeat_proof : Stmt := (top 36)
abbrev N_parts_of : List Str := ["term", "found", "part"]
abbrev P_parts_of : List Str := ["term"]
abbrev s_parts_of : Stmt := (top 40)
abbrev N_all_parts : List Str := ["wishes", "found", "_", "term", "part"]
abbrev P_all_parts : List Str := ["wishes"]
abbrev s_all_parts : Stmt := (top 41)
abbrev N_all_lines : List Str := ["machine", "cells", "functions", "rows", "one", "other", "found", "cell", "function", "reads", "sources", "source"]
abbrev P_all_lines : List Str := ["machine"]
abbrev s_all_lines : Stmt := (top 42)
abbrev N_S_init : List Str := ["self", "machine", "wishes", "gentle", "cell", "term", "line"]
abbrev P_S_init : List Str := ["self", "machine", "wishes", "gentle"]
abbrev s_S_init : Stmt := (inClass (top 43) 0)
abbrev N_S_behind : List Str := ["self", "held", "line", "cell", "function", "sources", "source", "part"]
abbrev P_S_behind : List Str := ["self", "held", "line"]
abbrev s_S_behind : Stmt := (inClass (top 43) 1)
abbrev N_S_shortest : List Str := ["self", "found", "layer", "held", "cell", "part", "later", "line", "after"]
abbrev P_S_shortest : List Str := ["self"]
abbrev s_S_shortest : Stmt := (inClass (top 43) 2)
abbrev N_best : List Str := ["machine", "wishes", "gentle"]
abbrev P_best : List Str := ["machine", "wishes", "gentle"]
abbrev s_best : Stmt := (top 44)
abbrev N_need_both : List Str := ["machine", "wishes"]
abbrev P_need_both : List Str := ["machine", "wishes"]
abbrev s_need_both : Stmt := (top 45)
abbrev N_shortest_gentle : List Str := ["machine", "wishes"]
abbrev P_shortest_gentle : List Str := ["machine", "wishes"]
abbrev s_shortest_gentle : Stmt := (top 46)
abbrev N_can_be_proof : List Str := ["machine", "wishes"]
abbrev P_can_be_proof : List Str := ["machine", "wishes"]
abbrev s_can_be_proof : Stmt := (top 47)
abbrev N_written : List Str := ["program", "times", "found", "line", "_"]
abbrev P_written : List Str := ["program", "times"]
abbrev s_written : Stmt := (top 48)
abbrev N_proofed : List Str := ["machine", "program", "many"]
abbrev P_proofed : List Str := ["machine", "program", "many"]
abbrev s_proofed : Stmt := (top 49)
abbrev N_proof_program : List Str := ["machine", "many", "wishes", "found"]
abbrev P_proof_program : List Str := ["machine", "many", "wishes"]
abbrev s_proof_program : Stmt := (top 50)
abbrev N_Ltaken : List Str := ["_law_row", "_law_many", "_law_found", "_law_cell"]
abbrev P_Ltaken : List Str := ["_law_row", "_law_many"]
abbrev s_Ltaken : Stmt := (top 52)
abbrev N_Lmachine : List Str := ["_law_row", "_law_cells", "_law_many", "_law_function"]
abbrev P_Lmachine : List Str := ["_law_row"]
abbrev s_Lmachine : Stmt := (top 53)
abbrev N_Ldid : List Str := ["_law_held", "_law_line", "_law_cell", "_law_function", "_law_sources", "_law_term", "_law_one"]
abbrev P_Ldid : List Str := ["_law_held", "_law_line"]
abbrev s_Ldid : Stmt := (top 54)
abbrev N_Ldeep : List Str := ["_law_term", "_law_part"]
abbrev P_Ldeep : List Str := ["_law_term"]
abbrev s_Ldeep : Stmt := (top 55)
abbrev N_Ltame : List Str := ["_law_machine_here", "_law_program_here", "_law_held", "_law_found", "_law_line", "_law_after", "_law_term"]
abbrev P_Ltame : List Str := ["_law_machine_here", "_law_program_here"]
abbrev s_Ltame : Stmt := (top 56)
abbrev N_Levery_line : List Str := ["_law_machine_here", "_law_cells", "_law_functions", "_law_found", "_law_cell", "_law_function", "_law_reads", "_law_one", "_law_other"]
abbrev P_Levery_line : List Str := ["_law_machine_here"]
abbrev s_Levery_line : Stmt := (top 57)
abbrev N_Lpick : List Str := ["_law_row", "_law_things"]
abbrev P_Lpick : List Str := ["_law_row", "_law_things"]
abbrev s_Lpick : Stmt := (top 58)
abbrev N_Lprogram : List Str := ["_law_row", "_law_machine_here", "_law_many", "_law_lines", "_law_turn"]
abbrev P_Lprogram : List Str := ["_law_row", "_law_machine_here", "_law_many"]
abbrev s_Lprogram : Stmt := (top 59)
abbrev N_Lran : List Str := ["_law_machine_here", "_law_program_here", "_law_losses", "_law_held", "_law_at", "_law_line", "_law_term"]
abbrev P_Lran : List Str := ["_law_machine_here", "_law_program_here", "_law_losses"]
abbrev s_Lran : Stmt := (top 60)
abbrev N_Lwishes : List Str := ["_law_row", "_law_machine_here", "_law_program_here", "_law_held", "_law_cell", "_law_some"]
abbrev P_Lwishes : List Str := ["_law_row", "_law_machine_here"]
abbrev s_Lwishes : Stmt := (top 61)
abbrev N_Lparts : List Str := ["_law_wishes_here", "_law_found", "_law_last", "_law_cell", "_law_term"]
abbrev P_Lparts : List Str := ["_law_wishes_here"]
abbrev s_Lparts : Stmt := (top 62)
abbrev N_Lfewest : List Str := ["_law_machine_here", "_law_wishes_here", "_law_gentle", "_law_parts_here", "_law_first", "_law_cell", "_law_seen", "_law_last", "_law_many", "_law_lines", "_law_line", "_law_longer", "_law_held", "_law_term", "_law_one", "_law_after"]
abbrev P_Lfewest : List Str := ["_law_machine_here", "_law_wishes_here", "_law_gentle"]
abbrev s_Lfewest : Stmt := (top 63)
abbrev N_Lalike : List Str := ["_law_found", "_law_due", "_law_k"]
abbrev P_Lalike : List Str := ["_law_found", "_law_due"]
abbrev s_Lalike : Stmt := (top 64)
abbrev N_Ltold : List Str := ["_law_work", "_law_found", "e"]
abbrev P_Ltold : List Str := ["_law_work"]
abbrev s_Ltold : Stmt := (top 65)
abbrev N_Ltimes : List Str := ["_law_program_here", "_law_many", "_law_found", "_law_line"]
abbrev P_Ltimes : List Str := ["_law_program_here", "_law_many"]
abbrev s_Ltimes : Stmt := (top 66)
abbrev N_Levery_loss : List Str := ["_law_size", "_law_many", "_law_found", "_law_at", "_law_more", "_law_losses"]
abbrev P_Levery_loss : List Str := ["_law_size", "_law_many"]
abbrev s_Levery_loss : Stmt := (top 67)
abbrev N_Lshown : List Str := ["_law_machine_here", "_law_program_here", "_law_wishes_here", "_law_every", "_law_found", "_law_line", "_law_ahead", "_law_held", "_law_last", "_law_later", "_law_now", "_law_wrong", "_law_cell", "_law_term"]
abbrev P_Lshown : List Str := ["_law_machine_here", "_law_program_here", "_law_wishes_here"]
abbrev s_Lshown : Stmt := (top 68)
abbrev N_law : List Str := ["_law_script", "_law_row", "_law_machine_here", "_law_wishes_here", "_law_fewest_here", "_law_many", "_law_due", "_law_found", "_law_gentle", "_law_losses", "_law_held", "_law_cell", "_law_term", "_law_program_here", "_law_shown_here", "_law_line"]
abbrev P_law : List Str := ["_law_script"]
abbrev s_law : Stmt := (top 69)
structure Tx (K : PySem.W.Frag) (mg : Str → Option Value) (g : Gp) where
  n_len : mg "len" = none
  n_isinstance : mg "isinstance" = none
  n_max : mg "max" = none
  n_int : mg "int" = none
  n_tuple : mg "tuple" = none
  n_list : mg "list" = none
  n_range : mg "range" = none
  n_enumerate : mg "enumerate" = none
  n_all : mg "all" = none
  n_any : mg "any" = none
  n_bool : mg "bool" = none
  n_str : mg "str" = none
  k_MOST_CELLS : Tok
  c_MOST_CELLS : mg "MOST_CELLS" = some (.int 4 k_MOST_CELLS)
  k_MOST_FUNCTIONS : Tok
  c_MOST_FUNCTIONS : mg "MOST_FUNCTIONS" = some (.int 3 k_MOST_FUNCTIONS)
  k_MOST_READ : Tok
  c_MOST_READ : mg "MOST_READ" = some (.int 2 k_MOST_READ)
  k_MOST_LINES : Tok
  c_MOST_LINES : mg "MOST_LINES" = some (.int 60 k_MOST_LINES)
  k_MOST_DEEP : Tok
  c_MOST_DEEP : mg "MOST_DEEP" = some (.int 8 k_MOST_DEEP)
  k_MOST_LOST : Tok
  c_MOST_LOST : mg "MOST_LOST" = some (.int 3 k_MOST_LOST)
  k_MOST_PAIRS : Tok
  c_MOST_PAIRS : mg "MOST_PAIRS" = some (.int 3000 k_MOST_PAIRS)
  k_MOST_PARTS : Tok
  c_MOST_PARTS : mg "MOST_PARTS" = some (.int 16 k_MOST_PARTS)
  k_NOTHING : Tok
  c_NOTHING : mg "NOTHING" = some (.int (-1) k_NOTHING)
  m_Search : mg "Search" = some (.ref g.cS)
  clS : Cls K g.cS
  na_goal : NoAttr K g.cS "goal"
  na_moves : NoAttr K g.cS "moves"
  na_parts : NoAttr K g.cS "parts"
  na_start : NoAttr K g.cS "start"
  na_terms : NoAttr K g.cS "terms"
  f_is_number : Addr
  fd_is_number : FuncData
  cd_is_number : Value
  F_is_number : FunC K "is_number" "is_number" s_is_number f_is_number fd_is_number cd_is_number
  m_is_number : mg "is_number" = some (.ref f_is_number)
  b_is_number : Binds K fd_is_number P_is_number []
  f_need_machine : Addr
  fd_need_machine : FuncData
  cc_need_machine : Addr
  pt_need_machine : Addr
  z_need_machine : pt_need_machine ∈ g.Z
  l_need_machine : pt_need_machine ∉ g.L
  F_need_machine : FunC K "need_machine" "need_machine" s_need_machine f_need_machine fd_need_machine (.ref cc_need_machine)
  m_need_machine : mg "need_machine" = some (.ref f_need_machine)
  b_need_machine : Binds K fd_need_machine P_need_machine []
  f_is_line : Addr
  fd_is_line : FuncData
  cc_is_line : Addr
  pt_is_line : Addr
  z_is_line : pt_is_line ∈ g.Z
  l_is_line : pt_is_line ∉ g.L
  F_is_line : FunC K "is_line" "is_line" s_is_line f_is_line fd_is_line (.ref cc_is_line)
  m_is_line : mg "is_line" = some (.ref f_is_line)
  b_is_line : Binds K fd_is_line P_is_line []
  f_need_program : Addr
  fd_need_program : FuncData
  cd_need_program : Value
  F_need_program : FunC K "need_program" "need_program" s_need_program f_need_program fd_need_program cd_need_program
  m_need_program : mg "need_program" = some (.ref f_need_program)
  b_need_program : Binds K fd_need_program P_need_program []
  f_is_soft : Addr
  fd_is_soft : FuncData
  cd_is_soft : Value
  F_is_soft : FunC K "is_soft" "is_soft" s_is_soft f_is_soft fd_is_soft cd_is_soft
  m_is_soft : mg "is_soft" = some (.ref f_is_soft)
  b_is_soft : Binds K fd_is_soft P_is_soft []
  f_depth : Addr
  fd_depth : FuncData
  cd_depth : Value
  F_depth : FunC K "depth" "depth" s_depth f_depth fd_depth cd_depth
  m_depth : mg "depth" = some (.ref f_depth)
  b_depth : Binds K fd_depth P_depth []
  f_is_term : Addr
  fd_is_term : FuncData
  cc_is_term : Addr
  pt_is_term : Addr
  z_is_term : pt_is_term ∈ g.Z
  l_is_term : pt_is_term ∉ g.L
  F_is_term : FunC K "is_term" "is_term" s_is_term f_is_term fd_is_term (.ref cc_is_term)
  m_is_term : mg "is_term" = some (.ref f_is_term)
  b_is_term : Binds K fd_is_term P_is_term []
  d8 : Value
  bd_is_term : Binds K fd_is_term P_is_term [d8]
  dv_is_term : Vals [.int 8] [d8]
  f_first_terms : Addr
  fd_first_terms : FuncData
  cd_first_terms : Value
  F_first_terms : FunC K "first_terms" "first_terms" s_first_terms f_first_terms fd_first_terms cd_first_terms
  m_first_terms : mg "first_terms" = some (.ref f_first_terms)
  b_first_terms : Binds K fd_first_terms P_first_terms []
  f_done : Addr
  fd_done : FuncData
  cd_done : Value
  F_done : FunC K "done" "done" s_done f_done fd_done cd_done
  m_done : mg "done" = some (.ref f_done)
  b_done : Binds K fd_done P_done []
  f_need_many : Addr
  fd_need_many : FuncData
  cd_need_many : Value
  F_need_many : FunC K "need_many" "need_many" s_need_many f_need_many fd_need_many cd_need_many
  m_need_many : mg "need_many" = some (.ref f_need_many)
  b_need_many : Binds K fd_need_many P_need_many []
  f_all_moments : Addr
  fd_all_moments : FuncData
  cd_all_moments : Value
  F_all_moments : FunC K "all_moments" "all_moments" s_all_moments f_all_moments fd_all_moments cd_all_moments
  m_all_moments : mg "all_moments" = some (.ref f_all_moments)
  b_all_moments : Binds K fd_all_moments P_all_moments []
  f_keep : Addr
  fd_keep : FuncData
  cd_keep : Value
  F_keep : FunC K "keep" "keep" s_keep f_keep fd_keep cd_keep
  m_keep : mg "keep" = some (.ref f_keep)
  b_keep : Binds K fd_keep P_keep []
  f_is_wish : Addr
  fd_is_wish : FuncData
  cd_is_wish : Value
  F_is_wish : FunC K "is_wish" "is_wish" s_is_wish f_is_wish fd_is_wish cd_is_wish
  m_is_wish : mg "is_wish" = some (.ref f_is_wish)
  b_is_wish : Binds K fd_is_wish P_is_wish []
  f_need_wishes : Addr
  fd_need_wishes : FuncData
  cd_need_wishes : Value
  F_need_wishes : FunC K "need_wishes" "need_wishes" s_need_wishes f_need_wishes fd_need_wishes cd_need_wishes
  m_need_wishes : mg "need_wishes" = some (.ref f_need_wishes)
  b_need_wishes : Binds K fd_need_wishes P_need_wishes []
  f_fulfilled : Addr
  fd_fulfilled : FuncData
  cc_fulfilled : Addr
  pt_fulfilled : Addr
  z_fulfilled : pt_fulfilled ∈ g.Z
  l_fulfilled : pt_fulfilled ∉ g.L
  F_fulfilled : FunC K "fulfilled" "fulfilled" s_fulfilled f_fulfilled fd_fulfilled (.ref cc_fulfilled)
  m_fulfilled : mg "fulfilled" = some (.ref f_fulfilled)
  b_fulfilled : Binds K fd_fulfilled P_fulfilled []
  f_need_wished : Addr
  fd_need_wished : FuncData
  cd_need_wished : Value
  F_need_wished : FunC K "need_wished" "need_wished" s_need_wished f_need_wished fd_need_wished cd_need_wished
  m_need_wished : mg "need_wished" = some (.ref f_need_wished)
  b_need_wished : Binds K fd_need_wished P_need_wished []
  f_least_harm : Addr
  fd_least_harm : FuncData
  cd_least_harm : Value
  F_least_harm : FunC K "least_harm" "least_harm" s_least_harm f_least_harm fd_least_harm cd_least_harm
  m_least_harm : mg "least_harm" = some (.ref f_least_harm)
  b_least_harm : Binds K fd_least_harm P_least_harm []
  f_is_proof : Addr
  fd_is_proof : FuncData
  cd_is_proof : Value
  F_is_proof : FunC K "is_proof" "is_proof" s_is_proof f_is_proof fd_is_proof cd_is_proof
  m_is_proof : mg "is_proof" = some (.ref f_is_proof)
  b_is_proof : Binds K fd_is_proof P_is_proof []
  f_repeated_ends : Addr
  fd_repeated_ends : FuncData
  cd_repeated_ends : Value
  F_repeated_ends : FunC K "repeated_ends" "repeated_ends" s_repeated_ends f_repeated_ends fd_repeated_ends cd_repeated_ends
  m_repeated_ends : mg "repeated_ends" = some (.ref f_repeated_ends)
  b_repeated_ends : Binds K fd_repeated_ends P_repeated_ends []
  f_is_repeat_proof : Addr
  fd_is_repeat_proof : FuncData
  cc_is_repeat_proof : Addr
  pt_is_repeat_proof : Addr
  z_is_repeat_proof : pt_is_repeat_proof ∈ g.Z
  l_is_repeat_proof : pt_is_repeat_proof ∉ g.L
  F_is_repeat_proof : FunC K "is_repeat_proof" "is_repeat_proof" s_is_repeat_proof f_is_repeat_proof fd_is_repeat_proof (.ref cc_is_repeat_proof)
  m_is_repeat_proof : mg "is_repeat_proof" = some (.ref f_is_repeat_proof)
  b_is_repeat_proof : Binds K fd_is_repeat_proof P_is_repeat_proof []
  f_parts_of : Addr
  fd_parts_of : FuncData
  cd_parts_of : Value
  F_parts_of : FunC K "parts_of" "parts_of" s_parts_of f_parts_of fd_parts_of cd_parts_of
  m_parts_of : mg "parts_of" = some (.ref f_parts_of)
  b_parts_of : Binds K fd_parts_of P_parts_of []
  f_all_parts : Addr
  fd_all_parts : FuncData
  cd_all_parts : Value
  F_all_parts : FunC K "all_parts" "all_parts" s_all_parts f_all_parts fd_all_parts cd_all_parts
  m_all_parts : mg "all_parts" = some (.ref f_all_parts)
  b_all_parts : Binds K fd_all_parts P_all_parts []
  f_all_lines : Addr
  fd_all_lines : FuncData
  cd_all_lines : Value
  F_all_lines : FunC K "all_lines" "all_lines" s_all_lines f_all_lines fd_all_lines cd_all_lines
  m_all_lines : mg "all_lines" = some (.ref f_all_lines)
  b_all_lines : Binds K fd_all_lines P_all_lines []
  f_S_init : Addr
  fd_S_init : FuncData
  cd_S_init : Value
  F_S_init : FunC K "__init__" "Search.__init__" s_S_init f_S_init fd_S_init cd_S_init
  mkS : Mk K g.cS f_S_init
  b_S_init : Binds K fd_S_init P_S_init []
  f_S_behind : Addr
  fd_S_behind : FuncData
  cc_S_behind : Addr
  pt_S_behind : Addr
  z_S_behind : pt_S_behind ∈ g.Z
  l_S_behind : pt_S_behind ∉ g.L
  F_S_behind : FunC K "behind" "Search.behind" s_S_behind f_S_behind fd_S_behind (.ref cc_S_behind)
  me_behind : Meth K g.cS "behind" f_S_behind
  b_S_behind : Binds K fd_S_behind P_S_behind []
  f_S_shortest : Addr
  fd_S_shortest : FuncData
  cc_S_shortest : Addr
  pt_S_shortest : Addr
  z_S_shortest : pt_S_shortest ∈ g.Z
  l_S_shortest : pt_S_shortest ∉ g.L
  F_S_shortest : FunC K "shortest" "Search.shortest" s_S_shortest f_S_shortest fd_S_shortest (.ref cc_S_shortest)
  me_shortest : Meth K g.cS "shortest" f_S_shortest
  b_S_shortest : Binds K fd_S_shortest P_S_shortest []
  f_best : Addr
  fd_best : FuncData
  cd_best : Value
  F_best : FunC K "best" "best" s_best f_best fd_best cd_best
  m_best : mg "best" = some (.ref f_best)
  b_best : Binds K fd_best P_best []
  f_need_both : Addr
  fd_need_both : FuncData
  cd_need_both : Value
  F_need_both : FunC K "need_both" "need_both" s_need_both f_need_both fd_need_both cd_need_both
  m_need_both : mg "need_both" = some (.ref f_need_both)
  b_need_both : Binds K fd_need_both P_need_both []
  f_shortest_gentle : Addr
  fd_shortest_gentle : FuncData
  cd_shortest_gentle : Value
  F_shortest_gentle : FunC K "shortest_gentle" "shortest_gentle" s_shortest_gentle f_shortest_gentle fd_shortest_gentle cd_shortest_gentle
  m_shortest_gentle : mg "shortest_gentle" = some (.ref f_shortest_gentle)
  b_shortest_gentle : Binds K fd_shortest_gentle P_shortest_gentle []
  f_can_be_proof : Addr
  fd_can_be_proof : FuncData
  cd_can_be_proof : Value
  F_can_be_proof : FunC K "can_be_proof" "can_be_proof" s_can_be_proof f_can_be_proof fd_can_be_proof cd_can_be_proof
  m_can_be_proof : mg "can_be_proof" = some (.ref f_can_be_proof)
  b_can_be_proof : Binds K fd_can_be_proof P_can_be_proof []
  f_written : Addr
  fd_written : FuncData
  cd_written : Value
  F_written : FunC K "written" "written" s_written f_written fd_written cd_written
  m_written : mg "written" = some (.ref f_written)
  b_written : Binds K fd_written P_written []
  f_proofed : Addr
  fd_proofed : FuncData
  cd_proofed : Value
  F_proofed : FunC K "proofed" "proofed" s_proofed f_proofed fd_proofed cd_proofed
  m_proofed : mg "proofed" = some (.ref f_proofed)
  b_proofed : Binds K fd_proofed P_proofed []
  f_proof_program : Addr
  fd_proof_program : FuncData
  cd_proof_program : Value
  F_proof_program : FunC K "proof_program" "proof_program" s_proof_program f_proof_program fd_proof_program cd_proof_program
  m_proof_program : mg "proof_program" = some (.ref f_proof_program)
  b_proof_program : Binds K fd_proof_program P_proof_program []
  f_Ltaken : Addr
  fd_Ltaken : FuncData
  cd_Ltaken : Value
  F_Ltaken : FunC K "_law_taken" "_law_taken" s_Ltaken f_Ltaken fd_Ltaken cd_Ltaken
  m_Ltaken : mg "_law_taken" = some (.ref f_Ltaken)
  b_Ltaken : Binds K fd_Ltaken P_Ltaken []
  f_Lmachine : Addr
  fd_Lmachine : FuncData
  cd_Lmachine : Value
  F_Lmachine : FunC K "_law_machine" "_law_machine" s_Lmachine f_Lmachine fd_Lmachine cd_Lmachine
  m_Lmachine : mg "_law_machine" = some (.ref f_Lmachine)
  b_Lmachine : Binds K fd_Lmachine P_Lmachine []
  f_Ldid : Addr
  fd_Ldid : FuncData
  cd_Ldid : Value
  F_Ldid : FunC K "_law_did" "_law_did" s_Ldid f_Ldid fd_Ldid cd_Ldid
  m_Ldid : mg "_law_did" = some (.ref f_Ldid)
  b_Ldid : Binds K fd_Ldid P_Ldid []
  f_Ldeep : Addr
  fd_Ldeep : FuncData
  cd_Ldeep : Value
  F_Ldeep : FunC K "_law_deep" "_law_deep" s_Ldeep f_Ldeep fd_Ldeep cd_Ldeep
  m_Ldeep : mg "_law_deep" = some (.ref f_Ldeep)
  b_Ldeep : Binds K fd_Ldeep P_Ldeep []
  f_Ltame : Addr
  fd_Ltame : FuncData
  cd_Ltame : Value
  F_Ltame : FunC K "_law_tame" "_law_tame" s_Ltame f_Ltame fd_Ltame cd_Ltame
  m_Ltame : mg "_law_tame" = some (.ref f_Ltame)
  b_Ltame : Binds K fd_Ltame P_Ltame []
  f_Levery_line : Addr
  fd_Levery_line : FuncData
  cd_Levery_line : Value
  F_Levery_line : FunC K "_law_every_line" "_law_every_line" s_Levery_line f_Levery_line fd_Levery_line cd_Levery_line
  m_Levery_line : mg "_law_every_line" = some (.ref f_Levery_line)
  b_Levery_line : Binds K fd_Levery_line P_Levery_line []
  f_Lpick : Addr
  fd_Lpick : FuncData
  cd_Lpick : Value
  F_Lpick : FunC K "_law_pick" "_law_pick" s_Lpick f_Lpick fd_Lpick cd_Lpick
  m_Lpick : mg "_law_pick" = some (.ref f_Lpick)
  b_Lpick : Binds K fd_Lpick P_Lpick []
  f_Lprogram : Addr
  fd_Lprogram : FuncData
  cd_Lprogram : Value
  F_Lprogram : FunC K "_law_program" "_law_program" s_Lprogram f_Lprogram fd_Lprogram cd_Lprogram
  m_Lprogram : mg "_law_program" = some (.ref f_Lprogram)
  b_Lprogram : Binds K fd_Lprogram P_Lprogram []
  f_Lran : Addr
  fd_Lran : FuncData
  cd_Lran : Value
  F_Lran : FunC K "_law_ran" "_law_ran" s_Lran f_Lran fd_Lran cd_Lran
  m_Lran : mg "_law_ran" = some (.ref f_Lran)
  b_Lran : Binds K fd_Lran P_Lran []
  f_Lwishes : Addr
  fd_Lwishes : FuncData
  cd_Lwishes : Value
  F_Lwishes : FunC K "_law_wishes" "_law_wishes" s_Lwishes f_Lwishes fd_Lwishes cd_Lwishes
  m_Lwishes : mg "_law_wishes" = some (.ref f_Lwishes)
  b_Lwishes : Binds K fd_Lwishes P_Lwishes []
  f_Lparts : Addr
  fd_Lparts : FuncData
  cd_Lparts : Value
  F_Lparts : FunC K "_law_parts" "_law_parts" s_Lparts f_Lparts fd_Lparts cd_Lparts
  m_Lparts : mg "_law_parts" = some (.ref f_Lparts)
  b_Lparts : Binds K fd_Lparts P_Lparts []
  f_Lfewest : Addr
  fd_Lfewest : FuncData
  cd_Lfewest : Value
  F_Lfewest : FunC K "_law_fewest" "_law_fewest" s_Lfewest f_Lfewest fd_Lfewest cd_Lfewest
  m_Lfewest : mg "_law_fewest" = some (.ref f_Lfewest)
  b_Lfewest : Binds K fd_Lfewest P_Lfewest []
  f_Lalike : Addr
  fd_Lalike : FuncData
  cd_Lalike : Value
  F_Lalike : FunC K "_law_alike" "_law_alike" s_Lalike f_Lalike fd_Lalike cd_Lalike
  m_Lalike : mg "_law_alike" = some (.ref f_Lalike)
  b_Lalike : Binds K fd_Lalike P_Lalike []
  f_Ltold : Addr
  fd_Ltold : FuncData
  cd_Ltold : Value
  F_Ltold : FunC K "_law_told" "_law_told" s_Ltold f_Ltold fd_Ltold cd_Ltold
  m_Ltold : mg "_law_told" = some (.ref f_Ltold)
  b_Ltold : Binds K fd_Ltold P_Ltold []
  f_Ltimes : Addr
  fd_Ltimes : FuncData
  cd_Ltimes : Value
  F_Ltimes : FunC K "_law_times" "_law_times" s_Ltimes f_Ltimes fd_Ltimes cd_Ltimes
  m_Ltimes : mg "_law_times" = some (.ref f_Ltimes)
  b_Ltimes : Binds K fd_Ltimes P_Ltimes []
  f_Levery_loss : Addr
  fd_Levery_loss : FuncData
  cd_Levery_loss : Value
  F_Levery_loss : FunC K "_law_every_loss" "_law_every_loss" s_Levery_loss f_Levery_loss fd_Levery_loss cd_Levery_loss
  m_Levery_loss : mg "_law_every_loss" = some (.ref f_Levery_loss)
  b_Levery_loss : Binds K fd_Levery_loss P_Levery_loss []
  f_Lshown : Addr
  fd_Lshown : FuncData
  cd_Lshown : Value
  F_Lshown : FunC K "_law_shown" "_law_shown" s_Lshown f_Lshown fd_Lshown cd_Lshown
  m_Lshown : mg "_law_shown" = some (.ref f_Lshown)
  b_Lshown : Binds K fd_Lshown P_Lshown []
  f_law : Addr
  fd_law : FuncData
  cc_law : Addr
  pt_law : Addr
  F_law : FunC K "law" "law" s_law f_law fd_law (.ref cc_law)
  m_law : mg "law" = some (.ref f_law)
  b_law : Binds K fd_law P_law []
structure TxB {K : PySem.W.Frag} {g : Gp} (base : Heap) (mg : Str → Option Value) (t : Tx K mg g) : Prop where
  tb_need_machine : GxR.TabB base mg t.cc_need_machine t.pt_need_machine
  tb_is_line : GxR.TabB base mg t.cc_is_line t.pt_is_line
  tb_is_term : GxR.TabB base mg t.cc_is_term t.pt_is_term
  tb_fulfilled : GxR.TabB base mg t.cc_fulfilled t.pt_fulfilled
  tb_is_repeat_proof : GxR.TabB base mg t.cc_is_repeat_proof t.pt_is_repeat_proof
  tb_S_behind : GxR.TabB base mg t.cc_S_behind t.pt_S_behind
  tb_S_shortest : GxR.TabB base mg t.cc_S_shortest t.pt_S_shortest
  tb_law : GxR.TabB base mg t.cc_law t.pt_law
section
variable {K : PySem.W.Frag} {mg : Str → Option Value} {g : Gp}
theorem Tx.k_is_number (t : Tx K mg g) : PySem.W.keepIn K (.ref t.f_is_number) = true := t.F_is_number.kp
theorem Tx.k_need_machine (t : Tx K mg g) : PySem.W.keepIn K (.ref t.f_need_machine) = true := t.F_need_machine.kp
theorem Tx.k_is_line (t : Tx K mg g) : PySem.W.keepIn K (.ref t.f_is_line) = true := t.F_is_line.kp
theorem Tx.k_need_program (t : Tx K mg g) : PySem.W.keepIn K (.ref t.f_need_program) = true := t.F_need_program.kp
theorem Tx.k_is_soft (t : Tx K mg g) : PySem.W.keepIn K (.ref t.f_is_soft) = true := t.F_is_soft.kp
theorem Tx.k_depth (t : Tx K mg g) : PySem.W.keepIn K (.ref t.f_depth) = true := t.F_depth.kp
theorem Tx.k_is_term (t : Tx K mg g) : PySem.W.keepIn K (.ref t.f_is_term) = true := t.F_is_term.kp
theorem Tx.k_first_terms (t : Tx K mg g) : PySem.W.keepIn K (.ref t.f_first_terms) = true := t.F_first_terms.kp
theorem Tx.k_done (t : Tx K mg g) : PySem.W.keepIn K (.ref t.f_done) = true := t.F_done.kp
theorem Tx.k_need_many (t : Tx K mg g) : PySem.W.keepIn K (.ref t.f_need_many) = true := t.F_need_many.kp
theorem Tx.k_all_moments (t : Tx K mg g) : PySem.W.keepIn K (.ref t.f_all_moments) = true := t.F_all_moments.kp
theorem Tx.k_keep (t : Tx K mg g) : PySem.W.keepIn K (.ref t.f_keep) = true := t.F_keep.kp
theorem Tx.k_is_wish (t : Tx K mg g) : PySem.W.keepIn K (.ref t.f_is_wish) = true := t.F_is_wish.kp
theorem Tx.k_need_wishes (t : Tx K mg g) : PySem.W.keepIn K (.ref t.f_need_wishes) = true := t.F_need_wishes.kp
theorem Tx.k_fulfilled (t : Tx K mg g) : PySem.W.keepIn K (.ref t.f_fulfilled) = true := t.F_fulfilled.kp
theorem Tx.k_need_wished (t : Tx K mg g) : PySem.W.keepIn K (.ref t.f_need_wished) = true := t.F_need_wished.kp
theorem Tx.k_least_harm (t : Tx K mg g) : PySem.W.keepIn K (.ref t.f_least_harm) = true := t.F_least_harm.kp
theorem Tx.k_is_proof (t : Tx K mg g) : PySem.W.keepIn K (.ref t.f_is_proof) = true := t.F_is_proof.kp
theorem Tx.k_repeated_ends (t : Tx K mg g) : PySem.W.keepIn K (.ref t.f_repeated_ends) = true := t.F_repeated_ends.kp
theorem Tx.k_is_repeat_proof (t : Tx K mg g) : PySem.W.keepIn K (.ref t.f_is_repeat_proof) = true := t.F_is_repeat_proof.kp
theorem Tx.k_parts_of (t : Tx K mg g) : PySem.W.keepIn K (.ref t.f_parts_of) = true := t.F_parts_of.kp
theorem Tx.k_all_parts (t : Tx K mg g) : PySem.W.keepIn K (.ref t.f_all_parts) = true := t.F_all_parts.kp
theorem Tx.k_all_lines (t : Tx K mg g) : PySem.W.keepIn K (.ref t.f_all_lines) = true := t.F_all_lines.kp
theorem Tx.k_best (t : Tx K mg g) : PySem.W.keepIn K (.ref t.f_best) = true := t.F_best.kp
theorem Tx.k_need_both (t : Tx K mg g) : PySem.W.keepIn K (.ref t.f_need_both) = true := t.F_need_both.kp
theorem Tx.k_shortest_gentle (t : Tx K mg g) : PySem.W.keepIn K (.ref t.f_shortest_gentle) = true := t.F_shortest_gentle.kp
theorem Tx.k_can_be_proof (t : Tx K mg g) : PySem.W.keepIn K (.ref t.f_can_be_proof) = true := t.F_can_be_proof.kp
theorem Tx.k_written (t : Tx K mg g) : PySem.W.keepIn K (.ref t.f_written) = true := t.F_written.kp
theorem Tx.k_proofed (t : Tx K mg g) : PySem.W.keepIn K (.ref t.f_proofed) = true := t.F_proofed.kp
theorem Tx.k_proof_program (t : Tx K mg g) : PySem.W.keepIn K (.ref t.f_proof_program) = true := t.F_proof_program.kp
theorem Tx.k_Ltaken (t : Tx K mg g) : PySem.W.keepIn K (.ref t.f_Ltaken) = true := t.F_Ltaken.kp
theorem Tx.k_Lmachine (t : Tx K mg g) : PySem.W.keepIn K (.ref t.f_Lmachine) = true := t.F_Lmachine.kp
theorem Tx.k_Ldid (t : Tx K mg g) : PySem.W.keepIn K (.ref t.f_Ldid) = true := t.F_Ldid.kp
theorem Tx.k_Ldeep (t : Tx K mg g) : PySem.W.keepIn K (.ref t.f_Ldeep) = true := t.F_Ldeep.kp
theorem Tx.k_Ltame (t : Tx K mg g) : PySem.W.keepIn K (.ref t.f_Ltame) = true := t.F_Ltame.kp
theorem Tx.k_Levery_line (t : Tx K mg g) : PySem.W.keepIn K (.ref t.f_Levery_line) = true := t.F_Levery_line.kp
theorem Tx.k_Lpick (t : Tx K mg g) : PySem.W.keepIn K (.ref t.f_Lpick) = true := t.F_Lpick.kp
theorem Tx.k_Lprogram (t : Tx K mg g) : PySem.W.keepIn K (.ref t.f_Lprogram) = true := t.F_Lprogram.kp
theorem Tx.k_Lran (t : Tx K mg g) : PySem.W.keepIn K (.ref t.f_Lran) = true := t.F_Lran.kp
theorem Tx.k_Lwishes (t : Tx K mg g) : PySem.W.keepIn K (.ref t.f_Lwishes) = true := t.F_Lwishes.kp
theorem Tx.k_Lparts (t : Tx K mg g) : PySem.W.keepIn K (.ref t.f_Lparts) = true := t.F_Lparts.kp
theorem Tx.k_Lfewest (t : Tx K mg g) : PySem.W.keepIn K (.ref t.f_Lfewest) = true := t.F_Lfewest.kp
theorem Tx.k_Lalike (t : Tx K mg g) : PySem.W.keepIn K (.ref t.f_Lalike) = true := t.F_Lalike.kp
theorem Tx.k_Ltold (t : Tx K mg g) : PySem.W.keepIn K (.ref t.f_Ltold) = true := t.F_Ltold.kp
theorem Tx.k_Ltimes (t : Tx K mg g) : PySem.W.keepIn K (.ref t.f_Ltimes) = true := t.F_Ltimes.kp
theorem Tx.k_Levery_loss (t : Tx K mg g) : PySem.W.keepIn K (.ref t.f_Levery_loss) = true := t.F_Levery_loss.kp
theorem Tx.k_Lshown (t : Tx K mg g) : PySem.W.keepIn K (.ref t.f_Lshown) = true := t.F_Lshown.kp
theorem Tx.k_law (t : Tx K mg g) : PySem.W.keepIn K (.ref t.f_law) = true := t.F_law.kp
end
end L2.LL

/-! # LLPure -/
set_option Elab.async false
set_option linter.all false
set_option maxRecDepth 100000
set_option maxHeartbeats 2000000
namespace L2.LL
open PySem PySem.Spec PyProof.Rows

/-! ## machines, lines, terms -/
abbrev nT (i : Nat) : T := .num (i : Int)
structure Mac where
  n : Nat
  fs : List Nat
structure Mac.Ok (M : Mac) : Prop where
  n1 : 1 ≤ M.n
  n3 : M.n ≤ 3
  f1 : 1 ≤ M.fs.length
  f2 : M.fs.length ≤ 2
  rd : ∀ r ∈ M.fs, r = 1 ∨ r = 2
abbrev nTs (l : List Nat) : List T := l.map nT
abbrev Mac.t (M : Mac) : T := .tup [nT M.n, .tup (nTs M.fs)]
structure Ln where
  c : Nat
  f : Option Nat
  src : List Nat
  deriving DecidableEq
def fT : Option Nat → T
  | none => .none
  | some i => nT i
abbrev Ln.t (l : Ln) : T := .tup [nT l.c, fT l.f, .tup (nTs l.src)]
structure Ln.Ok (M : Mac) (l : Ln) : Prop where
  c : l.c < M.n
  src : ∀ s ∈ l.src, s < M.n
  fn : (l.f = none ∧ ∃ s, l.src = [s] ∧ s ≠ l.c) ∨ ∃ i, l.f = some i ∧ M.fs[i]? = some l.src.length
abbrev prT (p : List Ln) : T := .tup (p.map Ln.t)
def PrOk (M : Mac) (p : List Ln) : Prop := p.length ≤ 60 ∧ ∀ l ∈ p, l.Ok M
def val (h : List T) (l : Ln) : T := match l.f with
  | none => h[l.src.head?.getD 0]?.getD .none
  | some i => .tup (nT i :: l.src.map fun s => h[s]?.getD .none)
def did (h : List T) (l : Ln) : List T := h.set l.c (val h l)
def firsts (n : Nat) : List T := (List.range n).map nT
def run (h : List T) (p : List Ln) : List T := p.foldl did h
/-- the machine's terms -/
inductive WT (M : Mac) : T → Prop
  | leaf {i : Nat} : i < M.n → WT M (nT i)
  | tup {f : Nat} {ts : List T} : M.fs[f]? = some ts.length → (∀ t ∈ ts, WT M t) → WT M (.tup (nT f :: ts))
/-- what the cells hold, at most d deep -/
structure HT (M : Mac) (d : Nat) (h : List T) : Prop where
  len : h.length = M.n
  wt : ∀ t ∈ h, WT M t ∧ t.depth ≤ d
abbrev Wish := Nat × T
abbrev wT (w : Wish) : T := .tup [nT w.1, w.2]
abbrev wsT (W : List Wish) : T := .tup (W.map wT)
structure WOk (M : Mac) (W : List Wish) : Prop where
  ne : W ≠ []
  wt : ∀ w ∈ W, w.1 < M.n ∧ WT M w.2 ∧ w.2.depth ≤ 4
  up : W.Pairwise fun a b => a.1 < b.1
def ful (h : List T) (W : List Wish) : Bool := W.all fun w => decide (h[w.1]?.getD .none = w.2)
def isNum : T → Int → Int → Bool
  | .num i, lo, hi => decide (lo ≤ i) && decide (i ≤ hi)
  | _, _, _ => false
def soft (l : Ln) : Bool := !decide (l.c ∈ l.src)
abbrev pairT (h : List T) (a : Nat) : T := .tup [.tup h, nT a]
/-- what the moments of a program keep -/
structure Mom (M : Mac) (P : List Ln) (k : Nat) (Inv : Nat → List T → Nat → Prop) : Prop where
  m0 : Inv 0 (firsts M.n) 0
  m1 : ∀ i l h a, P[i]? = some l → Inv i h a → Inv (i + 1) (did h l) 0
  m2 : ∀ i l h a, P[i]? = some l → Inv i h a → a < k → Inv (i + 1) h (a + 1)
  wt : ∀ i h a, Inv i h a → HT M 6 h
  cnt : ∀ i, ∃ L : List T, L.length ≤ 3000 ∧ ∀ h a, Inv i h a → pairT h a ∈ L
/-- every state on the way of a program that loses nothing is shallow -/
def Tame (M : Mac) (d : Nat) (P : List Ln) : Prop := ∀ i, HT M d (run (firsts M.n) (P.take i))
/-! ## parts, lines, the search -/
mutual
def subs : T → List T
  | .tup ks => .tup ks :: subsT ks
  | .none => [.none]
  | .num i => [.num i]
  | .text x => [.text x]
def subsT : List T → List T
  | [] => []
  | _ :: ks => subsL ks
def subsL : List T → List T
  | [] => []
  | k :: ks => subs k ++ subsL ks
end
def addP (ps : List T) (t : T) : List T := if t ∈ ps then ps else ps ++ [t]
def parts (W : List Wish) : List T := (W.flatMap fun w => subs w.2).foldl addP []
def partsD (ps : List T) : List (T × D) := ps.mapIdx fun i t => (t, .dat (nT i))
def rows (n r : Nat) : List (List Nat) := if r = 1 then (List.range n).map fun a => [a] else (List.range n).flatMap fun a => (List.range n).map fun b => [a, b]
def cellLines (M : Mac) (c : Nat) : List Ln := (M.fs.zipIdx.flatMap fun (r, i) => (rows M.n r).map fun src => ⟨c, some i, src⟩) ++ ((List.range M.n).filter fun s => decide (s ≠ c)).map fun s => ⟨c, none, [s]⟩
def allLines (M : Mac) : List Ln := (List.range M.n).flatMap (cellLines M)
def moves (M : Mac) : List Ln := (allLines M).filter soft
abbrev BS := List (Option T)
def bval (h : BS) (l : Ln) : Option T := match l.f with
  | none => (h[l.src.head?.getD 0]?).getD none
  | some i => if ∀ s ∈ l.src, ((h[s]?).getD none).isSome = true then some (.tup (nT i :: l.src.map fun s => ((h[s]?).getD none).getD .none)) else none
def nxt (ps : List T) (h : BS) (l : Ln) : Option BS := match bval h l with
  | some t => if t ∈ ps then some (h.set l.c (some t)) else none
  | none => none
abbrev Fd := List (BS × List Ln)
def pathOf (F : Fd) (h : BS) : List Ln := ((F.find? fun p => decide (p.1 = h)).map (·.2)).getD []
def ex1 (ps : List T) (h : BS) (acc : Fd × List BS) (l : Ln) : Fd × List BS := match nxt ps h l with
  | some a => if a ∈ acc.1.map (·.1) then acc else (acc.1 ++ [(a, pathOf acc.1 h ++ [l])], acc.2 ++ [a])
  | none => acc
def exH (ps : List T) (mv : List Ln) (acc : Fd × List BS) (h : BS) : Fd × List BS := mv.foldl (ex1 ps h) acc
def exL (ps : List T) (mv : List Ln) (x : Fd × List BS) : Fd × List BS := x.2.foldl (exH ps mv) (x.1, [])
def begin0 (M : Mac) (ps : List T) : BS := (firsts M.n).map fun t => if t ∈ ps then some t else none
def bst (ps : List T) (mv : List Ln) (s0 : BS) : Nat → Fd × List BS
  | 0 => ([(s0, [])], [s0])
  | k + 1 => exL ps mv (bst ps mv s0 k)
abbrev lay (M : Mac) (W : List Wish) (k : Nat) : Fd × List BS := bst (parts W) (moves M) (begin0 M (parts W)) k
def goalB (W : List Wish) (h : BS) : Prop := ∀ w ∈ W, h[w.1]? = some (some w.2)
def Not0 (M : Mac) (W : List Wish) (k : Nat) : Prop := ∀ j, j < k → ∀ x ∈ (lay M W j).2, ¬ goalB W x
def BRes (M : Mac) (W : List Wish) : Option (List Ln) → Prop
  | some p => ∃ k h, Not0 M W k ∧ h ∈ (lay M W k).2 ∧ goalB W h ∧ p = pathOf (lay M W k).1 h
  | none => ∃ k, Not0 M W k ∧ (lay M W k).2 = []
def FRes (M : Mac) (W : List Wish) : Option Nat → Prop
  | some k => Not0 M W k ∧ ∃ h ∈ (lay M W k).2, goalB W h
  | none => ∃ k, Not0 M W k ∧ (lay M W k).2 = []
def encP (ps : List T) : Option T → T
  | some t => nT (ps.idxOf t)
  | none => .num (-1)
abbrev encS (ps : List T) (h : BS) : T := .tup (h.map (encP ps))
def encL : Option T → T
  | some t => t
  | none => .none
/-- a state of the search -/
structure BOk (M : Mac) (ps : List T) (h : BS) : Prop where
  len : h.length = M.n
  ps : ∀ t, some t ∈ h → t ∈ ps
def beh (ps : List T) (h : BS) (l : Ln) : Option BS := match bval h l with
  | some t => if t ∈ ps ∧ h[l.c]? ≠ some (some t) then some (h.set l.c (some t)) else none
  | none => none
def resT : Option (List Ln) → T
  | some p => prT p
  | none => .none
def numT : Option Nat → T
  | some k => nT k
  | none => .none
/-- what a Search holds -/
def SrcAt (g : Gp) (S : Sto) (n : Nat) (M : Mac) (W : List Wish) : Prop := ∃ a b c d ep, S[n]? = some (.ins g.cS [("parts", .ref a), ("terms", .ref b), ("goal", .ref c), ("moves", .ref d), ("start", .dat (encS (parts W) (begin0 M (parts W))))]) ∧
  S[a]? = some (.dct (partsD (parts W)) ep) ∧ S[b]? = some (.lst ((parts W).map .dat)) ∧ S[c]? = some (.lst (W.map fun w => .dat (.tup [nT w.1, nT ((parts W).idxOf w.2)]))) ∧ S[d]? = some (.lst ((moves M).map fun l => .dat l.t))
structure SOk (M : Mac) (W : List Wish) : Prop where
  m : M.Ok
  w : WOk M W
  sz : (parts W).length ≤ 10
def dbl (P : List Ln) (k : Nat) : List Ln := P.flatMap fun l => List.replicate k l
/-! ## the law's own -/
def Row (g : Gp) (o : AO) : Prop := ∃ a b c : Int, o = .lst [.raw (.ref g.sa), .dat (.num a), .dat (.num b), .dat (.num c)] ∧ 0 ≤ a ∧ 0 ≤ b ∧ b < 2147483647
/-- the state behind i lines, those of Ls lost -/
def stL (P : List Ln) (Ls : List Nat) (h : List T) : Nat → List T
  | 0 => h
  | i + 1 => match P[i]? with
    | some l => if i ∈ Ls then stL P Ls h i else did (stL P Ls h i) l
    | none => stL P Ls h i
/-- never more than k losses behind each other -/
def LossOk (k : Nat) (Ls : List Nat) : Prop := ∀ i, ∃ j, j ≤ k ∧ i + j ∉ Ls
/-- the states with at most one loss in a row -/
def ES (h0 : List T) (P : List Ln) : Nat → List T → Nat → Prop
  | 0, h, a => h = h0 ∧ a = 0
  | i + 1, h, a => ∃ l, P[i]? = some l ∧ ((a = 0 ∧ ∃ h' a', ES h0 P i h' a' ∧ h = did h' l) ∨ (a = 1 ∧ ES h0 P i h 0))
def Sure (h0 : List T) (P : List Ln) (i : Nat) (l : Ln) : Prop := ∃ t, (∀ h a, ES h0 P (i + 1) h a → h[l.c]? = some t) ∧ ¬ ∀ h a, ES h0 P i h a → h[l.c]? = some t
inductive Core (h0 : List T) (P : List Ln) : Nat → List Ln → Prop
  | z : Core h0 P 0 []
  | yes {i : Nat} {c : List Ln} {l : Ln} : Core h0 P i c → P[i]? = some l → Sure h0 P i l → Core h0 P (i + 1) (c ++ [l])
  | no {i : Nat} {c : List Ln} {l : Ln} : Core h0 P i c → P[i]? = some l → ¬ Sure h0 P i l → Core h0 P (i + 1) c
def LnsOk (M : Mac) (P : List Ln) : Prop := ∀ l ∈ P, l.Ok M
end L2.LL

/-! # LLSpec -/
set_option Elab.async false
set_option linter.all false
set_option maxRecDepth 100000
set_option maxHeartbeats 2000000
namespace L2.LL
open PySem PySem.Spec PyProof.Rows
def F_is_number (g : Gp) : FD := fun ds S Q => match ds with
  | [.dat v, .dat (.num lo), .dat (.num hi)] => Q (.bl (isNum v lo hi)) S
  | _ => False
def F_need_machine (g : Gp) : FD := fun ds S Q => match ds with
  | [.dat m] => ∃ M : Mac, m = M.t ∧ M.Ok ∧ Q (.dat .none) S
  | _ => False
def F_is_line (g : Gp) : FD := fun ds S Q => match ds with
  | [.dat m, .dat v] => ∃ (M : Mac) (l : Ln), m = M.t ∧ v = l.t ∧ M.Ok ∧ l.Ok M ∧ Q (.bl true) S
  | _ => False
def F_need_program (g : Gp) : FD := fun ds S Q => match ds with
  | [.dat m, .dat v] => ∃ (M : Mac) (p : List Ln), m = M.t ∧ v = prT p ∧ M.Ok ∧ PrOk M p ∧ Q (.dat .none) S
  | _ => False
def F_is_soft (g : Gp) : FD := fun ds S Q => match ds with
  | [.dat v] => ∃ (l : Ln), v = l.t ∧ Q (.bl (soft l)) S
  | _ => False
/-- depth, of terms at most d deep -/
def F_depthN (d : Nat) (g : Gp) : FD := fun ds S Q => match ds with
  | [.dat v] => ∃ M : Mac, M.Ok ∧ WT M v ∧ v.depth ≤ d ∧ Q (.dat (nT (v.depth + 1))) S
  | _ => False
def F_depth (g : Gp) : FD := F_depthN 9 g
def F_is_termN (d : Nat) (g : Gp) : FD := fun ds S Q => match ds with
  | [.dat m, .dat v, .dat (.num k)] => ∃ M : Mac, m = M.t ∧ M.Ok ∧ WT M v ∧ v.depth ≤ d ∧ (v.depth + 1 : Int) ≤ k ∧ Q (.bl true) S
  | _ => False
def F_is_term (g : Gp) : FD := F_is_termN 9 g
def F_first_terms (g : Gp) : FD := fun ds S Q => match ds with
  | [.dat m] => ∃ M : Mac, m = M.t ∧ M.Ok ∧ Q (.dat (.tup (firsts M.n))) S
  | _ => False
def F_done (g : Gp) : FD := fun ds S Q => match ds with
  | [.dat (.tup h), .dat v] => ∃ (M : Mac) (l : Ln), v = l.t ∧ M.Ok ∧ l.Ok M ∧ HT M 7 h ∧ (val h l).depth ≤ 7 ∧ Q (.dat (.tup (did h l))) S
  | _ => False
def F_need_many (g : Gp) : FD := fun ds S Q => match ds with
  | [.dat (.num k)] => 1 ≤ k ∧ k ≤ 3 ∧ Q (.dat .none) S
  | _ => False
def F_is_wish (g : Gp) : FD := fun ds S Q => match ds with
  | [.dat m, .dat v] => ∃ (M : Mac) (w : Wish), m = M.t ∧ v = wT w ∧ M.Ok ∧ w.1 < M.n ∧ WT M w.2 ∧ w.2.depth ≤ 4 ∧ Q (.bl true) S
  | _ => False
def F_need_wishes (g : Gp) : FD := fun ds S Q => match ds with
  | [.dat m, .dat v] => ∃ (M : Mac) (W : List Wish), m = M.t ∧ v = wsT W ∧ M.Ok ∧ WOk M W ∧ Q (.dat .none) S
  | _ => False
def F_fulfilled (g : Gp) : FD := fun ds S Q => match ds with
  | [.dat (.tup h), .dat v] => ∃ (M : Mac) (W : List Wish), v = wsT W ∧ M.Ok ∧ WOk M W ∧ HT M 7 h ∧ Q (.bl (ful h W)) S
  | _ => False
def F_need_wished (g : Gp) : FD := fun ds S Q => match ds with
  | [.dat m, .dat p, .dat (.num k), .dat v] => ∃ (M : Mac) (P : List Ln) (W : List Wish), m = M.t ∧ p = prT P ∧ v = wsT W ∧ M.Ok ∧ PrOk M P ∧ 1 ≤ k ∧ k ≤ 3 ∧ WOk M W ∧ Q (.dat .none) S
  | _ => False
def F_need_both (g : Gp) : FD := fun ds S Q => match ds with
  | [.dat m, .dat v] => ∃ (M : Mac) (W : List Wish), m = M.t ∧ v = wsT W ∧ M.Ok ∧ WOk M W ∧ Q (.dat .none) S
  | _ => False
def F_keep (g : Gp) : FD := fun ds S Q => match ds with
  | [.ref n, .dat p, .dat (.tup ls)] => ∃ (us : List (T × T)) (ep : Nat), S[n]? = some (.dct (us.map fun p => (p.1, .dat p.2)) ep) ∧ keyOk p ∧ us.length < 100000 ∧ (∀ u ∈ us, ∃ ts, u.2 = .tup ts) ∧ (us.map (·.1)).Nodup ∧
      ∀ (us' : List (T × T)) (ep' : Nat), (∀ u ∈ us', u ∈ us ∨ u = (p, .tup ls)) → (us'.map (·.1)).Nodup → Q (.dat .none) (S.set n (.dct (us'.map fun p => (p.1, .dat p.2)) ep'))
  | _ => False
def F_all_moments (g : Gp) : FD := fun ds S Q => match ds with
  | [.dat m, .dat p, .dat (.num k)] => ∃ (M : Mac) (P : List Ln) (kk : Nat) (Inv : Nat → List T → Nat → Prop), m = M.t ∧ p = prT P ∧ k = kk ∧ M.Ok ∧ PrOk M P ∧ Mom M P kk Inv ∧
      ∀ (S' : Sto) (n j ep : Nat) (pre : List D) (us : List (T × T)), S <+: S' → S'[n]? = some (.lst (pre ++ [.ref j])) → S'[j]? = some (.dct (us.map fun p => (p.1, .dat p.2)) ep) →
        us.length ≤ 3000 → (∀ u ∈ us, ∃ h a ls, u = (pairT h a, .tup ls) ∧ Inv P.length h a) → Q (.ref n) S'
  | _ => False
def F_least_harm (g : Gp) : FD := fun ds S Q => match ds with
  | [.dat m, .dat p, .dat (.num k), .dat w] => ∃ (M : Mac) (P : List Ln) (kk : Nat) (W : List Wish) (Inv : Nat → List T → Nat → Prop), m = M.t ∧ p = prT P ∧ k = kk ∧ w = wsT W ∧ M.Ok ∧ PrOk M P ∧ WOk M W ∧ Mom M P kk Inv ∧
      (∀ h a, Inv P.length h a → ful h W = true) ∧ Q (.dat .none) S
  | _ => False
def F_is_proof (g : Gp) : FD := fun ds S Q => match ds with
  | [.dat m, .dat p, .dat (.num k), .dat w] => ∃ (M : Mac) (P : List Ln) (kk : Nat) (W : List Wish) (Inv : Nat → List T → Nat → Prop), m = M.t ∧ p = prT P ∧ k = kk ∧ w = wsT W ∧ M.Ok ∧ PrOk M P ∧ WOk M W ∧ 1 ≤ kk ∧ kk ≤ 3 ∧ Mom M P kk Inv ∧
      (∀ h a, Inv P.length h a → ful h W = true) ∧ Q (.bl true) S
  | _ => False
def F_repeated_ends (g : Gp) : FD := fun ds S Q => match ds with
  | [.dat m, .dat p, .dat (.num k)] => ∃ (M : Mac) (P : List Ln) (kk : Nat), m = M.t ∧ p = prT P ∧ k = kk ∧ kk ≤ 3 ∧ M.Ok ∧ PrOk M P ∧ (∀ l ∈ P, soft l = true) ∧ Tame M 6 P ∧
      ∀ (S' : Sto) (n ep : Nat), S <+: S' → S'[n]? = some (.dct [(.tup (run (firsts M.n) P), .bl true)] ep) → Q (.ref n) S'
  | _ => False
def F_is_repeat_proof (g : Gp) : FD := fun ds S Q => match ds with
  | [.dat m, .dat p, .dat (.num k), .dat w] => ∃ (M : Mac) (P : List Ln) (kk : Nat) (W : List Wish), m = M.t ∧ p = prT P ∧ k = kk ∧ w = wsT W ∧ 1 ≤ kk ∧ kk ≤ 3 ∧ M.Ok ∧ PrOk M P ∧ WOk M W ∧ (∀ l ∈ P, soft l = true) ∧ Tame M 6 P ∧
      ful (run (firsts M.n) P) W = true ∧ Q (.bl true) S
  | _ => False
def F_parts_ofN (d : Nat) (g : Gp) : FD := fun ds S Q => match ds with
  | [.dat v] => ∃ M : Mac, M.Ok ∧ WT M v ∧ v.depth ≤ d ∧ d ≤ 8 ∧ Q (.ref S.length) (S ++ [.lst ((subs v).map .dat)])
  | _ => False
def F_parts_of (g : Gp) : FD := F_parts_ofN 8 g
def F_all_parts (g : Gp) : FD := fun ds S Q => match ds with
  | [.dat w] => ∃ (M : Mac) (W : List Wish), w = wsT W ∧ SOk M W ∧ ∀ ep, Q (.ref S.length) (S ++ [.dct (partsD (parts W)) ep])
  | _ => False
def F_all_lines (g : Gp) : FD := fun ds S Q => match ds with
  | [.dat m] => ∃ M : Mac, m = M.t ∧ M.Ok ∧ ∀ S' n, S <+: S' → S'[n]? = some (.lst ((allLines M).map fun l => .dat l.t)) → Q (.ref n) S'
  | _ => False
def F_S_init (g : Gp) : FD := fun ds S Q => match ds with
  | [.ref n, .dat m, .dat w, .bl b] => ∃ (M : Mac) (W : List Wish), m = M.t ∧ w = wsT W ∧ b = true ∧ SOk M W ∧ S[n]? = some (.ins g.cS []) ∧
      ∀ S', (∀ i, i < S.length → i ≠ n → S'[i]? = S[i]?) → SrcAt g S' n M W → S.length ≤ S'.length → Q (.dat .none) S'
  | _ => False
def F_S_behind (g : Gp) : FD := fun ds S Q => match ds with
  | [.ref n, .dat v, .dat u] => ∃ (M : Mac) (W : List Wish) (h : BS) (l : Ln), v = encS (parts W) h ∧ u = l.t ∧ SOk M W ∧ SrcAt g S n M W ∧ BOk M (parts W) h ∧ l.Ok M ∧
      Q (.dat (match beh (parts W) h l with | some a => encS (parts W) a | none => .none)) S
  | _ => False
def F_S_shortest (g : Gp) : FD := fun ds S Q => match ds with
  | [.ref n] => ∃ (M : Mac) (W : List Wish), SOk M W ∧ SrcAt g S n M W ∧ ∀ r, BRes M W r → Q (.dat (resT r)) S
  | _ => False
def F_best (g : Gp) : FD := fun ds S Q => match ds with
  | [.dat m, .dat w, .bl b] => ∃ (M : Mac) (W : List Wish), m = M.t ∧ w = wsT W ∧ b = true ∧ SOk M W ∧ ∀ r, BRes M W r → Q (.dat (resT r)) S
  | _ => False
def F_shortest_gentle (g : Gp) : FD := fun ds S Q => match ds with
  | [.dat m, .dat w] => ∃ (M : Mac) (W : List Wish), m = M.t ∧ w = wsT W ∧ SOk M W ∧ ∀ r, BRes M W r → Q (.dat (resT r)) S
  | _ => False
def F_can_be_proof (g : Gp) : FD := fun ds S Q => match ds with
  | [.dat m, .dat w] => ∃ (M : Mac) (W : List Wish), m = M.t ∧ w = wsT W ∧ SOk M W ∧ ∀ r, BRes M W r → Q (.bl r.isSome) S
  | _ => False
def F_written (g : Gp) : FD := fun ds S Q => match ds with
  | [.dat p, .dat (.num k)] => ∃ (P : List Ln) (kk : Nat), p = prT P ∧ k = kk ∧ kk ≤ 4 ∧ P.length * kk ≤ 60 ∧ Q (.dat (prT (dbl P kk))) S
  | _ => False
def F_proofed (g : Gp) : FD := fun ds S Q => match ds with
  | [.dat m, .dat p, .dat (.num k)] => ∃ (M : Mac) (P : List Ln) (kk : Nat), m = M.t ∧ p = prT P ∧ k = kk ∧ M.Ok ∧ PrOk M P ∧ 1 ≤ kk ∧ kk ≤ 3 ∧ P.length * (kk + 1) ≤ 60 ∧ Q (.dat (prT (dbl P (kk + 1)))) S
  | _ => False
def F_Ltaken (g : Gp) : FD := fun ds S Q => match ds with
  | [.ref n, .dat (.num k)] => ∃ o, S[n]? = some o ∧ Row g o ∧ 1 ≤ k ∧ k < 1000 ∧ ∀ v o', 0 ≤ v → v < k → Row g o' → Q (.dat (.num v)) (S.set n o')
  | _ => False
def F_Lmachine (g : Gp) : FD := fun ds S Q => match ds with
  | [.ref n] => ∃ o, S[n]? = some o ∧ Row g o ∧ ∀ (M : Mac) o', M.Ok → Row g o' → Q (.dat M.t) (S.set n o')
  | _ => False
def F_Ldid (g : Gp) : FD := fun ds S Q => match ds with
  | [.dat (.tup h), .dat v] => ∃ (M : Mac) (l : Ln), v = l.t ∧ M.Ok ∧ l.Ok M ∧ h.length = M.n ∧ Q (.dat (.tup (did h l))) S
  | _ => False
def F_LdeepN (d : Nat) (g : Gp) : FD := fun ds S Q => match ds with
  | [.dat v] => ∃ M : Mac, M.Ok ∧ WT M v ∧ v.depth ≤ d ∧ Q (.dat (nT (v.depth + 1))) S
  | _ => False
def F_Ldeep (g : Gp) : FD := F_LdeepN 9 g
def F_Ltame (g : Gp) : FD := fun ds S Q => match ds with
  | [.dat m, .dat p] => ∃ (M : Mac) (P : List Ln), m = M.t ∧ p = prT P ∧ M.Ok ∧ LnsOk M P ∧ P.length ≤ 60 ∧ ∀ P', LnsOk M P' → P'.length ≤ P.length → Tame M 4 P' → Q (.dat (prT P')) S
  | _ => False
def F_Levery_line (g : Gp) : FD := fun ds S Q => match ds with
  | [.dat m] => ∃ M : Mac, m = M.t ∧ M.Ok ∧ ∀ S' n, S <+: S' → S.length ≤ n → S'[n]? = some (.lst ((allLines M).map fun l => .dat l.t)) → Q (.ref n) S'
  | _ => False
def F_Lpick (g : Gp) : FD := fun ds S Q => match ds with
  | [.ref n, .ref k] => ∃ o l, n ≠ k ∧ S[n]? = some o ∧ Row g o ∧ S[k]? = some (.lst l) ∧ 0 < l.length ∧ l.length < 1000 ∧ ∀ d o', d ∈ l → Row g o' → Q d (S.set n o')
  | _ => False
def F_Lprogram (g : Gp) : FD := fun ds S Q => match ds with
  | [.ref n, .dat m, .dat (.num k)] => ∃ (M : Mac) (kk : Nat) (o : AO), m = M.t ∧ k = kk ∧ kk ≤ 60 ∧ M.Ok ∧ S[n]? = some o ∧ Row g o ∧ ∀ P o', LnsOk M P → P.length ≤ kk → Row g o' → Q (.dat (prT P)) (S.set n o')
  | _ => False
def F_Lran (g : Gp) : FD := fun ds S Q => match ds with
  | [.dat m, .dat p, .dat l] => ∃ (M : Mac) (P : List Ln) (Ls : List Nat), m = M.t ∧ p = prT P ∧ l = .tup (nTs Ls) ∧ M.Ok ∧ LnsOk M P ∧ P.length ≤ 60 ∧ (∀ i, HT M 7 (stL P Ls (firsts M.n) i)) ∧ Q (.dat (.tup (stL P Ls (firsts M.n) P.length))) S
  | _ => False
def F_Lwishes (g : Gp) : FD := fun ds S Q => match ds with
  | [.ref n, .dat m] => ∃ (M : Mac) (o : AO), m = M.t ∧ M.Ok ∧ S[n]? = some o ∧ Row g o ∧ ∀ W o', WOk M W → Row g o' → Q (.dat (wsT W)) (S.set n o')
  | _ => False
def F_Lparts (g : Gp) : FD := fun ds S Q => match ds with
  | [.dat w] => ∃ (M : Mac) (W : List Wish), w = wsT W ∧ M.Ok ∧ WOk M W ∧ ∀ ps : List T, ps.Nodup → (∀ t, t ∈ ps ↔ t ∈ parts W) → Q (.ref S.length) (S ++ [.lst (ps.map .dat)])
  | _ => False
def F_Lfewest (g : Gp) : FD := fun ds S Q => match ds with
  | [.dat m, .dat w, .bl b] => ∃ (M : Mac) (W : List Wish), m = M.t ∧ w = wsT W ∧ b = true ∧ SOk M W ∧ ∀ r, FRes M W r → Q (.dat (numT r)) S
  | _ => False
def F_Lalike (g : Gp) : FD := fun ds S Q => match ds with
  | [.bl a, .bl b] => Q (.bl (decide (a = b))) S
  | _ => False
def F_Ltimes (g : Gp) : FD := fun ds S Q => match ds with
  | [.dat p, .dat (.num k)] => ∃ (P : List Ln) (kk : Nat), p = prT P ∧ k = kk ∧ 1 ≤ kk ∧ kk ≤ 4 ∧ P.length ≤ 60 ∧ Q (.dat (prT (dbl P kk))) S
  | _ => False
def F_Levery_loss (g : Gp) : FD := fun ds S Q => match ds with
  | [.dat (.num n), .dat (.num k)] => ∃ nn kk : Nat, n = nn ∧ k = kk ∧ nn ≤ 10 ∧ 1 ≤ kk ∧ kk ≤ 3 ∧ ∀ S' j (L : List (List Nat)), S <+: S' → S'[j]? = some (.lst (L.map fun Ls => .dat (.tup (nTs Ls)))) → (∀ Ls ∈ L, LossOk kk Ls) → Q (.ref j) S'
  | _ => False
def F_Lshown (g : Gp) : FD := fun ds S Q => match ds with
  | [.dat m, .dat p, .dat w] => ∃ (M : Mac) (P : List Ln) (W : List Wish), m = M.t ∧ p = prT P ∧ w = wsT W ∧ M.Ok ∧ LnsOk M P ∧ P.length ≤ 7 ∧ Tame M 4 P ∧ WOk M W ∧
      ((∃ h a, ES (firsts M.n) P P.length h a ∧ ful h W = false) → Q (.dat .none) S) ∧
      ∀ S' n c, S <+: S' → S'[n]? = some (.lst (c.map fun l => .dat l.t)) → Core (firsts M.n) P P.length c → (∀ h a, ES (firsts M.n) P P.length h a → ful h W = true) → Q (.ref n) S'
  | _ => False
def F_proof_program (g : Gp) : FD := fun _ _ _ => False
def F_Ltold (g : Gp) : FD := fun _ _ _ => False
def F_law (g : Gp) : FD := fun _ _ _ => False
end L2.LL

/-! # LLE1 -/
set_option Elab.async false
set_option linter.all false
set_option maxRecDepth 100000
set_option maxHeartbeats 2000000
namespace L2.LL
open PySem PySem.Spec PyProof.Rows
/-! ## errors: what the top has written of their classes -/
abbrev s_T : Stmt := inClass (top 7) 0
structure TxE (K : PySem.W.Frag) (mg : Str → Option Value) where
  cT : Addr
  cN : Addr
  cL : Addr
  fT : Addr
  fdT : FuncData
  cdT : Value
  gT : mg "TooMany" = some (.ref cT)
  gN : mg "NoProgram" = some (.ref cN)
  gL : mg "LinesError" = some (.ref cL)
  ox : OexC K cT
  no : PySem.W.findIn K (.ref cT) "most" = some none
  iT : PySem.W.findIn K (.ref cT) "__init__" = some (some (.ref fT))
  tI : PySem.W.typeIn K (.ref fT) = some (.type "function")
  FT : FunC K "__init__" "TooMany.__init__" s_T fT fdT cdT
  bT : Binds K fdT ["self", "most"] []
  xN : PySem.W.excIn K cN He.veBase "ValueError.__new__" = true
  kN : PySem.W.keepIn K (.ref cN) = true
  bN : PySem.W.subIn K (.ref cN) (.type "BaseException") = some true
  tN : PySem.W.typeIn K (.ref cN) = some (.type "type")
  eT : PySem.W.exmOne K (.ref cT) (.ref cL) = some true
  eN : PySem.W.exmOne K (.ref cN) (.ref cL) = some true
  cxN : ExcC K cN
  cxT : ExcC K cT
  kT : PySem.W.kitOne K (.ref cT) (.ref cN) = some false

/-! ## the making of an error -/
section
variable {X : Cx} {C : Addr} {bmB : List Value} {newId B initId : String} {x : Str} {p pos : Pos}
/-- C(), C without an __init__ of its own -/
theorem pmk_none (F : ExcBaseFacts B newId initId bmB) (q : PySem.W.excIn X.K C bmB newId = true) (gC : X.mg x = some (.ref C)) (kC : PySem.W.keepIn X.K (.ref C) = true) (r : Raises X (.ref C)) (hg : Gl X x) (hdb : (x == ("__debug__" : Str)) = false := by decide) :
    PMk X (.Call (.Name x p) [] [] pos) (fun _ H Q => Q (.ref C) none H) := fun pins s σ H Q I h => by
  refine wpAny_Call_Name_kw (ld_glob I hg gC ?_ hdb)
  refine PySem.W.callWith_K0 I.kIn kC ?_
  obtain ⟨bm, N, nm, qn, bs, hdct, sn, sub, ab, col, dd, k0, k1, k2, k3, k5, mN, hC, hN, hni, tl⟩ := exc_obj I.kIn q
  obtain ⟨hp, gs, dr, tk, os⟩ := s
  refine wpAny_call_exc_subT F tl hC hN hni (fun h' e hm => ?_) (Nat.zero_le _)
  exact mk_of I hm r h (I.hok.gone hm.new)
end
/-- self.most = most -/
def spIni (K : PySem.W.Frag) (C : Addr) : Sp := fun vs H Q _ => ∃ (a : Addr) (v : V), vs = [.ref a, v] ∧ H a = some (exo a C none) ∧ ∀ d, H d = none → d ≠ a → Q .non (upd (upd H d (exd d [("most", v)])) a (exo a C (some d)))
theorem sc_T : FnScope ["self", "most"] ["self", "most"] (defScope s_T) := ⟨rfl, rfl, rfl, by decide +kernel, rfl, by decide +kernel, by decide +kernel⟩
section
variable {P : Program} {w : World} {K : PySem.W.Frag} {mg : Str → Option Value} {base : Heap}
theorem ok_T (e : TxE K mg) : FnOk P w K mg base CX0 1 e.fT e.fdT ["self", "most"] (spIni K e.cT) := by
  obtain ⟨oc, od, kV, doc, pm, an, ct, osl, dV, hfd, lk, hcd⟩ := e.FT.ex
  rw [hfd] at lk ⊢
  refine fn_of (k := 0) lk hcd sc_T (fun vs H Q E h => by obtain ⟨a, v, rfl, _⟩ := h; rfl) fun A outer s H vs Q E hr h => ?_
  obtain ⟨a, v, rfl, ha, hq⟩ := h
  refine ⟨_, pss_one (ps_ost (f := "most") (pe_var (i := 0) rfl (.inl rfl)) (pe_var (i := 1) rfl (.inl rfl))), ?_⟩
  exact ⟨v, rfl, .ref a, rfl, a, e.cT, rfl, e.ox, e.no, .inl ⟨ha, fun dx hn hne => hq dx hn hne⟩⟩
end

/-! ## readings with errors -/
abbrev XQ := Bool → Sto → Prop
abbrev FX := List D → Sto → DQ → XQ → Prop
abbrev BX := EndsD → XQ → SD → Sto → Prop
def gcX (n : Nat) (X0 : XQ) : XQ := fun b S' => ∃ S1, S1 <+: S' ∧ n ≤ S1.length ∧ Sco S1 ∧ X0 b S1
section
variable (K : PySem.W.Frag) (w : World) (g : Gp) {mg : Str → Option Value} (e : TxE K mg)
structure KontX (m : List Addr) (H : Hp) (X0 : XQ) (E : XK) : Prop where
  nop : ∀ S' m' H', X0 true S' → Le m H m' H' → RS K w g m' S' H' → E (.ref e.cN) none H'
  tm : ∀ S' m' H' d fs, X0 false S' → Le m H m' H' → RS K w g m' S' H' → H' d = some (.xd fs) → E (.ref e.cT) (some d) H'
def tSX (E : XK) (f : BX) : TS := fun D σv H => ∃ m σ S D0 X0, RS K w g m S H ∧ RSl m H σ σv ∧ f D0 X0 σ S ∧ EndsOk K w g m H D0 D ∧ KontX K w g e m H X0 E
def spX (F : FX) : Sp := fun vs H Q E => ∃ m S ds Q0 X0, RS K w g m S H ∧ RDs m H ds vs ∧ F ds S Q0 X0 ∧ Kont K w g m H Q0 Q ∧ KontX K w g e m H X0 E
end
def xSeq (t u : BX) : BX := fun D0 X0 σ S => t { D0 with nx := u D0 X0 } X0 σ S
def xUp (t : BD) : BX := fun D0 _ σ S => t D0 σ S
def xIf (c : XD) (t u : BX) : BX := fun D0 X0 σ S => c σ S fun b S1 => match b with
  | true => t D0 X0 σ S1
  | false => u D0 X0 σ S1
def xRaise (b : Bool) : BX := fun _ X0 _ S => X0 b S
def xRetC (F : FX) (fa : AD) : BX := fun D0 X0 σ S => fa σ S fun ds S1 => F ds S1 D0.rt X0
section
variable {K : PySem.W.Frag} {w : World} {g : Gp} {mg : Str → Option Value} {e : TxE K mg} {m m' : List Addr} {H H' : Hp} {X0 : XQ} {E : XK} {S : Sto}
theorem KontX.le (k : KontX K w g e m H X0 E) (L : Le m H m' H') : KontX K w g e m' H' X0 E :=
  ⟨fun S1 m1 H1 q l R => k.nop S1 m1 H1 q (L.trans l) R, fun S1 m1 H1 d fs q l R z => k.tm S1 m1 H1 d fs q (L.trans l) R z⟩
theorem KontX.gc (R : RS K w g m S H) (k : KontX K w g e m H X0 E) : KontX K w g e m H (gcX S.length X0) E :=
  ⟨fun S' m1 H1 ⟨S1, h1, h2, h3, q⟩ L R' => k.nop S1 (m1.take S1.length) H1 q (L.cut (by rw [R.len]; exact h2)) (R'.cut h1 h3),
   fun S' m1 H1 d fs ⟨S1, h1, h2, h3, q⟩ L R' z => k.tm S1 (m1.take S1.length) H1 d fs q (L.cut (by rw [R.len]; exact h2)) (R'.cut h1 h3) z⟩
end
section
variable {g : Gp} {X : Cx} {e : TxE X.K X.mg} {E : XK} {st : Stmt} {rest sa sb : List Stmt} {c : Expr} {fx : XD} {pos p p2 pos2 : Pos}
theorem dsx_up {f : BD} (h : DS g X st f) : PS X st (tSX X.K X.w g e E (xUp f)) := h.imp fun D σv H ⟨m, σ, S, D0, X0, R, Rl, q, k, _⟩ => ⟨m, σ, S, D0, R, Rl, q, k⟩
theorem dssx_nil : PSs X [] (tSX X.K X.w g e E (xUp bNext)) := dss_nil.imp fun D σv H ⟨m, σ, S, D0, X0, R, Rl, q, k, _⟩ => ⟨m, σ, S, D0, R, Rl, q, k⟩
theorem dssx_cons {t u : BX} (h1 : PS X st (tSX X.K X.w g e E t)) (h2 : PSs X rest (tSX X.K X.w g e E u)) : PSs X (st :: rest) (tSX X.K X.w g e E (xSeq t u)) :=
  (pss_cons h1 h2).imp fun D σv H ⟨m, σ, S, D0, X0, R, Rl, h, k, kx⟩ => ⟨m, σ, S, { D0 with nx := u D0 X0 }, X0, R, Rl, h, ⟨fun σ1 S1 m1 H1 σv1 q L R1 Rl1 => ⟨m1, σ1, S1, D0, X0, R1, Rl1, q, k.le L, kx.le L⟩, k.rt, k.bk, k.ct⟩, kx⟩
theorem dsx_if {t u : BX} (hc : DX g X c fx) (ha : PSs X sa (tSX X.K X.w g e E t)) (hb : PSs X sb (tSX X.K X.w g e E u)) : PS X (.If c sa sb pos) (tSX X.K X.w g e E (xIf fx t u)) :=
  (ps_if hc ha hb).imp fun D σv H ⟨m, σ, S, D0, X0, R, Rl, h, k, kx⟩ => ⟨m, σ, S, _, R, Rl, h, fun b1 S1 m1 H1 q L R1 => by
    cases b1 with
    | true => rw [if_pos rfl]; exact ⟨m1, σ, S1, D0, X0, R1, Rl.mono L, q, k.le L, kx.le L⟩
    | false => rw [if_neg Bool.false_ne_true]; exact ⟨m1, σ, S1, D0, X0, R1, Rl.mono L, q, k.le L, kx.le L⟩⟩
/-- raise NoProgram() -/
theorem dsx_raiseN (hc : X.calm = true) (tk : Takes X fun cls d _ H => E cls d H) (hg : Gl X "NoProgram") : PS X (.Raise (some (.Call (.Name "NoProgram" p) [] [] pos)) none pos2) (tSX X.K X.w g e E (xRaise true)) :=
  (ps_raise hc tk (pmk_none PySem.F.excBase_ValueError e.xN e.gN e.kN (raises_own e.bN e.tN) hg)).imp fun D σv H ⟨m, σ, S, D0, X0, R, Rl, h, k, kx⟩ => kx.nop S m H h Le.rfl R
/-- raise TooMany(a) -/
theorem dsx_raiseT {a : Expr} {fa : ED} {k : Nat} (hc : X.calm = true) (hr : Room (k + 1 + 1) X.A) (tk : Takes X fun cls d _ H => E cls d H) (hg : Gl X "TooMany") (ha : DE g X a fa) (hs : starEach (a :: []) X.env = (false, eval a X.env) :: starEach [] X.env := by rfl) (hpl : (backTo pos (starEach [] X.env)).any (·.1) = false := by rfl) :
    PS X (.Raise (some (.Call (.Name "TooMany" p) [a] [] pos)) none pos2) (tSX X.K X.w g e E fun _ X0 σ S => fa σ S fun _ S1 => X0 false S1) := by
  have F1 : FnOk X.prog X.w X.K X.mg X.base CX0 (k + 1) e.fT e.fdT ["self", "most"] (spIni X.K e.cT) := (ok_T e).mono (Nat.succ_le_succ (Nat.zero_le k))
  refine (ps_raise hc tk (pmk_oex e.ox e.iT e.tI F1 hr e.bT .nil pass0 hg e.gT (pa_cons ha pa_nil hs) (by decide) hs hpl)).imp fun D σv H ⟨m, σ, S, D0, X0, R, Rl, h, kk, kx⟩ => ?_
  refine ⟨m, σ, S, _, R, Rl, h, ⟨fun dx S1 m1 H1 vx q L R1 rx => ?_⟩⟩
  show [vx].length ≤ 1000 ∧ _
  refine ⟨by simp, fun a ha => ⟨a, vx, rfl, upd_same, fun d hd hne => ⟨rfl, d, [("most", vx)], upd_same, ?_, ?_, ?_⟩⟩⟩
  · rw [upd_ne hne, upd_same]
  · rw [upd_ne hne] at hd; exact hd
  · have hd1 : H1 d = none := by rw [upd_ne hne] at hd; exact hd
    have eH : upd (del (upd (upd (upd H1 a (exo a e.cT none)) d (exd d [("most", vx)])) a (exo a e.cT (some d))) a) d (.xd [("most", vx)]) = upd H1 d (.xd [("most", vx)]) := by
      funext b
      by_cases hb : b = d
      · rw [hb, upd_same, upd_same]
      · rw [upd_ne hb, upd_ne hb]
        by_cases hba : b = a
        · rw [hba, del_same, ha]
        · rw [del_ne hba, upd_ne hba, upd_ne hb, upd_ne hba]
    rw [eH]
    exact kx.tm S1 m1 _ d _ q (L.trans (le_new hd1)) (R1.fresh hd1) upd_same
/-- return f(..), f may raise -/
theorem dsx_ret {x : Str} {a : Expr} {as : List Expr} {k : Nat} {f : Addr} {fd : FuncData} {ps : List Str} {F : FX} {fa : AD} (G : FnOk X.prog X.w X.K X.mg X.base (CX X.prog X.w) k f fd ps (spX X.K X.w g e F)) (hr : Room k X.A) (tk : Takes X fun cls d _ H => E cls d H) (hg : Gl X x) (hm : X.mg x = some (.ref f)) (hk : PySem.W.keepIn X.K (.ref f) = true)
    (hb : Binds X.K fd ps []) (ha : DA g X (a :: as) fa) (hdb : (x == ("__debug__" : Str)) = false := by decide) (hs : starEach (a :: as) X.env = (false, eval a X.env) :: starEach as X.env := by rfl) (hpl : (backTo pos (starEach as X.env)).any (·.1) = false := by rfl) :
    PS X (.Return (some (.Call (.Name x p) (a :: as) [] pos)) pos2) (tSX X.K X.w g e E (xRetC F fa)) :=
  (ps_ret (pe_callS G hr hg hm hk hb (fun σ => passAt tk σ) ha hdb hs hpl)).imp fun D σv H ⟨m, σ, S, D0, X0, R, Rl, h, k, kx⟩ =>
    ⟨m, σ, S, _, R, Rl, h, fun ds S1 m1 H1 vs q L R1 rs => ⟨m1, S1, ds, D0.rt, X0, R1, rs, q, ⟨fun d S2 m2 H2 v q2 L2 R2 rd => k.rt d S2 m2 H2 v q2 (L.trans L2) R2 rd⟩, kx.le L⟩⟩
end
section
variable {P : Program} {w : World} {K : PySem.W.Frag} {mg : Str → Option Value} {base : Heap} {g : Gp} {e : TxE K mg}
theorem FunC.okX {x qual : Str} {st : Stmt} {f : Addr} {fd : FuncData} {cdv : Value} {N ps : List Str} {k : Nat} {Ff : FX} (F : FunC K x qual st f fd cdv) (S : FnScope N ps (defScope st)) (len : ∀ ds S Q X, Ff ds S Q X → ds.length = ps.length)
    (hbody : ∀ (A : Around) (outer : List Env) (s : Shared) (H : Hp) (E : XK), Room k (A.deeper (envOfC qual (defScope st) s.heap.objs.size f cdv)) →
      ∃ fb : BX, PSs (cxOf (CX P w) P w K mg base N qual (defScope st) f cdv A outer s H E) (defBody st) (tSX K w g e E fb) ∧
        ∀ ds S Q X0, Sco S → Ff ds S Q X0 → fb { nx := fun _ S' => gcR S.length Q (.dat .none) S', rt := gcR S.length Q } (gcX S.length X0) (startD N ds) S) :
    FnOk P w K mg base (CX P w) (k + 1) f fd ps (spX K w g e Ff) := by
  obtain ⟨oc, od, kV, doc, pm, an, ct, osl, dV, rfl, lk, hcd⟩ := F.ex
  refine fn_of lk hcd S (fun vs H Q E ⟨m, S, ds, Q0, X0, _, rs, h, _⟩ => by rw [← Paired.length rs]; exact len _ _ _ _ h) fun A outer s H vs Q E hr ⟨m, S, ds, Q0, X0, R, rs, h, k, kx⟩ => ?_
  obtain ⟨fb, hb, hq⟩ := hbody A outer s H E hr
  have kg := k.gc R
  exact ⟨_, hb, m, startD N ds, S, _, _, R, RSl.start rs, hq ds S Q0 X0 R.sco h, ⟨fun σ S1 m1 H1 σv q L R1 _ => kg.run _ _ _ _ _ q L R1 .none, fun d S1 m1 H1 v q L R1 rd => kg.run _ _ _ _ _ q L R1 rd, fun _ _ _ _ _ q => q.elim, fun _ _ _ _ _ q => q.elim⟩, kx.gc R⟩
end
end L2.LL

/-! # LLSim -/
set_option Elab.async false
set_option linter.all false
set_option maxRecDepth 100000
set_option maxHeartbeats 2000000
namespace L2.LL
open PySem PySem.Spec PyProof.Rows

/-! ## the readings, unfolded step by step -/
section
variable {σ : SD} {S S' : Sto} {Q : DQ} {d x y z : D} {fa fb fc : ED} {fx fy : XD} {D0 : EndsD} {g : Gp} {t : T} {ts us : List T} {i j : Int} {a b : Bool}
@[simp] theorem s_var {n : Nat} : dVar n σ S Q ↔ ∃ d, σ[n]? = some (some d) ∧ Q d S := by
  unfold dVar
  split
  · rename_i d e; rw [e]; simp
  · rename_i h; exact ⟨False.elim, fun ⟨d, e, _⟩ => h d e⟩
@[simp] theorem s_C : dC d σ S Q ↔ Q d S := Iff.rfl
@[simp] theorem s_op {r : OD} : dOp r fa fb σ S Q ↔ fa σ S fun x S1 => fb σ S1 fun y S2 => r x y S2 Q := Iff.rfl
@[simp] theorem s_test : dTest fa σ S Q' ↔ fa σ S fun d S' => match d with | .bl b => Q' b S' | _ => False := Iff.rfl
@[simp] theorem s_chain {r r' : OD} : dChain r r' fa fb fc σ S Q ↔ fa σ S fun x S1 => fb σ S1 fun y S2 => r x y S2 fun z S3 => match z with
  | .bl true => fc σ S3 fun u S4 => r' y u S4 Q
  | .bl false => Q (.bl false) S3
  | _ => False := Iff.rfl
@[simp] theorem s_xAnd {Q : Bool → Sto → Prop} : xAnd fx fy σ S Q ↔ fx σ S fun b S1 => match b with | true => fy σ S1 Q | false => Q false S1 := Iff.rfl
@[simp] theorem s_xOr {Q : Bool → Sto → Prop} : xOr fx fy σ S Q ↔ fx σ S fun b S1 => match b with | true => Q true S1 | false => fy σ S1 Q := Iff.rfl
@[simp] theorem s_xNot {Q : Bool → Sto → Prop} : xNot fx σ S Q ↔ fx σ S fun b S1 => Q (!b) S1 := Iff.rfl
@[simp] theorem s_xYes {Q : Bool → Sto → Prop} : xYes σ S Q ↔ Q true S := Iff.rfl
@[simp] theorem s_dAnd : dAnd fa fb σ S Q ↔ fa σ S fun d S1 => match d with | .bl true => fb σ S1 Q | .bl false => Q (.bl false) S1 | _ => False := Iff.rfl
@[simp] theorem s_dNot : dNot fa σ S Q ↔ fa σ S fun d S1 => match d with | .bl b => Q (.bl (!b)) S1 | _ => False := Iff.rfl
@[simp] theorem s_dIf : dIf fx fa fb σ S Q ↔ fx σ S fun b S1 => match b with | true => fa σ S1 Q | false => fb σ S1 Q := Iff.rfl
@[simp] theorem s_truth {Q : Bool → Sto → Prop} : dTruth fa σ S Q ↔ fa σ S fun d S1 => match d with
  | .bl b => Q b S1
  | .dat .none => Q false S1
  | .dat (.tup ts) => Q (!ts.isEmpty) S1
  | .ref n => ∃ ds, S1[n]? = some (.lst ds) ∧ Q (!ds.isEmpty) S1
  | _ => False := Iff.rfl
@[simp] theorem s_nil {Q : List D → Sto → Prop} : dNil σ S Q ↔ Q [] S := Iff.rfl
@[simp] theorem s_cons {fr : AD} {Q : List D → Sto → Prop} : dCons fa fr σ S Q ↔ fa σ S fun d S1 => fr σ S1 fun ds S2 => Q (d :: ds) S2 := Iff.rfl
@[simp] theorem s_call {F : FD} {fr : AD} : dCall F fr σ S Q ↔ fr σ S fun ds S1 => F ds S1 Q := Iff.rfl
@[simp] theorem s_callD {F : FD} {fr : AD} {dd : List D} : dCallD F dd fr σ S Q ↔ fr σ S fun ds S1 => F (ds ++ dd) S1 Q := Iff.rfl
@[simp] theorem s_un {r : D → Sto → DQ → Prop} : dUn r fa σ S Q ↔ fa σ S fun x S1 => r x S1 Q := Iff.rfl
@[simp] theorem s_tup {fr : AD} : dTup fr σ S Q ↔ fr σ S fun ds S1 => ∃ ts, allDat ds = some ts ∧ ts.length ≤ 1000 ∧ Q (.dat (.tup ts)) S1 := Iff.rfl
@[simp] theorem s_lst {fr : AD} : dLst fr σ S Q ↔ fr σ S fun ds S1 => ds.length ≤ 1000 ∧ Q (.ref S1.length) (S1 ++ [.lst ds]) := Iff.rfl
@[simp] theorem s_all0 : allDat [] = some [] := rfl
@[simp] theorem s_all1 {ds : List D} : allDat (.dat t :: ds) = (allDat ds).map (t :: ·) := rfl
theorem s_alls : allDat (ts.map .dat) = some ts := by
  induction ts with
  | nil => rfl
  | cons t ts ih => simp [ih]
@[simp] theorem s_dict0 : dDict0 σ S Q ↔ ∀ ep, Q (.ref S.length) (S ++ [.dct [] ep]) := Iff.rfl
@[simp] theorem s_dict1 : dDict1 fa fb σ S Q ↔ fa σ S fun k S1 => fb σ S1 fun v S2 => match k with
  | .dat t => keyOk t ∧ ∀ ep, Q (.ref S2.length) (S2 ++ [.dct [(t, v)] ep])
  | _ => False := Iff.rfl
@[simp] theorem s_tupRg {f : RgD} : dTupRg f σ S Q ↔ f σ S fun i j S1 => smallRg i j ∧ Q (.dat (.tup (rgT i j))) S1 := Iff.rfl
@[simp] theorem s_rg1 {Q : Int → Int → Sto → Prop} : rg1 fa σ S Q ↔ fa σ S fun d S1 => match d with | .dat (.num n) => Q 0 n S1 | _ => False := Iff.rfl
@[simp] theorem s_rg2 {Q : Int → Int → Sto → Prop} : rg2 fa fb σ S Q ↔ fa σ S fun d S1 => fb σ S1 fun e S2 => match d, e with | .dat (.num i), .dat (.num j) => Q i j S2 | _, _ => False := Iff.rfl
@[simp] theorem s_cut {fl fh : OB} : dCut fa fl fh σ S Q ↔ fa σ S fun x S1 => fl σ S1 fun l S2 => fh σ S2 fun h S3 => match x with
  | .dat (.tup ts) => Q (.dat (.tup (cutA ts l h))) S3
  | _ => False := Iff.rfl
@[simp] theorem s_oNo {Q : Option Int → Sto → Prop} : oNo σ S Q ↔ Q none S := Iff.rfl
@[simp] theorem s_oAt {Q : Option Int → Sto → Prop} : oAt fa σ S Q ↔ fa σ S fun d S' => match d with | .dat (.num i) => Q (some i) S' | _ => False := Iff.rfl
@[simp] theorem s_append : dAppend fa fb σ S Q ↔ fa σ S fun x S1 => ∃ n, x = .ref n ∧ (∃ ds, S1[n]? = some (.lst ds)) ∧ fb σ S1 fun y S2 => ∃ ds, S2[n]? = some (.lst ds) ∧ ds.length < 100000 ∧ Q (.dat .none) (S2.set n (.lst (ds ++ [y]))) := Iff.rfl
@[simp] theorem s_pop : dPop fa σ S Q ↔ fa σ S fun x S1 => ∃ n ds d, x = .ref n ∧ S1[n]? = some (.lst (ds ++ [d])) ∧ Q d (S1.set n (.lst ds)) := Iff.rfl
@[simp] theorem s_isi2 {n1 n2 : String} : dIsi2 n1 n2 fa σ S Q ↔ fa σ S fun d S1 => ∃ t b1 b2, tyD d = some t ∧ kitB t n1 = some b1 ∧ kitB t n2 = some b2 ∧ Q (.bl (b1 || b2)) S1 := Iff.rfl
@[simp] theorem s_mt2 {r : Nat → T → D → Sto → DQ → Prop} : dMt2 r fa fb fc σ S Q ↔ fa σ S fun x S1 => ∃ n, x = .ref n ∧ (∃ kvs ep, S1[n]? = some (.dct kvs ep)) ∧ fb σ S1 fun k S2 => fc σ S2 fun y S3 => match k with
  | .dat t => r n t y S3 Q
  | _ => False := Iff.rfl
@[simp] theorem s_fld {C : Addr} {f : Str} : dFld C f fa σ S Q ↔ fa σ S fun d S1 => ∃ n fs y, d = .ref n ∧ S1[n]? = some (.ins C fs) ∧ fs.lookup f = some y ∧ Q y S1 := Iff.rfl
@[simp] theorem s_make {C : Addr} {F : FD} {fr : AD} : dMake C F fr σ S Q ↔ fr σ S fun ds S1 => F (.ref S1.length :: ds) (S1 ++ [.ins C []]) fun d S2 => d = .dat .none ∧ Q (.ref S1.length) S2 := Iff.rfl
@[simp] theorem s_meth {C : Addr} {m : Str} {F : FD} {fr : AD} : dMeth C m F fa fr σ S Q ↔ fa σ S fun d S1 => ∃ n fs, d = .ref n ∧ S1[n]? = some (.ins C fs) ∧ fs.lookup m = none ∧ fr σ S1 fun ds S2 => F (.ref n :: ds) S2 Q := Iff.rfl

/-! ## statements -/
variable {t1 u1 : BD}
@[simp] theorem s_next : bNext D0 σ S ↔ D0.nx σ S := Iff.rfl
@[simp] theorem s_seq : bSeq t1 u1 D0 σ S ↔ t1 { D0 with nx := u1 D0 } σ S := Iff.rfl
@[simp] theorem s_drop : bDrop fa D0 σ S ↔ fa σ S fun _ S1 => D0.nx σ S1 := Iff.rfl
@[simp] theorem s_ret : bRet fa D0 σ S ↔ fa σ S D0.rt := Iff.rfl
@[simp] theorem s_retN : bRetN D0 σ S ↔ D0.rt (.dat .none) S := Iff.rfl
@[simp] theorem s_if : bIf fx t1 u1 D0 σ S ↔ fx σ S fun b S1 => match b with | true => t1 D0 σ S1 | false => u1 D0 σ S1 := Iff.rfl
@[simp] theorem s_set {n : Nat} : bSet n fa D0 σ S ↔ fa σ S fun d S1 => D0.nx (σ.set n (some d)) S1 := Iff.rfl
@[simp] theorem s_asg {f : TgD} : bAsg fa f D0 σ S ↔ fa σ S fun d S1 => ∃ t, d = .dat t ∧ f t σ fun σ' => D0.nx σ' S1 := Iff.rfl
@[simp] theorem s_par {n k : Nat} {fr : AD} : bPar n k fr D0 σ S ↔ fr σ S fun ds S1 => ∃ x y, ds = [x, y] ∧ D0.nx ((σ.set n (some x)).set k (some y)) S1 := Iff.rfl
@[simp] theorem s_par3 {n k l : Nat} {fr : AD} : bPar3 n k l fr D0 σ S ↔ fr σ S fun ds S1 => ∃ x y z, ds = [x, y, z] ∧ D0.nx (((σ.set n (some x)).set k (some y)).set l (some z)) S1 := Iff.rfl
@[simp] theorem s_aug {n : Nat} {r : OD} : bAug n fa r D0 σ S ↔ ∃ x, σ[n]? = some (some x) ∧ fa σ S fun y S1 => r x y S1 fun z S2 => D0.nx (σ.set n (some z)) S2 := Iff.rfl
@[simp] theorem s_setIx {r : D → D → D → Sto → (Sto → Prop) → Prop} : bSetIx r fa fb fc D0 σ S ↔ fa σ S fun v S1 => fb σ S1 fun o S2 => fc σ S2 fun i S3 => r o i v S3 fun S4 => D0.nx σ S4 := Iff.rfl
@[simp] theorem s_bfld {C : Addr} {f : Str} : bFld C f fa fb D0 σ S ↔ fb σ S fun y S1 => fa σ S1 fun d S2 => ∃ n fs, d = .ref n ∧ S2[n]? = some (.ins C fs) ∧ fs.length < 100 ∧ D0.nx σ (S2.set n (.ins C (putFD f y fs))) := Iff.rfl
/-! ## targets -/
variable {Qg : SD → Prop} {gf : TgD} {gs : TgsD}
@[simp] theorem s_gN {n : Nat} : gN n t σ Qg ↔ Qg (σ.set n (some (.dat t))) := Iff.rfl
@[simp] theorem s_gsNil : gsNil ts σ Qg ↔ ts = [] ∧ Qg σ := Iff.rfl
@[simp] theorem s_gsCons : gsCons gf gs (t :: ts) σ Qg ↔ gf t σ fun σ' => gs ts σ' Qg := by
  constructor
  · rintro ⟨t', r, e, h⟩; cases e; exact h
  · exact fun h => ⟨t, ts, rfl, h⟩
@[simp] theorem s_gT {n : Nat} : gT n gs (.tup ts) σ Qg ↔ ts.length = n ∧ gs ts σ Qg := by
  constructor
  · rintro ⟨ts', e, h⟩; cases e; exact h
  · exact fun h => ⟨ts, rfl, h⟩
/-! ## operators -/
@[simp] theorem s_addN : opAdd (.dat (.num i)) (.dat (.num j)) S Q ↔ Q (.dat (.num (i + j))) S := Iff.rfl
@[simp] theorem s_addT : opAdd (.dat (.tup ts)) (.dat (.tup us)) S Q ↔ ts.length + us.length ≤ 100000 ∧ Q (.dat (.tup (ts ++ us))) S := Iff.rfl
@[simp] theorem s_addL {n k : Nat} : opAdd (.ref n) (.ref k) S Q ↔ ∃ a b, S[n]? = some (.lst a) ∧ S[k]? = some (.lst b) ∧ a.length + b.length ≤ 100000 ∧ Q (.ref S.length) (S ++ [.lst (a ++ b)]) := Iff.rfl
@[simp] theorem s_ext {n k : Nat} : opExt (.ref n) (.ref k) S Q ↔ ∃ a b, n ≠ k ∧ S[n]? = some (.lst a) ∧ S[k]? = some (.lst b) ∧ a.length + b.length ≤ 100000 ∧ Q (.ref n) (S.set n (.lst (a ++ b))) := Iff.rfl
@[simp] theorem s_sub : opSub (.dat (.num i)) (.dat (.num j)) S Q ↔ Q (.dat (.num (i - j))) S := Iff.rfl
@[simp] theorem s_mulN : opMul (.dat (.num i)) (.dat (.num j)) S Q ↔ CMul i j ∧ Q (.dat (.num (i * j))) S := Iff.rfl
@[simp] theorem s_mulT : opMul (.dat (.tup ts)) (.dat (.num j)) S Q ↔ ts ≠ [] ∧ 1 ≤ j ∧ j ≤ 1000 ∧ ts.length ≤ 1000 ∧ Q (.dat (.tup (List.replicate j.toNat ts).flatten)) S := Iff.rfl
@[simp] theorem s_mulL {n : Nat} : opMul (.ref n) (.dat (.num j)) S Q ↔ ∃ a, S[n]? = some (.lst a) ∧ 0 ≤ j ∧ a.length * j.toNat ≤ 100000 ∧ j ≤ 100000 ∧ Q (.ref S.length) (S ++ [.lst (List.replicate j.toNat a).flatten]) := Iff.rfl
@[simp] theorem s_cmp {p : Int → Int → Bool} : opCmp p (.dat (.num i)) (.dat (.num j)) S Q ↔ Q (.bl (p i j)) S := Iff.rfl
@[simp] theorem s_eqD {t u : T} {n : Bool} : opEqB n (.dat t) (.dat u) S Q ↔ Shal t ∧ Shal u ∧ Q (.bl (if n then !decide (t = u) else decide (t = u))) S := Iff.rfl
@[simp] theorem s_eqB {n : Bool} : opEqB n (.bl a) (.bl b) S Q ↔ Q (.bl (if n then !decide (a = b) else decide (a = b))) S := Iff.rfl
@[simp] theorem s_eqL {n : Bool} {k l : Nat} : opEqB n (.ref k) (.ref l) S Q ↔ ∃ a b, S[k]? = some (.lst (a.map .dat)) ∧ S[l]? = some (.lst (b.map .dat)) ∧ ShalL a ∧ ShalL b ∧ Q (.bl (if n then !decide (a = b) else decide (a = b))) S := Iff.rfl
@[simp] theorem s_fdiv : opFdiv (.dat (.num i)) (.dat (.num j)) S Q ↔ 0 < j ∧ j < 1000 ∧ Q (.dat (.num (i / j))) S := Iff.rfl
@[simp] theorem s_mod : opMod (.dat (.num i)) (.dat (.num j)) S Q ↔ 0 < j ∧ Q (.dat (.num (i % j))) S := Iff.rfl
@[simp] theorem s_pow : opPow (.dat (.num i)) (.dat (.num j)) S Q ↔ 0 ≤ j ∧ j ≤ 1000 ∧ i.natAbs < 2 ^ 64 ∧ Q (.dat (.num (i ^ j.toNat))) S := Iff.rfl
@[simp] theorem s_neg : unNeg (.dat (.num i)) S Q ↔ Q (.dat (.num (-i))) S := Iff.rfl
@[simp] theorem s_isN {n : Bool} : opIs n d (.dat .none) S Q ↔ notRaw d = true ∧ Q (.bl (if n then !decide (d = .dat .none) else decide (d = .dat .none))) S := Iff.rfl
@[simp] theorem s_isB {n : Bool} : opIs n d (.bl b) S Q ↔ ∃ x, d = .bl x ∧ Q (.bl (if n then !decide (x = b) else decide (x = b))) S := Iff.rfl
@[simp] theorem s_nr1 : notRaw (.dat t) = true := rfl
@[simp] theorem s_nr2 {n : Nat} : notRaw (.ref n) = true := rfl
@[simp] theorem s_nr3 : notRaw (.bl b) = true := rfl
@[simp] theorem s_inT {n : Bool} : opInB n (.dat t) (.dat (.tup ts)) S Q ↔ Shal t ∧ noTxs ts = true ∧ Q (.bl (if n then !decide (t ∈ ts) else decide (t ∈ ts))) S := Iff.rfl
@[simp] theorem s_inL {n : Bool} {k : Nat} : opInB n (.dat t) (.ref k) S Q ↔ ∃ ts, S[k]? = some (.lst (ts.map .dat)) ∧ Shal t ∧ noTxs ts = true ∧ Q (.bl (if n then !decide (t ∈ ts) else decide (t ∈ ts))) S := Iff.rfl
@[simp] theorem s_inD {n : Bool} {k : Nat} : opInD n (.dat t) (.ref k) S Q ↔ ∃ kvs ep, S[k]? = some (.dct kvs ep) ∧ keyOk t ∧ Q (.bl (if n then !(getL kvs t).isSome else (getL kvs t).isSome)) S := Iff.rfl
@[simp] theorem s_ixD {k : Nat} : opIxD (.ref k) (.dat t) S Q ↔ ∃ kvs ep d, S[k]? = some (.dct kvs ep) ∧ keyOk t ∧ getL kvs t = some d ∧ Q d S := Iff.rfl
@[simp] theorem s_ixT : opIx g (.dat (.tup ts)) (.dat (.num i)) S Q ↔ ∃ t, atI ts i = some t ∧ Q (.dat t) S := Iff.rfl
@[simp] theorem s_ixL {n : Nat} : opIx g (.ref n) (.dat (.num i)) S Q ↔ ∃ ds d, S[n]? = some (.lst ds) ∧ atI ds i = some d ∧ Q d S := Iff.rfl
@[simp] theorem s_ixR {v : V} : opIx g (.raw v) (.dat (.num i)) S Q ↔ v = .ref g.sa ∧ ∃ k, atI g.ns i = some k ∧ Q (.dat (.num k)) S := Iff.rfl
@[simp] theorem s_at0 {α : Type} {x : α} {l : List α} : atI (x :: l) 0 = some x := atI_nat (xs := x :: l) (j := 0) rfl
@[simp] theorem s_at1 {α : Type} {x y : α} {l : List α} : atI (x :: y :: l) 1 = some y := atI_nat (xs := x :: y :: l) (j := 1) rfl
@[simp] theorem s_at2 {α : Type} {x y z : α} {l : List α} : atI (x :: y :: z :: l) 2 = some z := atI_nat (xs := x :: y :: z :: l) (j := 2) rfl
@[simp] theorem s_at3 {α : Type} {x y z u : α} {l : List α} : atI (x :: y :: z :: u :: l) 3 = some u := atI_nat (xs := x :: y :: z :: u :: l) (j := 3) rfl
@[simp] theorem s_atN {α : Type} {l : List α} {n : Nat} : atI l (n : Int) = l[n]? := by
  cases h : l[n]? with
  | some x => exact atI_nat h
  | none =>
    have hl := List.getElem?_eq_none_iff.mp h
    unfold atI ixN
    rw [if_pos (by omega), if_neg (by omega)]; rfl
/-! ## built-ins -/
def isTup : T → Bool
  | .tup _ => true
  | _ => false
def isInt : T → Bool
  | .num _ => true
  | _ => false
def isTx : T → Bool
  | .text _ => true
  | _ => false
@[simp] theorem isTup_t : isTup (.tup ts) = true := rfl
@[simp] theorem isTup_n : isTup (.num i) = false := rfl
@[simp] theorem isTup_0 : isTup .none = false := rfl
@[simp] theorem isInt_n : isInt (.num i) = true := rfl
@[simp] theorem isInt_t : isInt (.tup ts) = false := rfl
@[simp] theorem isInt_0 : isInt .none = false := rfl
def k4 (v : String) (r : String → Bool) : Bool := ["NoneType", "int", "str", "tuple"].all fun s => kitB s v == some (r s)
theorem k4_of {v : String} {r : String → Bool} (h : k4 v r = true) {t : T} {b : Bool} (e : r (tyT t) = b) : kitB (tyT t) v = some b := by
  subst e
  unfold k4 at h
  rw [List.all_eq_true] at h
  exact eq_of_beq (h (tyT t) (by cases t <;> simp [tyT]))
theorem k4_t : k4 "tuple" (fun s => decide (s = "tuple")) = true := by decide +kernel
theorem k4_i : k4 "int" (fun s => decide (s = "int")) = true := by decide +kernel
theorem k4_b : k4 "bool" (fun s => false) = true := by decide +kernel
theorem k4_s : k4 "str" (fun s => decide (s = "str")) = true := by decide +kernel
theorem kk (u v : String) (b : Bool) (h : kitB u v = some b) {Q : Bool → Prop} : (∃ c, kitB u v = some c ∧ Q c) ↔ Q b := by rw [h]; simp
theorem fi_iff {t : T} {n : String} : fIsi [.dat t, .raw (.ty n)] S Q ↔ ∃ b, kitB (tyT t) n = some b ∧ Q (.bl b) S := ⟨fun ⟨_, b, e, h⟩ => by cases e; exact ⟨b, h⟩, fun ⟨b, h⟩ => ⟨_, b, rfl, h⟩⟩
@[simp] theorem s_isiT : fIsi [.dat t, .raw (.ty "tuple")] S Q ↔ Q (.bl (isTup t)) S := by
  rw [fi_iff]; cases t <;> exact kk _ _ _ (k4_of k4_t (by first | rfl | decide))
@[simp] theorem s_isiI : fIsi [.dat t, .raw (.ty "int")] S Q ↔ Q (.bl (isInt t)) S := by
  rw [fi_iff]; cases t <;> exact kk _ _ _ (k4_of k4_i (by first | rfl | decide))
@[simp] theorem s_isiB : fIsi [.dat t, .raw (.ty "bool")] S Q ↔ Q (.bl false) S := by
  rw [fi_iff]; cases t <;> exact kk _ _ _ (k4_of k4_b (by first | rfl | decide))
@[simp] theorem s_isiS : fIsi [.dat t, .raw (.ty "str")] S Q ↔ Q (.bl (isTx t)) S := by
  rw [fi_iff]; cases t <;> exact kk _ _ _ (k4_of k4_s (by first | rfl | decide))
@[simp] theorem s_lenT : fLen g [.dat (.tup ts)] S Q ↔ Q (.dat (.num ts.length)) S := Iff.rfl
@[simp] theorem s_lenL {n : Nat} : fLen g [.ref n] S Q ↔ ∃ l, S[n]? = some (.lst l) ∧ Q (.dat (.num l.length)) S := Iff.rfl
@[simp] theorem s_lenR {v : V} : fLen g [.raw v] S Q ↔ v = .ref g.sa ∧ Q (.dat (.num g.ns.length)) S := Iff.rfl
@[simp] theorem s_lenD {n : Nat} : fLenD [.ref n] S Q ↔ ∃ kvs ep, S[n]? = some (.dct kvs ep) ∧ Q (.dat (.num kvs.length)) S := Iff.rfl
@[simp] theorem s_max {n : Nat} : fMax [.ref n] S Q ↔ ∃ ns : List Int, S[n]? = some (.lst (ns.map fun i => .dat (.num i))) ∧ 0 < ns.length ∧ ∀ m, m ∈ ns → (∀ y, y ∈ ns → y ≤ m) → Q (.dat (.num m)) S := Iff.rfl
@[simp] theorem s_int : fInt [.dat (.num i)] S Q ↔ Q (.dat (.num i)) S := Iff.rfl
@[simp] theorem s_tupleOf {n : Nat} : fTupleOf [.ref n] S Q ↔ ∃ ts, S[n]? = some (.lst (ts.map .dat)) ∧ Q (.dat (.tup ts)) S := Iff.rfl
@[simp] theorem s_listOf : fListOf [.dat (.tup ts)] S Q ↔ Q (.ref S.length) (S ++ [.lst (ts.map .dat)]) := Iff.rfl
@[simp] theorem s_listD {n : Nat} : fListD [.ref n] S Q ↔ ∃ kvs ep, S[n]? = some (.dct kvs ep) ∧ Q (.ref S.length) (S ++ [.lst (kvs.map fun p => .dat p.1)]) := Iff.rfl
/-! ## sources -/
variable {Qi : List T → (Sto → Prop) → Sto → Prop}
@[simp] theorem s_iL : iL fa σ S Qi ↔ fa σ S fun d S1 => ∃ n ts, d = .ref n ∧ S1[n]? = some (.lst (ts.map .dat)) ∧ Qi ts (fun S => S[n]? = some (.lst (ts.map .dat))) S1 := Iff.rfl
@[simp] theorem s_iT : iT fa σ S Qi ↔ fa σ S fun d S1 => ∃ ts, d = .dat (.tup ts) ∧ Qi ts (fun _ => True) S1 := Iff.rfl
@[simp] theorem s_iE : iE fa σ S Qi ↔ fa σ S fun d S1 => ∃ ts, d = .dat (.tup ts) ∧ Qi (enumT ts) (fun _ => True) S1 := Iff.rfl
@[simp] theorem s_iRg {f : RgD} : iRg f σ S Qi ↔ f σ S fun i j S1 => smallRg i j ∧ Qi (rgT i j) (fun _ => True) S1 := Iff.rfl
@[simp] theorem s_iKs : iKs fa σ S Qi ↔ fa σ S fun d S1 => ∃ n kvs ep, d = .ref n ∧ S1[n]? = some (.dct kvs ep) ∧ Qi (kvs.map (·.1)) (fun S => S[n]? = some (.dct kvs ep)) S1 := Iff.rfl
@[simp] theorem s_iIs : iIs fa σ S Qi ↔ fa σ S fun d S1 => ∃ (n : Nat) (us : List (T × T)) (ep : Nat), d = .ref n ∧ S1[n]? = some (.dct (us.map fun p => (p.1, D.dat p.2)) ep) ∧ Qi (us.map fun p => .tup [p.1, p.2]) (fun S => S[n]? = some (.dct (us.map fun p => (p.1, .dat p.2)) ep)) S1 := Iff.rfl
theorem s_start {N : List Str} {ds : List D} : startD N ds = ds.map some ++ List.replicate (N.length - ds.length) none := rfl
theorem gcd {S : Sto} {S' : Sto} {Q : DQ} {t : T} (hs : Sco S) (hp : ∃ l, S' = S ++ l) (h : Q (.dat t) S) : gcR S.length Q (.dat t) S' := by
  obtain ⟨l, rfl⟩ := hp; exact gc_dat hs h
theorem gcb {S : Sto} {S' : Sto} {Q : DQ} {b : Bool} (hs : Sco S) (hp : ∃ l, S' = S ++ l) (h : Q (.bl b) S) : gcR S.length Q (.bl b) S' := by
  obtain ⟨l, rfl⟩ := hp; exact gc_bl hs h
theorem gcd0 {S : Sto} {Q : DQ} {t : T} (hs : Sco S) (h : Q (.dat t) S) : gcR S.length Q (.dat t) S := gcd hs ⟨[], by simp⟩ h
theorem gcb0 {S : Sto} {Q : DQ} {b : Bool} (hs : Sco S) (h : Q (.bl b) S) : gcR S.length Q (.bl b) S := gcb hs ⟨[], by simp⟩ h
end

/-! ## loops -/
def ForOk (ts : List T) (ok : Sto → Prop) (tg : TgD) (tb : BD) (D0 : EndsD) (σ : SD) (S : Sto) : Prop := ∃ Pv : Nat → SD → Sto → Prop, Pv 0 σ S ∧ (∀ i σ S, Pv i σ S → ok S) ∧
  (∀ i t σ S, ts[i]? = some t → Pv i σ S → tg t σ fun σ2 => tb { D0 with nx := Pv (i + 1), ct := Pv (i + 1), bk := D0.nx } σ2 S) ∧ ∀ σ S, Pv ts.length σ S → D0.nx σ S
def GenOk (c : Bool) (ts : List T) (ok : Sto → Prop) (tg : TgD) (te : ED) (vs : List Nat) (σ : SD) (S : Sto) (Q : DQ) : Prop := ∃ Pv : Nat → Sto → Prop, Pv 0 S ∧ (∀ i S, Pv i S → ok S) ∧
  (∀ i t S, ts[i]? = some t → Pv i S → tg t (wipeD σ vs) fun σ2 => te σ2 S fun y S2 => ∃ b, y = .bl b ∧ (b = c → Pv (i + 1) S2) ∧ (b ≠ c → Q (.bl (!c)) S2)) ∧ ∀ S, Pv ts.length S → Q (.bl c) S
def LcOk (ts : List T) (ok : Sto → Prop) (tg : TgD) (tt : XD) (te : ED) (vs : List Nat) (σ : SD) (S : Sto) (Q : DQ) : Prop := ∃ Pv : Nat → List D → Sto → Prop, Pv 0 [] S ∧ (∀ i acc S, Pv i acc S → ok S) ∧
  (∀ i t acc S, ts[i]? = some t → Pv i acc S → tg t (wipeD σ vs) fun σ2 => tt σ2 S fun b S2 => match b with
    | true => te σ2 S2 fun y S3 => acc.length < 100000 ∧ Pv (i + 1) (acc ++ [y]) S3
    | false => Pv (i + 1) acc S2) ∧ ∀ acc S, Pv ts.length acc S → Q (.ref S.length) (S ++ [.lst acc])
def Lc2Ok (ts : List T) (ok : Sto → Prop) (tg : TgD) (tt : XD) (fi1 : ID) (tg1 : TgD) (tt1 : XD) (te : ED) (vs vs1 : List Nat) (σ : SD) (S : Sto) (Q : DQ) : Prop := ∃ Pv : Nat → List D → Sto → Prop, Pv 0 [] S ∧ (∀ i acc S, Pv i acc S → ok S) ∧
  (∀ i t acc S, ts[i]? = some t → Pv i acc S → tg t (wipeD σ vs) fun σ2 => tt σ2 S fun b S2 => match b with
    | true => fi1 σ2 S2 fun us ok1 S3 => ∃ Pw : Nat → List D → Sto → Prop, Pw 0 acc S3 ∧ (∀ i acc S, Pw i acc S → ok1 S) ∧
      (∀ j u acc S, us[j]? = some u → Pw j acc S → tg1 u (wipeD σ2 vs1) fun σ3 => tt1 σ3 S fun b S4 => match b with
        | true => te σ3 S4 fun y S5 => acc.length < 100000 ∧ Pw (j + 1) (acc ++ [y]) S5
        | false => Pw (j + 1) acc S4) ∧ ∀ acc S, Pw us.length acc S → Pv (i + 1) acc S
    | false => Pv (i + 1) acc S2) ∧ ∀ acc S, Pv ts.length acc S → Q (.ref S.length) (S ++ [.lst acc])
def WhileOk (c : XD) (tb : BD) (D0 : EndsD) (σ : SD) (S : Sto) : Prop := ∃ Pv : Nat → SD → Sto → Prop, (∃ n, Pv n σ S) ∧ ∀ n σ S, Pv n σ S → c σ S fun b S1 => match b with
  | true => tb { D0 with nx := fun σ S => ∃ k, k < n ∧ Pv k σ S, ct := fun σ S => ∃ k, k < n ∧ Pv k σ S, bk := D0.nx } σ S1
  | false => D0.nx σ S1
section
variable {σ : SD} {S : Sto} {Q : DQ} {te : ED} {tt tt1 : XD} {D0 : EndsD} {ts us : List T} {ok : Sto → Prop} {tg tg1 : TgD} {tb : BD} {fi fi1 : ID} {c : Bool} {vs vs1 : List Nat}
@[simp] theorem s_for : bFor fi tg tb D0 σ S ↔ fi σ S fun ts ok S1 => ForOk ts ok tg tb D0 σ S1 := Iff.rfl
@[simp] theorem s_gen : dGen c fi tg te vs σ S Q ↔ fi σ S fun ts ok S1 => GenOk c ts ok tg te vs σ S1 Q := Iff.rfl
@[simp] theorem s_lc : dLc fi tg tt te vs σ S Q ↔ fi σ S fun ts ok S1 => LcOk ts ok tg tt te vs σ S1 Q := Iff.rfl
@[simp] theorem s_lc2 : dLc2 fi tg tt fi1 tg1 tt1 te vs vs1 σ S Q ↔ fi σ S fun ts ok S1 => Lc2Ok ts ok tg tt fi1 tg1 tt1 te vs vs1 σ S1 Q := Iff.rfl
@[simp] theorem s_while : bWhile tt tb D0 σ S ↔ WhileOk tt tb D0 σ S := Iff.rfl
@[simp] theorem s_gc {f : ED} : dGc f σ S Q ↔ (Sco S → f σ S (gcR S.length Q)) := Iff.rfl
@[simp] theorem s_xgc {f : XD} {Q : Bool → Sto → Prop} : xGc f σ S Q ↔ (Sco S → f σ S fun b S' => ∃ S1, S1 <+: S' ∧ S.length ≤ S1.length ∧ Sco S1 ∧ Q b S1) := Iff.rfl
theorem xgc {S S' : Sto} {Q : Bool → Sto → Prop} {b : Bool} (hs : Sco S) (hp : ∃ l, S' = S ++ l) (h : Q b S) : ∃ S1, S1 <+: S' ∧ S.length ≤ S1.length ∧ Sco S1 ∧ Q b S1 := by
  obtain ⟨l, rfl⟩ := hp
  exact ⟨S, List.prefix_append _ _, Nat.le_refl _, hs, h⟩
@[simp] theorem s_w0 : wipeD σ [] = σ := rfl
@[simp] theorem s_w1 {v : Nat} : wipeD σ (v :: vs) = (wipeD σ vs).set v none := rfl
/-- nothing is written in the loop -/
theorem gen_pure (p : T → Bool) (hok : ok S) (hs : ∀ (t : T) (R : DQ), t ∈ ts → R (.bl (p t)) S → tg t (wipeD σ vs) fun σ2 => te σ2 S R) (h : Q (.bl (if c then ts.all p else ts.any p)) S) : GenOk c ts ok tg te vs σ S Q := by
  refine ⟨fun i S' => S' = S ∧ ∀ t ∈ ts.take i, p t = c, ⟨rfl, by simp⟩, fun i S' e => by rw [e.1]; exact hok, fun i t S' ht ⟨e, hi⟩ => ?_, fun S' ⟨e, hi⟩ => ?_⟩
  · subst e
    refine hs t _ (List.mem_of_getElem? ht) ⟨p t, rfl, fun e => ⟨rfl, fun u hu => ?_⟩, fun e => ?_⟩
    · rw [List.take_add_one, ht] at hu
      rcases List.mem_append.mp hu with hu | hu
      · exact hi u hu
      · simp at hu; subst hu; exact e
    · have hm := List.mem_of_getElem? ht
      cases c with
      | true =>
        have : ts.all p = false := by
          rw [Bool.eq_false_iff]; intro z
          exact e (List.all_eq_true.mp z t hm)
        simpa [this] using h
      | false =>
        have : ts.any p = true := List.any_eq_true.mpr ⟨t, hm, by simpa using e⟩
        simpa [this] using h
  · subst e
    rw [List.take_length] at hi
    cases c with
    | true =>
      have : ts.all p = true := List.all_eq_true.mpr hi
      simpa [this] using h
    | false =>
      have : ts.any p = false := by
        rw [Bool.eq_false_iff]; intro z
        obtain ⟨t, hm, e⟩ := List.any_eq_true.mp z
        rw [hi t hm] at e; cases e
      simpa [this] using h
@[simp] theorem all_tt {α : Type} {l : List α} : (l.all fun _ => true) = true := by simp [List.all_eq_true]
@[simp] theorem any_ff {α : Type} {l : List α} : (l.any fun _ => false) = false := by rw [Bool.eq_false_iff]; simp
theorem lc_pure (p : T → Bool) (f : T → D) (hok : ok S) (hz : ts.length ≤ 100000) (hs : ∀ (t : T) (R1 : DQ) (R0 : Sto → Prop), t ∈ ts → (p t = true → R1 (f t) S) → (p t = false → R0 S) → tg t (wipeD σ vs) fun σ2 => tt σ2 S fun b S2 => match b with | true => te σ2 S2 R1 | false => R0 S2)
    (h : Q (.ref S.length) (S ++ [.lst ((ts.filter p).map f)])) : LcOk ts ok tg tt te vs σ S Q := by
  refine ⟨fun i acc S' => S' = S ∧ acc = ((ts.take i).filter p).map f, ⟨rfl, by simp⟩, fun i acc S' e => by rw [e.1]; exact hok, fun i t acc S' ht ⟨e, hi⟩ => ?_, fun acc S' ⟨e, hi⟩ => ?_⟩
  · subst e
    have hl : acc.length < 100000 := by
      rw [hi, List.length_map]
      have h1 := List.length_filter_le p (ts.take i)
      have h2 := (List.getElem?_eq_some_iff.mp ht).1
      rw [List.length_take] at h1; omega
    refine hs t _ _ (List.mem_of_getElem? ht) (fun e => ⟨hl, rfl, ?_⟩) (fun e => ⟨rfl, ?_⟩)
    · rw [hi, List.take_add_one, ht]; simp [e]
    · rw [hi, List.take_add_one, ht]; simp [e]
  · subst e
    rw [List.take_length] at hi
    rw [hi]; exact h
/-- .. no test -/
theorem lc_map (f : T → D) (hok : ok S) (hz : ts.length ≤ 100000) (hs : ∀ (t : T) (R1 : DQ), t ∈ ts → R1 (f t) S → tg t (wipeD σ vs) fun σ2 => te σ2 S R1) (h : Q (.ref S.length) (S ++ [.lst (ts.map f)])) : LcOk ts ok tg xYes te vs σ S Q :=
  lc_pure (fun _ => true) f hok hz (fun t R1 R0 ht h1 _ => hs t R1 ht (h1 rfl)) (by rw [List.filter_eq_self.mpr fun _ _ => rfl]; exact h)
end
end L2.LL

/-! # LLD1 -/
set_option Elab.async false
set_option linter.all false
set_option maxRecDepth 100000
set_option maxHeartbeats 2000000
namespace L2.LL
open PySem PySem.Spec PyProof.Rows
/-- is_number -/
theorem sc_is_number : FnScope N_is_number P_is_number (defScope s_is_number) := ⟨rfl, rfl, rfl, by decide +kernel, rfl, by decide +kernel, by decide +kernel⟩
def fb_is_number (g : Gp) : BD :=
  (bSeq (bRet (dAnd (dCall fIsi (dCons (dVar 0) (dCons (dC (.raw (.ty "int"))) dNil))) (dAnd (dNot (dCall fIsi (dCons (dVar 0) (dCons (dC (.raw (.ty "bool"))) dNil)))) (dChain opLe opLe (dVar 1) (dVar 0) (dVar 2)))))
    bNext)
theorem dv_is_number {P : Program} {w : World} {K : PySem.W.Frag} {mg : Str → Option Value} {base : Heap} {g : Gp} (t : Tx K mg g) {k : Nat} (A : Around) (outer : List Env) (s : Shared) (H : Hp) (E : XK)
    (hr : Room (k) (A.deeper (envOfC "is_number" (defScope s_is_number) s.heap.objs.size t.f_is_number t.cd_is_number))) : DSs g (cxOf CX0 P w K mg base N_is_number "is_number" (defScope s_is_number) t.f_is_number t.cd_is_number A outer s H E).nox (defBody s_is_number) (fb_is_number g) := by
  have scN : N_is_number.Nodup := sc_is_number.nd
  exact (dss_cons (ds_ret (de_and (de_callB cr_isi rfl t.n_isinstance bt_isinstance (da_cons (de_var 0) (da_cons (de_ty rfl t.n_int bt_int) da_nil))) (de_and (de_not (de_callB cr_isi rfl t.n_isinstance bt_isinstance (da_cons (de_var 0) (da_cons (de_ty rfl t.n_bool bt_bool) da_nil)))) (de_one (de_chain od_le od_le (de_var 1) (de_var 0) (de_var 2))))))
    dss_nil)
/-- need_machine -/
theorem sc_need_machine : FnScope N_need_machine P_need_machine (defScope s_need_machine) := ⟨rfl, rfl, rfl, by decide +kernel, rfl, by decide +kernel, by decide +kernel⟩
def fb_need_machine (g : Gp) : BD :=
  (bSeq (bIf (xOr (xNot (dTruth (dCall fIsi (dCons (dVar 0) (dCons (dC (.raw (.ty "tuple"))) dNil))))) (dTest (dOp opNe (dCall (fLen g) (dCons (dVar 0) dNil)) (dC (.dat (.num 2)))))) (bSeq (bNever)
    bNext) bNext)
    (bSeq (bAsg (dVar 0) (gT 2 (gsCons (gN 1) (gsCons (gN 2) gsNil))))
    (bSeq (bIf (xNot (dTruth (dCall (F_is_number g) (dCons (dVar 1) (dCons (dC (.dat (.num 1))) (dCons (dC (.dat (.num 4))) dNil)))))) (bSeq (bNever)
    bNext) bNext)
    (bSeq (bIf (xOr (xNot (dTruth (dCall fIsi (dCons (dVar 2) (dCons (dC (.raw (.ty "tuple"))) dNil))))) (xNot (dTest (dChain opLe opLe (dC (.dat (.num 1))) (dCall (fLen g) (dCons (dVar 2) dNil)) (dC (.dat (.num 3))))))) (bSeq (bNever)
    bNext) bNext)
    (bSeq (bIf (xNot (dTruth (dGen true (iT (dVar 2)) (gN 3) (dCall (F_is_number g) (dCons (dVar 3) (dCons (dC (.dat (.num 1))) (dCons (dC (.dat (.num 2))) dNil)))) [3]))) (bSeq (bNever)
    bNext) bNext)
    bNext)))))
theorem dv_need_machine {P : Program} {w : World} {K : PySem.W.Frag} {mg : Str → Option Value} {base : Heap} {g : Gp} (t : Tx K mg g) (tb : TxB base mg t) {k : Nat} (G_is_number : FnOk P w K mg base CX0 k t.f_is_number t.fd_is_number P_is_number (spD K w g (F_is_number g))) (A : Around) (outer : List Env) (s : Shared) (H : Hp) (E : XK)
    (hr : Room (k + 1) (A.deeper (envOfC "need_machine" (defScope s_need_machine) s.heap.objs.size t.f_need_machine (.ref t.cc_need_machine)))) : DSs g (cxOf CX0 P w K mg base N_need_machine "need_machine" (defScope s_need_machine) t.f_need_machine (.ref t.cc_need_machine) A outer s H E).nox (defBody s_need_machine) (fb_need_machine g) := by
  have scN : N_need_machine.Nodup := sc_need_machine.nd
  have hr1 := hr.mono (Nat.le_succ k)
  exact (dss_cons (ds_if (dx_bool (dw_or (dx_not (dx_truth (de_callB cr_isi rfl t.n_isinstance bt_isinstance (da_cons (de_var 0) (da_cons (de_ty rfl t.n_tuple bt_tuple) da_nil))))) (dw_or1 (dx_cmp (od_ne (u64 hr)) (de_callB cr_len rfl t.n_len bt_len (da_cons (de_var 0) da_nil)) (de_int))))) (dss_cons (ds_never)
    dss_nil) dss_nil)
    (dss_cons (ds_asg (de_var 0) (dg_t rfl (dgs_cons (dg_n scN (i := 1)) (dgs_cons (dg_n scN (i := 2)) dgs_nil))))
    (dss_cons (ds_if (dx_not (dx_truth (de_call G_is_number hr1 rfl t.m_is_number t.k_is_number t.b_is_number (da_cons (de_var 1) (da_cons (de_int) (da_cons (de_const rfl t.c_MOST_CELLS) da_nil)))))) (dss_cons (ds_never)
    dss_nil) dss_nil)
    (dss_cons (ds_if (dx_bool (dw_or (dx_not (dx_truth (de_callB cr_isi rfl t.n_isinstance bt_isinstance (da_cons (de_var 2) (da_cons (de_ty rfl t.n_tuple bt_tuple) da_nil))))) (dw_or1 (dx_not (dx_chain od_le od_le (de_int) (de_callB cr_len rfl t.n_len bt_len (da_cons (de_var 2) da_nil)) (de_const rfl t.c_MOST_FUNCTIONS)))))) (dss_cons (ds_never)
    dss_nil) dss_nil)
    (dss_cons (ds_if (dx_not (dx_truth (de_all hr rfl (by rfl) t.n_all bt_all (tb.tb_need_machine) (by rfl) t.z_need_machine t.l_need_machine (gsc_by (N := N_need_machine) (sc := defScope s_need_machine) (own := [("reads", 3)]) (by decide +kernel)) scN (di_tup (de_var 2)) (by intro _; rfl) (fun _ _ _ _ _ _ => (dg_n scN (i := 3))) (fun _ _ _ _ _ _ => (de_call G_is_number (room_gx hr) rfl t.m_is_number t.k_is_number t.b_is_number (da_cons (de_var 3) (da_cons (de_int) (da_cons (de_const rfl t.c_MOST_READ) da_nil)))))))) (dss_cons (ds_never)
    dss_nil) dss_nil)
    dss_nil)))))
/-- is_line -/
theorem sc_is_line : FnScope N_is_line P_is_line (defScope s_is_line) := ⟨rfl, rfl, rfl, by decide +kernel, rfl, by decide +kernel, by decide +kernel⟩
def fb_is_line (g : Gp) : BD :=
  (bSeq (bAsg (dVar 0) (gT 2 (gsCons (gN 2) (gsCons (gN 3) gsNil))))
    (bSeq (bIf (xOr (xNot (dTruth (dCall fIsi (dCons (dVar 1) (dCons (dC (.raw (.ty "tuple"))) dNil))))) (xOr (dTest (dOp opNe (dCall (fLen g) (dCons (dVar 1) dNil)) (dC (.dat (.num 3))))) (xNot (dTruth (dCall (F_is_number g) (dCons (dOp (opIx g) (dVar 1) (dC (.dat (.num 0)))) (dCons (dC (.dat (.num 0))) (dCons (dOp opSub (dVar 2) (dC (.dat (.num 1)))) dNil)))))))) (bSeq (bRet (dC (.bl false)))
    bNext) bNext)
    (bSeq (bAsg (dVar 1) (gT 3 (gsCons (gN 4) (gsCons (gN 5) (gsCons (gN 6) gsNil)))))
    (bSeq (bIf (xOr (xNot (dTruth (dCall fIsi (dCons (dVar 6) (dCons (dC (.raw (.ty "tuple"))) dNil))))) (xNot (dTruth (dGen true (iT (dVar 6)) (gN 7) (dCall (F_is_number g) (dCons (dVar 7) (dCons (dC (.dat (.num 0))) (dCons (dOp opSub (dVar 2) (dC (.dat (.num 1)))) dNil)))) [7])))) (bSeq (bRet (dC (.bl false)))
    bNext) bNext)
    (bSeq (bIf (dTest (dOp (opIs false) (dVar 5) (dC (.dat .none)))) (bSeq (bRet (dAnd (dOp opEq (dCall (fLen g) (dCons (dVar 6) dNil)) (dC (.dat (.num 1)))) (dOp opNe (dOp (opIx g) (dVar 6) (dC (.dat (.num 0)))) (dVar 4))))
    bNext) bNext)
    (bSeq (bRet (dAnd (dCall (F_is_number g) (dCons (dVar 5) (dCons (dC (.dat (.num 0))) (dCons (dOp opSub (dCall (fLen g) (dCons (dVar 3) dNil)) (dC (.dat (.num 1)))) dNil)))) (dOp opEq (dCall (fLen g) (dCons (dVar 6) dNil)) (dOp (opIx g) (dVar 3) (dVar 5)))))
    bNext))))))
theorem dv_is_line {P : Program} {w : World} {K : PySem.W.Frag} {mg : Str → Option Value} {base : Heap} {g : Gp} (t : Tx K mg g) (tb : TxB base mg t) {k : Nat} (G_is_number : FnOk P w K mg base CX0 k t.f_is_number t.fd_is_number P_is_number (spD K w g (F_is_number g))) (A : Around) (outer : List Env) (s : Shared) (H : Hp) (E : XK)
    (hr : Room (k + 1) (A.deeper (envOfC "is_line" (defScope s_is_line) s.heap.objs.size t.f_is_line (.ref t.cc_is_line)))) : DSs g (cxOf CX0 P w K mg base N_is_line "is_line" (defScope s_is_line) t.f_is_line (.ref t.cc_is_line) A outer s H E).nox (defBody s_is_line) (fb_is_line g) := by
  have scN : N_is_line.Nodup := sc_is_line.nd
  have hr1 := hr.mono (Nat.le_succ k)
  exact (dss_cons (ds_asg (de_var 0) (dg_t rfl (dgs_cons (dg_n scN (i := 2)) (dgs_cons (dg_n scN (i := 3)) dgs_nil))))
    (dss_cons (ds_if (dx_bool (dw_or (dx_not (dx_truth (de_callB cr_isi rfl t.n_isinstance bt_isinstance (da_cons (de_var 1) (da_cons (de_ty rfl t.n_tuple bt_tuple) da_nil))))) (dw_or (dx_cmp (od_ne (u64 hr)) (de_callB cr_len rfl t.n_len bt_len (da_cons (de_var 1) da_nil)) (de_int)) (dw_or1 (dx_not (dx_truth (de_call G_is_number hr1 rfl t.m_is_number t.k_is_number t.b_is_number (da_cons (de_ix (de_var 1) (de_int) (fun _ _ => rfl)) (da_cons (de_int) (da_cons (de_op od_sub (de_var 2) (de_int)) da_nil)))))))))) (dss_cons (ds_ret (de_bl))
    dss_nil) dss_nil)
    (dss_cons (ds_asg (de_var 1) (dg_t rfl (dgs_cons (dg_n scN (i := 4)) (dgs_cons (dg_n scN (i := 5)) (dgs_cons (dg_n scN (i := 6)) dgs_nil)))))
    (dss_cons (ds_if (dx_bool (dw_or (dx_not (dx_truth (de_callB cr_isi rfl t.n_isinstance bt_isinstance (da_cons (de_var 6) (da_cons (de_ty rfl t.n_tuple bt_tuple) da_nil))))) (dw_or1 (dx_not (dx_truth (de_all hr rfl (by rfl) t.n_all bt_all (tb.tb_is_line) (by rfl) t.z_is_line t.l_is_line (gsc_by (N := N_is_line) (sc := defScope s_is_line) (own := [("source", 7)]) (by decide +kernel)) scN (di_tup (de_var 6)) (by intro _; rfl) (fun _ _ _ _ _ _ => (dg_n scN (i := 7))) (fun _ _ _ _ _ _ => (de_call G_is_number (room_gx hr) rfl t.m_is_number t.k_is_number t.b_is_number (da_cons (de_var 7) (da_cons (de_int) (da_cons (de_op od_sub (de_var 2) (de_int)) da_nil))))))))))) (dss_cons (ds_ret (de_bl))
    dss_nil) dss_nil)
    (dss_cons (ds_if (dx_cmp od_is (de_var 5) (de_non)) (dss_cons (ds_ret (de_and (de_cmp (od_eq (u64 hr)) (de_callB cr_len rfl t.n_len bt_len (da_cons (de_var 6) da_nil)) (de_int)) (de_one (de_cmp (od_ne (u64 hr)) (de_ix (de_var 6) (de_int) (fun _ _ => rfl)) (de_var 4)))))
    dss_nil) dss_nil)
    (dss_cons (ds_ret (de_and (de_call G_is_number hr1 rfl t.m_is_number t.k_is_number t.b_is_number (da_cons (de_var 5) (da_cons (de_int) (da_cons (de_op od_sub (de_callB cr_len rfl t.n_len bt_len (da_cons (de_var 3) da_nil)) (de_int)) da_nil)))) (de_one (de_cmp (od_eq (u64 hr)) (de_callB cr_len rfl t.n_len bt_len (da_cons (de_var 6) da_nil)) (de_ix (de_var 3) (de_var 5) (fun _ _ => rfl))))))
    dss_nil))))))
/-- need_program -/
theorem sc_need_program : FnScope N_need_program P_need_program (defScope s_need_program) := ⟨rfl, rfl, rfl, by decide +kernel, rfl, by decide +kernel, by decide +kernel⟩
def fb_need_program (g : Gp) : BD :=
  (bSeq (bIf (xOr (xNot (dTruth (dCall fIsi (dCons (dVar 1) (dCons (dC (.raw (.ty "tuple"))) dNil))))) (dTest (dOp opGt (dCall (fLen g) (dCons (dVar 1) dNil)) (dC (.dat (.num 60)))))) (bSeq (bNever)
    bNext) bNext)
    (bSeq (bFor (iE (dVar 1)) (gT 2 (gsCons (gN 2) (gsCons (gN 3) gsNil))) (bSeq (bIf (xNot (dTruth (dCall (F_is_line g) (dCons (dVar 0) (dCons (dVar 3) dNil))))) (bSeq (bNever)
    bNext) bNext)
    bNext))
    bNext))
theorem dv_need_program {P : Program} {w : World} {K : PySem.W.Frag} {mg : Str → Option Value} {base : Heap} {g : Gp} (t : Tx K mg g) {k : Nat} (G_is_line : FnOk P w K mg base CX0 k t.f_is_line t.fd_is_line P_is_line (spD K w g (F_is_line g))) (A : Around) (outer : List Env) (s : Shared) (H : Hp) (E : XK)
    (hr : Room (k) (A.deeper (envOfC "need_program" (defScope s_need_program) s.heap.objs.size t.f_need_program t.cd_need_program))) : DSs g (cxOf CX0 P w K mg base N_need_program "need_program" (defScope s_need_program) t.f_need_program t.cd_need_program A outer s H E).nox (defBody s_need_program) (fb_need_program g) := by
  have scN : N_need_program.Nodup := sc_need_program.nd
  exact (dss_cons (ds_if (dx_bool (dw_or (dx_not (dx_truth (de_callB cr_isi rfl t.n_isinstance bt_isinstance (da_cons (de_var 1) (da_cons (de_ty rfl t.n_tuple bt_tuple) da_nil))))) (dw_or1 (dx_cmp od_gt (de_callB cr_len rfl t.n_len bt_len (da_cons (de_var 1) da_nil)) (de_const rfl t.c_MOST_LINES))))) (dss_cons (ds_never)
    dss_nil) dss_nil)
    (dss_cons (ds_for PassesOwn.never rfl (di_enum rfl t.n_enumerate (de_var 1)) (dg_t rfl (dgs_cons (dg_n scN (i := 2)) (dgs_cons (dg_n scN (i := 3)) dgs_nil))) (dss_cons (ds_if (dx_not (dx_truth (de_call G_is_line hr rfl t.m_is_line t.k_is_line t.b_is_line (da_cons (de_var 0) (da_cons (de_var 3) da_nil))))) (dss_cons (ds_never)
    dss_nil) dss_nil)
    dss_nil))
    dss_nil))
/-- is_soft -/
theorem sc_is_soft : FnScope N_is_soft P_is_soft (defScope s_is_soft) := ⟨rfl, rfl, rfl, by decide +kernel, rfl, by decide +kernel, by decide +kernel⟩
def fb_is_soft (g : Gp) : BD :=
  (bSeq (bRet (dOp (opInB true) (dOp (opIx g) (dVar 0) (dC (.dat (.num 0)))) (dOp (opIx g) (dVar 0) (dC (.dat (.num 2))))))
    bNext)
theorem dv_is_soft {P : Program} {w : World} {K : PySem.W.Frag} {mg : Str → Option Value} {base : Heap} {g : Gp} (t : Tx K mg g) {k : Nat} (A : Around) (outer : List Env) (s : Shared) (H : Hp) (E : XK)
    (hr : Room (k) (A.deeper (envOfC "is_soft" (defScope s_is_soft) s.heap.objs.size t.f_is_soft t.cd_is_soft))) : DSs g (cxOf CX0 P w K mg base N_is_soft "is_soft" (defScope s_is_soft) t.f_is_soft t.cd_is_soft A outer s H E).nox (defBody s_is_soft) (fb_is_soft g) := by
  have scN : N_is_soft.Nodup := sc_is_soft.nd
  exact (dss_cons (ds_ret (de_cmp (od_notin (u65 hr)) (de_ix (de_var 0) (de_int) (fun _ _ => rfl)) (de_ix (de_var 0) (de_int) (fun _ _ => rfl))))
    dss_nil)
/-- depth -/
theorem sc_depth : FnScope N_depth P_depth (defScope s_depth) := ⟨rfl, rfl, rfl, by decide +kernel, rfl, by decide +kernel, by decide +kernel⟩
def fb_depth (g : Gp) (FR : FD) : BD :=
  (bSeq (bRet (dIf (dTruth (dCall fIsi (dCons (dVar 0) (dCons (dC (.raw (.ty "tuple"))) dNil)))) (dOp opAdd (dC (.dat (.num 1))) (dGc (dCall fMax (dCons (dLc (iT (dCut (dVar 0) (oAt (dC (.dat (.num 1)))) oNo)) (gN 1) xYes (dCall FR (dCons (dVar 1) dNil)) [1]) dNil)))) (dC (.dat (.num 1)))))
    bNext)
theorem dv_depth {P : Program} {w : World} {K : PySem.W.Frag} {mg : Str → Option Value} {base : Heap} {g : Gp} {FR : FD} (t : Tx K mg g) {k : Nat} (G_depth : FnOk P w K mg base CX0 k t.f_depth t.fd_depth P_depth (spD K w g FR)) (A : Around) (outer : List Env) (s : Shared) (H : Hp) (E : XK)
    (hr : Room (k) (A.deeper (envOfC "depth" (defScope s_depth) s.heap.objs.size t.f_depth t.cd_depth))) : DSs g (cxOf CX0 P w K mg base N_depth "depth" (defScope s_depth) t.f_depth t.cd_depth A outer s H E).nox (defBody s_depth) (fb_depth g FR) := by
  have scN : N_depth.Nodup := sc_depth.nd
  exact (dss_cons (ds_ret (de_if (dx_truth (de_callB cr_isi rfl t.n_isinstance bt_isinstance (da_cons (de_var 0) (da_cons (de_ty rfl t.n_tuple bt_tuple) da_nil)))) (de_op od_add (de_int) (de_gc (de_callB (cr_maxD' rfl) rfl t.n_max bt_max (da_cons (de_lc rfl scN  (di_tup (de_cut (de_var 0) (do_some (de_int)) do_none)) (blkOk_by (N := N_depth) (sc := defScope s_depth) (own := [("part", 1)]) (by decide +kernel)) (fun _ _ _ _ _ => (dg_n scN (i := 1))) (fun _ _ _ _ _ => dts_nil) (fun _ _ _ _ _ => (de_call G_depth hr rfl t.m_depth t.k_depth t.b_depth (da_cons (de_var 1) da_nil)))) da_nil)))) (de_int)))
    dss_nil)
end L2.LL

/-! # LLW1 -/
set_option Elab.async false
set_option linter.all false
set_option maxRecDepth 100000
set_option maxHeartbeats 2000000
namespace L2.LL
open PySem PySem.Spec PyProof.Rows
abbrev EndG (S : Sto) (Q : DQ) : EndsD := { nx := fun _ S' => gcR S.length Q (.dat .none) S', rt := gcR S.length Q }
@[simp] theorem c_is_number {g : Gp} {v : T} {lo hi : Int} {S : Sto} {Q : DQ} : F_is_number g [.dat v, .dat (.num lo), .dat (.num hi)] S Q ↔ Q (.bl (isNum v lo hi)) S := Iff.rfl
@[simp] theorem isNum_n {i lo hi : Int} : isNum (.num i) lo hi = (decide (lo ≤ i) && decide (i ≤ hi)) := rfl
@[simp] theorem s_shn {i : Int} : Shal (.num i) := rfl
@[simp] theorem s_sh0 : Shal .none := rfl
@[simp] theorem s_shx {x : Str} (h : PyData.canLay0 (.str x) = true) : Shal (.text x) := by unfold Shal SeqAt.shaped; simp [NestedKey.data, h, PyData.depth]
theorem w_is_number {g : Gp} : ∀ ds S Q, Sco S → F_is_number g ds S Q → fb_is_number g (EndG S Q) (startD N_is_number ds) S := by
  intro ds S Q hs h
  unfold F_is_number at h
  split at h
  · rename_i v lo hi
    unfold fb_is_number
    simp [s_start]
    cases v with
    | num i =>
      by_cases h1 : lo ≤ i <;> simp [isNum, h1] at h ⊢ <;> exact gcb0 hs h
    | _ => simp [isInt, isNum] at h ⊢; exact gcb0 hs h
  · exact h.elim
theorem w_need_machine {g : Gp} : ∀ ds S Q, Sco S → F_need_machine g ds S Q → fb_need_machine g (EndG S Q) (startD N_need_machine ds) S := by
  intro ds S Q hs h
  unfold F_need_machine at h
  split at h
  · obtain ⟨M, rfl, hM, h⟩ := h
    unfold fb_need_machine
    have h1 : (1 : Int) ≤ M.n := by have := hM.n1; omega
    have h2 : (M.n : Int) ≤ 4 := by have := hM.n3; omega
    have h3 : (1 : Int) ≤ M.fs.length := by have := hM.f1; omega
    have h4 : (M.fs.length : Int) ≤ 3 := by have := hM.f2; omega
    simp [s_start, h1, h2, h3, h4]
    refine gen_pure (fun _ => true) (by trivial) (fun t R ht hR => ?_) ?_
    · obtain ⟨r, hr, rfl⟩ := List.mem_map.mp ht
      have : (1 : Int) ≤ r ∧ (r : Int) ≤ 2 := by rcases hM.rd r hr with e | e <;> omega
      simpa [this] using hR
    · simp; exact gcd0 hs h
  · exact h.elim
theorem w_is_line {g : Gp} : ∀ ds S Q, Sco S → F_is_line g ds S Q → fb_is_line g (EndG S Q) (startD N_is_line ds) S := by
  intro ds S Q hs h
  unfold F_is_line at h
  split at h
  · obtain ⟨M, l, rfl, rfl, hM, hl, h⟩ := h
    unfold fb_is_line
    have h1 : (l.c : Int) ≤ M.n - 1 := by have := hl.c; omega
    simp [s_start, h1]
    refine gen_pure (fun _ => true) (by trivial) (fun t R ht hR => ?_) ?_
    · obtain ⟨r, hr, rfl⟩ := List.mem_map.mp ht
      have : (r : Int) ≤ M.n - 1 := by have := hl.src r hr; omega
      simpa [this] using hR
    · simp
      rcases hl.fn with ⟨e, s, e2, e3⟩ | ⟨i, e, e2⟩
      · have : ¬ ((s : Int) = l.c) := by omega
        simp [e, e2, fT, this]; exact gcb0 hs h
      · have hi : (i : Int) ≤ M.fs.length - 1 := by have := (List.getElem?_eq_some_iff.mp e2).1; omega
        simp [e, fT, hi, e2]; exact gcb0 hs h
  · exact h.elim
theorem enumT_get {ts : List T} {i : Nat} {t : T} (h : (enumT ts)[i]? = some t) : ∃ u, ts[i]? = some u ∧ t = .tup [nT i, u] := by
  unfold enumT at h
  rw [List.getElem?_mapIdx, Option.map_eq_some_iff] at h
  obtain ⟨u, e, r⟩ := h
  exact ⟨u, e, r.symm⟩
theorem w_need_program {g : Gp} : ∀ ds S Q, Sco S → F_need_program g ds S Q → fb_need_program g (EndG S Q) (startD N_need_program ds) S := by
  intro ds S Q hs h
  unfold F_need_program at h
  split at h
  · obtain ⟨M, p, rfl, rfl, hM, hp, h⟩ := h
    unfold fb_need_program
    have h1 : ¬ (60 : Int) < p.length := by have := hp.1; omega
    simp [s_start, h1]
    refine ⟨fun i σ S' => S' = S ∧ ∃ x y, σ = [some (.dat M.t), some (.dat (prT p)), x, y], ⟨rfl, _, _, rfl⟩, fun _ _ _ _ => trivial, fun i t σ S' ht ⟨e, x, y, e2⟩ => ?_, fun σ S' ⟨e, x, y, e2⟩ => ?_⟩
    · subst e; subst e2
      obtain ⟨u, hu, rfl⟩ := enumT_get ht
      rw [List.getElem?_map, Option.map_eq_some_iff] at hu
      obtain ⟨l, hl, rfl⟩ := hu
      simp
      exact ⟨M, l, rfl, rfl, hM, hp.2 l (List.mem_of_getElem? hl), by simp⟩
    · subst e; simp; exact gcd0 hs h
  · exact h.elim
theorem w_is_soft {g : Gp} : ∀ ds S Q, Sco S → F_is_soft g ds S Q → fb_is_soft g (EndG S Q) (startD N_is_soft ds) S := by
  intro ds S Q hs h
  unfold F_is_soft at h
  split at h
  · obtain ⟨l, rfl, h⟩ := h
    unfold fb_is_soft
    simp [s_start]
    have h1 : noTxs (nTs l.src) = true := by
      induction l.src with
      | nil => rfl
      | cons a b ih => simpa [noTxs, noTx] using ih
    have e : (decide (∃ a, a ∈ l.src ∧ (a : Int) = l.c)) = decide (l.c ∈ l.src) := by
      apply decide_eq_decide.mpr
      constructor
      · rintro ⟨a, ha, e⟩; have : a = l.c := by omega
        subst this; exact ha
      · exact fun h => ⟨_, h, rfl⟩
    have := gcb0 hs h
    unfold soft at this
    simpa [e, h1] using this
  · exact h.elim
end L2.LL

/-! # LLPureL -/
set_option Elab.async false
set_option linter.all false
set_option maxRecDepth 100000
set_option maxHeartbeats 2000000
namespace L2.LL
open PySem PySem.Spec PyProof.Rows

theorem depthAll_le {ts : List T} {d : Nat} : NestedKey.depthAll ts ≤ d ↔ ∀ t ∈ ts, t.depth ≤ d := by
  induction ts with
  | nil => simp [NestedKey.depthAll]
  | cons t ts ih => simp [NestedKey.depthAll, Nat.max_le, ih]
theorem depth_tup {ts : List T} : (NestedKey.tup ts).depth = NestedKey.depthAll ts + 1 := by rw [NestedKey.depth]
@[simp] theorem depth_num {i : Int} : (NestedKey.num i).depth = 0 := by rw [NestedKey.depth]
@[simp] theorem depth_non : (NestedKey.none).depth = 0 := by rw [NestedKey.depth]
@[simp] theorem depthAll_cons {t : T} {ts : List T} : NestedKey.depthAll (t :: ts) = max t.depth (NestedKey.depthAll ts) := by rw [NestedKey.depthAll]
@[simp] theorem depthAll_nil : NestedKey.depthAll [] = 0 := by rw [NestedKey.depthAll]
theorem noTxs_iff {ts : List T} : noTxs ts = true ↔ ∀ t ∈ ts, noTx t = true := by
  induction ts with
  | nil => simp [noTxs]
  | cons t ts ih => simp [noTxs, ih]
theorem noTx_tup {ts : List T} : noTx (.tup ts) = noTxs ts := by rw [noTx]
@[simp] theorem noTx_num {i : Int} : noTx (.num i) = true := by rw [noTx]
@[simp] theorem noTx_non : noTx .none = true := by rw [noTx]
@[simp] theorem noText_tup {ts : List T} : noText (.tup ts) = true := rfl
@[simp] theorem noText_num {i : Int} : noText (.num i) = true := rfl
theorem nTs_noTx {l : List Nat} : noTxs (nTs l) = true := by
  rw [noTxs_iff]; intro t ht; obtain ⟨i, _, rfl⟩ := List.mem_map.mp ht; simp
theorem nTs_depth {l : List Nat} : NestedKey.depthAll (nTs l) = 0 := by
  have := (depthAll_le (ts := nTs l) (d := 0)).mpr (fun t ht => by obtain ⟨i, _, rfl⟩ := List.mem_map.mp ht; simp)
  omega
theorem fT_noTx {f : Option Nat} : noTx (fT f) = true := by cases f <;> simp [fT]
theorem fT_depth {f : Option Nat} : (fT f).depth = 0 := by cases f <;> simp [fT]
section
variable {M : Mac} {t : T} {ts h : List T} {l : Ln} {d : Nat}
theorem WT.noTx (w : WT M t) : noTx t = true := by
  induction w with
  | leaf _ => simp
  | tup _ _ ih => rw [noTx_tup]; simp only [noTxs, noTx_num, Bool.true_and]; exact noTxs_iff.mpr ih
theorem WT.noText (w : WT M t) : noText t = true := by cases w <;> rfl
theorem WT.key (w : WT M t) (hd : t.depth ≤ 8) : keyOk t := ⟨hd, w.noText⟩
theorem WT.shal (w : WT M t) (hd : t.depth ≤ 60) : Shal t := shal_of w.noTx hd
theorem WT.args {f : T} (w : WT M (.tup (f :: ts))) : ∃ i : Nat, f = nT i ∧ M.fs[i]? = some ts.length ∧ ∀ t ∈ ts, WT M t := by
  generalize e : NestedKey.tup (f :: ts) = u at w
  cases w with
  | leaf _ => cases e
  | tup a b => cases e; exact ⟨_, rfl, a, b⟩
theorem WT.cases (hM : M.Ok) (w : WT M t) : (∃ i : Nat, t = nT i ∧ i < M.n) ∨ ∃ (i : Nat) (ts : List T), t = .tup (nT i :: ts) ∧ M.fs[i]? = some ts.length ∧ (∀ t ∈ ts, WT M t) ∧ ts ≠ [] := by
  cases w with
  | leaf h => exact .inl ⟨_, rfl, h⟩
  | tup a b =>
    refine .inr ⟨_, _, rfl, a, b, fun e => ?_⟩
    subst e
    rcases hM.rd _ (List.mem_of_getElem? a) with h | h <;> simp at h
theorem WT.isTup_leaf {i : Nat} : isTup (nT i) = false := rfl
theorem arg_depth (ht : ∀ t ∈ ts, t.depth ≤ d) : (NestedKey.tup (nT i :: ts)).depth ≤ d + 1 := by
  rw [depth_tup]
  have := depthAll_le.mpr ht
  simp; omega
theorem HT.mono {e : Nat} (H : HT M d h) (hd : d ≤ e) : HT M e h := ⟨H.len, fun t ht => ⟨(H.wt t ht).1, by have := (H.wt t ht).2; omega⟩⟩
theorem HT.get (H : HT M d h) {i : Nat} (hi : i < M.n) : ∃ t, h[i]? = some t ∧ WT M t ∧ t.depth ≤ d := by
  have hl : i < h.length := by rw [H.len]; exact hi
  exact ⟨h[i], List.getElem?_eq_getElem hl, H.wt _ (List.getElem_mem hl)⟩
theorem HT.getD (H : HT M d h) {i : Nat} (hi : i < M.n) : WT M (h[i]?.getD .none) ∧ (h[i]?.getD .none).depth ≤ d := by
  obtain ⟨t, e, w⟩ := H.get hi
  rw [e]; exact w
theorem val_wt (H : HT M d h) (hl : l.Ok M) : WT M (val h l) ∧ (val h l).depth ≤ d + 1 := by
  unfold val
  rcases hl.fn with ⟨e, s, e2, e3⟩ | ⟨i, e, e2⟩
  · rw [e, e2]
    have := H.getD (hl.src s (by simp [e2]))
    exact ⟨this.1, Nat.le_succ_of_le this.2⟩
  · rw [e]
    refine ⟨.tup (by rw [List.length_map]; exact e2) ?_, arg_depth ?_⟩
    · intro t ht; obtain ⟨s, hs, rfl⟩ := List.mem_map.mp ht; exact (H.getD (hl.src s hs)).1
    · intro t ht; obtain ⟨s, hs, rfl⟩ := List.mem_map.mp ht; exact (H.getD (hl.src s hs)).2
theorem did_length : (did h l).length = h.length := by unfold did; simp
theorem did_ht (H : HT M d h) (hl : l.Ok M) (hd : (val h l).depth ≤ d) : HT M d (did h l) := by
  refine ⟨by rw [did_length]; exact H.len, fun t ht => ?_⟩
  rcases List.mem_or_eq_of_mem_set ht with ht | rfl
  · exact H.wt t ht
  · exact ⟨(val_wt H hl).1, hd⟩
theorem firsts_ht : HT M 0 (firsts M.n) := by
  refine ⟨by simp [firsts], fun t ht => ?_⟩
  obtain ⟨i, hi, rfl⟩ := List.mem_map.mp ht
  exact ⟨.leaf (List.mem_range.mp hi), by simp⟩
theorem HT.noTxs (H : HT M d h) : noTxs h = true := noTxs_iff.mpr fun t ht => (H.wt t ht).1.noTx
theorem HT.depth (H : HT M d h) : (NestedKey.tup h).depth ≤ d + 1 := by
  rw [depth_tup]; have := depthAll_le.mpr fun t ht => (H.wt t ht).2; omega
theorem HT.key (H : HT M d h) (hd : d ≤ 7) : keyOk (.tup h) := ⟨by have := H.depth; omega, rfl⟩
theorem ln_noTx : noTx l.t = true := by
  rw [noTx_tup, noTxs_iff]; intro t ht
  simp at ht
  rcases ht with rfl | rfl | rfl
  · simp
  · exact fT_noTx
  · rw [noTx_tup]; exact nTs_noTx
theorem ln_depth : l.t.depth = 2 := by simp [depth_tup, fT_depth, nTs_depth]
end
/-! ## slices -/
section
variable {α : Type} {l : List α} {k : Nat}
theorem cut_from : cutA l (some (k : Int)) none = l.drop k := by
  unfold cutA
  rw [HT.sIx_nat, HT.sIx_none]
  by_cases h : k ≤ l.length
  · rw [Nat.min_eq_left h, List.take_of_length_le (by simp)]
  · rw [Nat.min_eq_right (by omega), List.drop_of_length_le (Nat.le_refl _), List.drop_of_length_le (by omega)]; simp
theorem cut_to : cutA l none (some (k : Int)) = l.take k := by
  unfold cutA
  rw [HT.sIx_nat, HT.sIx_none]
  simp [List.take_eq_take_min]
@[simp] theorem cut_1 {x : α} : cutA (x :: l) (some 1) none = l := cut_from (k := 1) (l := x :: l)
theorem set_cut {x : α} (h : k < l.length) : cutA l none (some (k : Int)) ++ [x] ++ cutA l (some ((k : Int) + 1)) none = l.set k x := by
  have e : ((k : Int) + 1) = ((k + 1 : Nat) : Int) := by omega
  rw [e, cut_to, cut_from, List.set_eq_take_append_cons_drop, if_pos h]; simp
theorem cut_len {a b : Option Int} : (cutA l a b).length ≤ l.length := by
  unfold cutA; simp; omega
end
theorem rg_firsts {n : Nat} : rgT 0 n = firsts n := by
  unfold rgT firsts
  have : ((n : Int) - 0).toNat = n := by omega
  rw [this]
  refine List.map_congr_left fun i _ => ?_
  show NestedKey.num (0 + (i : Int)) = NestedKey.num i
  rw [Int.zero_add]
theorem pre_app {α : Type} {S S' l : List α} (h : S <+: S') : S <+: S' ++ l := h.trans (List.prefix_append _ _)
theorem pre_set {α : Type} {S S' : List α} {n : Nat} {x : α} (h : S <+: S') (hn : S.length ≤ n) : S <+: S'.set n x := by
  obtain ⟨z, rfl⟩ := h
  exact ⟨z.set (n - S.length) x, by rw [List.set_append_right _ _ hn]⟩
theorem pre_ex {α : Type} {S S' : List α} (h : S <+: S') : ∃ l, S' = S ++ l := let ⟨l, e⟩ := h; ⟨l, e.symm⟩
theorem pre_get {α : Type} {S S' : List α} (h : S <+: S') {n : Nat} {x : α} (e : S[n]? = some x) : S'[n]? = some x := by
  obtain ⟨z, rfl⟩ := h
  rw [List.getElem?_append_left (List.getElem?_eq_some_iff.mp e).1]; exact e
theorem val_set {M : Mac} {h : List T} {l : Ln} {x : T} (hl : l.Ok M) (hs : soft l = true) : val (h.set l.c x) l = val h l := by
  have hs' : ¬ l.c ∈ l.src := by simpa [soft] using hs
  unfold val
  rcases hl.fn with ⟨e, s, e2, e3⟩ | ⟨i, e, e2⟩
  · rw [e, e2]
    simp only [List.head?_cons, Option.getD_some]
    rw [List.getElem?_set_ne (Ne.symm e3)]
  · rw [e]
    simp only
    congr 2
    refine List.map_congr_left fun s hs2 => ?_
    rw [List.getElem?_set_ne (fun z : l.c = s => hs' (by rw [z]; exact hs2))]
theorem did_did {M : Mac} {h : List T} {l : Ln} (hl : l.Ok M) (hs : soft l = true) : did (did h l) l = did h l := by
  show (did h l).set l.c (val (did h l) l) = did h l
  have : val (did h l) l = val h l := val_set hl hs
  rw [this]
  unfold did
  rw [List.set_set]
theorem run_succ {h : List T} {P : List Ln} {i : Nat} {l : Ln} (e : P[i]? = some l) : run h (P.take (i + 1)) = did (run h (P.take i)) l := by
  unfold run
  rw [List.take_add_one, e, List.foldl_append]; rfl
theorem run_length {h : List T} {P : List Ln} : (run h P).length = h.length := by
  unfold run
  induction P generalizing h with
  | nil => rfl
  | cons l P ih => rw [List.foldl_cons, ih, did_length]
theorem tame_vd {M : Mac} {d : Nat} {P : List Ln} (t : Tame M d P) (hP : LnsOk M P) {i : Nat} {l : Ln} (e : P[i]? = some l) : (val (run (firsts M.n) (P.take i)) l).depth ≤ d := by
  have H := t (i + 1)
  rw [run_succ e] at H
  have hc : l.c < (run (firsts M.n) (P.take i)).length := by rw [(t i).len]; exact (hP l (List.mem_of_getElem? e)).c
  exact (H.wt _ (by unfold did; exact List.mem_set hc _)).2
end L2.LL

/-! # LLD2 -/
set_option Elab.async false
set_option linter.all false
set_option maxRecDepth 100000
set_option maxHeartbeats 2000000
namespace L2.LL
open PySem PySem.Spec PyProof.Rows
/-- is_term -/
theorem sc_is_term : FnScope N_is_term P_is_term (defScope s_is_term) := ⟨rfl, rfl, rfl, by decide +kernel, rfl, by decide +kernel, by decide +kernel⟩
def fb_is_term (g : Gp) (FR : FD) : BD :=
  (bSeq (bAsg (dVar 0) (gT 2 (gsCons (gN 3) (gsCons (gN 4) gsNil))))
    (bSeq (bIf (xNot (dTruth (dCall fIsi (dCons (dVar 1) (dCons (dC (.raw (.ty "tuple"))) dNil))))) (bSeq (bRet (dCall (F_is_number g) (dCons (dVar 1) (dCons (dC (.dat (.num 0))) (dCons (dOp opSub (dVar 3) (dC (.dat (.num 1)))) dNil)))))
    bNext) bNext)
    (bSeq (bIf (xOr (dTest (dOp opLt (dVar 2) (dC (.dat (.num 2))))) (xOr (xNot (dTruth (dVar 1))) (xNot (dTruth (dCall (F_is_number g) (dCons (dOp (opIx g) (dVar 1) (dC (.dat (.num 0)))) (dCons (dC (.dat (.num 0))) (dCons (dOp opSub (dCall (fLen g) (dCons (dVar 4) dNil)) (dC (.dat (.num 1)))) dNil)))))))) (bSeq (bRet (dC (.bl false)))
    bNext) bNext)
    (bSeq (bIf (dTest (dOp opNe (dCall (fLen g) (dCons (dVar 1) dNil)) (dOp opAdd (dC (.dat (.num 1))) (dOp (opIx g) (dVar 4) (dOp (opIx g) (dVar 1) (dC (.dat (.num 0)))))))) (bSeq (bRet (dC (.bl false)))
    bNext) bNext)
    (bSeq (bRet (dGen true (iT (dCut (dVar 1) (oAt (dC (.dat (.num 1)))) oNo)) (gN 5) (dCall FR (dCons (dVar 0) (dCons (dVar 5) (dCons (dOp opSub (dVar 2) (dC (.dat (.num 1)))) dNil)))) [5]))
    bNext)))))
theorem dv_is_term {P : Program} {w : World} {K : PySem.W.Frag} {mg : Str → Option Value} {base : Heap} {g : Gp} {FR : FD} (t : Tx K mg g) (tb : TxB base mg t) {k : Nat} (G_is_number : FnOk P w K mg base CX0 k t.f_is_number t.fd_is_number P_is_number (spD K w g (F_is_number g))) (G_is_term : FnOk P w K mg base CX0 k t.f_is_term t.fd_is_term P_is_term (spD K w g FR)) (A : Around) (outer : List Env) (s : Shared) (H : Hp) (E : XK)
    (hr : Room (k + 1) (A.deeper (envOfC "is_term" (defScope s_is_term) s.heap.objs.size t.f_is_term (.ref t.cc_is_term)))) : DSs g (cxOf CX0 P w K mg base N_is_term "is_term" (defScope s_is_term) t.f_is_term (.ref t.cc_is_term) A outer s H E).nox (defBody s_is_term) (fb_is_term g FR) := by
  have scN : N_is_term.Nodup := sc_is_term.nd
  have hr1 := hr.mono (Nat.le_succ k)
  exact (dss_cons (ds_asg (de_var 0) (dg_t rfl (dgs_cons (dg_n scN (i := 3)) (dgs_cons (dg_n scN (i := 4)) dgs_nil))))
    (dss_cons (ds_if (dx_not (dx_truth (de_callB cr_isi rfl t.n_isinstance bt_isinstance (da_cons (de_var 1) (da_cons (de_ty rfl t.n_tuple bt_tuple) da_nil))))) (dss_cons (ds_ret (de_call G_is_number hr1 rfl t.m_is_number t.k_is_number t.b_is_number (da_cons (de_var 1) (da_cons (de_int) (da_cons (de_op od_sub (de_var 3) (de_int)) da_nil)))))
    dss_nil) dss_nil)
    (dss_cons (ds_if (dx_bool (dw_or (dx_cmp od_lt (de_var 2) (de_int)) (dw_or (dx_not (dx_truth (de_var 1))) (dw_or1 (dx_not (dx_truth (de_call G_is_number hr1 rfl t.m_is_number t.k_is_number t.b_is_number (da_cons (de_ix (de_var 1) (de_int) (fun _ _ => rfl)) (da_cons (de_int) (da_cons (de_op od_sub (de_callB cr_len rfl t.n_len bt_len (da_cons (de_var 4) da_nil)) (de_int)) da_nil)))))))))) (dss_cons (ds_ret (de_bl))
    dss_nil) dss_nil)
    (dss_cons (ds_if (dx_cmp (od_ne (u64 hr)) (de_callB cr_len rfl t.n_len bt_len (da_cons (de_var 1) da_nil)) (de_op od_add (de_int) (de_ix (de_var 4) (de_ix (de_var 1) (de_int) (fun _ _ => rfl)) (fun _ _ => rfl)))) (dss_cons (ds_ret (de_bl))
    dss_nil) dss_nil)
    (dss_cons (ds_ret (de_all hr rfl (by rfl) t.n_all bt_all (tb.tb_is_term) (by rfl) t.z_is_term t.l_is_term (gsc_by (N := N_is_term) (sc := defScope s_is_term) (own := [("part", 5)]) (by decide +kernel)) scN (di_tup (de_cut (de_var 1) (do_some (de_int)) do_none)) (by intro _; rfl) (fun _ _ _ _ _ _ => (dg_n scN (i := 5))) (fun _ _ _ _ _ _ => (de_call G_is_term (room_gx hr) rfl t.m_is_term t.k_is_term t.b_is_term (da_cons (de_var 0) (da_cons (de_var 5) (da_cons (de_op od_sub (de_var 2) (de_int)) da_nil)))))))
    dss_nil)))))
/-- first_terms -/
theorem sc_first_terms : FnScope N_first_terms P_first_terms (defScope s_first_terms) := ⟨rfl, rfl, rfl, by decide +kernel, rfl, by decide +kernel, by decide +kernel⟩
def fb_first_terms (g : Gp) : BD :=
  (bSeq (bRet (dTupRg (rg1 (dOp (opIx g) (dVar 0) (dC (.dat (.num 0)))))))
    bNext)
theorem dv_first_terms {P : Program} {w : World} {K : PySem.W.Frag} {mg : Str → Option Value} {base : Heap} {g : Gp} (t : Tx K mg g) {k : Nat} (A : Around) (outer : List Env) (s : Shared) (H : Hp) (E : XK)
    (hr : Room (k) (A.deeper (envOfC "first_terms" (defScope s_first_terms) s.heap.objs.size t.f_first_terms t.cd_first_terms))) : DSs g (cxOf CX0 P w K mg base N_first_terms "first_terms" (defScope s_first_terms) t.f_first_terms t.cd_first_terms A outer s H E).nox (defBody s_first_terms) (fb_first_terms g) := by
  have scN : N_first_terms.Nodup := sc_first_terms.nd
  exact (dss_cons (ds_ret (de_tupRg rfl rfl t.n_tuple (drg_1 rfl t.n_range (de_ix (de_var 0) (de_int) (fun _ _ => rfl)))))
    dss_nil)
/-- done -/
theorem sc_done : FnScope N_done P_done (defScope s_done) := ⟨rfl, rfl, rfl, by decide +kernel, rfl, by decide +kernel, by decide +kernel⟩
def fb_done (g : Gp) : BD :=
  (bSeq (bAsg (dVar 1) (gT 3 (gsCons (gN 2) (gsCons (gN 3) (gsCons (gN 4) gsNil)))))
    (bSeq (bIf (dTest (dOp (opIs false) (dVar 3) (dC (.dat .none)))) (bSeq (bSet 5 (dOp (opIx g) (dVar 0) (dOp (opIx g) (dVar 4) (dC (.dat (.num 0))))))
    bNext) (bSeq (bSet 5 (dOp opAdd (dTup (dCons (dVar 3) dNil)) (dGc (dCall fTupleOf (dCons (dLc (iT (dVar 4)) (gN 6) xYes (dOp (opIx g) (dVar 0) (dVar 6)) [6]) dNil)))))
    (bSeq (bIf (dTest (dOp opGt (dCall (F_depth g) (dCons (dVar 5) dNil)) (dC (.dat (.num 8))))) (bSeq (bNever)
    bNext) bNext)
    bNext)))
    (bSeq (bRet (dOp opAdd (dOp opAdd (dCut (dVar 0) oNo (oAt (dVar 2))) (dTup (dCons (dVar 5) dNil))) (dCut (dVar 0) (oAt (dOp opAdd (dVar 2) (dC (.dat (.num 1))))) oNo)))
    bNext)))
theorem dv_done {P : Program} {w : World} {K : PySem.W.Frag} {mg : Str → Option Value} {base : Heap} {g : Gp} (t : Tx K mg g) {k : Nat} (G_depth : FnOk P w K mg base CX0 k t.f_depth t.fd_depth P_depth (spD K w g (F_depth g))) (A : Around) (outer : List Env) (s : Shared) (H : Hp) (E : XK)
    (hr : Room (k) (A.deeper (envOfC "done" (defScope s_done) s.heap.objs.size t.f_done t.cd_done))) : DSs g (cxOf CX0 P w K mg base N_done "done" (defScope s_done) t.f_done t.cd_done A outer s H E).nox (defBody s_done) (fb_done g) := by
  have scN : N_done.Nodup := sc_done.nd
  exact (dss_cons (ds_asg (de_var 1) (dg_t rfl (dgs_cons (dg_n scN (i := 2)) (dgs_cons (dg_n scN (i := 3)) (dgs_cons (dg_n scN (i := 4)) dgs_nil)))))
    (dss_cons (ds_if (dx_cmp od_is (de_var 3) (de_non)) (dss_cons (ds_set (i := 5) scN (de_ix (de_var 0) (de_ix (de_var 4) (de_int) (fun _ _ => rfl)) (fun _ _ => rfl)))
    dss_nil) (dss_cons (ds_set (i := 5) scN (de_op od_add (de_tup (da_cons (de_var 3) da_nil)) (de_gc (de_callTy cr_tupleOf rfl t.n_tuple bt_tuple (da_cons (de_lc rfl scN  (di_tup (de_var 4)) (blkOk_by (N := N_done) (sc := defScope s_done) (own := [("source", 6)]) (by decide +kernel)) (fun _ _ _ _ _ => (dg_n scN (i := 6))) (fun _ _ _ _ _ => dts_nil) (fun _ _ _ _ _ => (de_ix (de_var 0) (de_var 6) (fun _ _ => rfl)))) da_nil)))))
    (dss_cons (ds_if (dx_cmp od_gt (de_call G_depth hr rfl t.m_depth t.k_depth t.b_depth (da_cons (de_var 5) da_nil)) (de_const rfl t.c_MOST_DEEP)) (dss_cons (ds_never)
    dss_nil) dss_nil)
    dss_nil)))
    (dss_cons (ds_ret (de_op od_add (de_op od_add (de_cut (de_var 0) do_none (do_some (de_var 2))) (de_tup (da_cons (de_var 5) da_nil))) (de_cut (de_var 0) (do_some (de_op od_add (de_var 2) (de_int))) do_none)))
    dss_nil)))
/-- need_many -/
theorem sc_need_many : FnScope N_need_many P_need_many (defScope s_need_many) := ⟨rfl, rfl, rfl, by decide +kernel, rfl, by decide +kernel, by decide +kernel⟩
def fb_need_many (g : Gp) : BD :=
  (bSeq (bIf (xNot (dTruth (dCall (F_is_number g) (dCons (dVar 0) (dCons (dC (.dat (.num 1))) (dCons (dC (.dat (.num 3))) dNil)))))) (bSeq (bNever)
    bNext) bNext)
    bNext)
theorem dv_need_many {P : Program} {w : World} {K : PySem.W.Frag} {mg : Str → Option Value} {base : Heap} {g : Gp} (t : Tx K mg g) {k : Nat} (G_is_number : FnOk P w K mg base CX0 k t.f_is_number t.fd_is_number P_is_number (spD K w g (F_is_number g))) (A : Around) (outer : List Env) (s : Shared) (H : Hp) (E : XK)
    (hr : Room (k) (A.deeper (envOfC "need_many" (defScope s_need_many) s.heap.objs.size t.f_need_many t.cd_need_many))) : DSs g (cxOf CX0 P w K mg base N_need_many "need_many" (defScope s_need_many) t.f_need_many t.cd_need_many A outer s H E).nox (defBody s_need_many) (fb_need_many g) := by
  have scN : N_need_many.Nodup := sc_need_many.nd
  exact (dss_cons (ds_if (dx_not (dx_truth (de_call G_is_number hr rfl t.m_is_number t.k_is_number t.b_is_number (da_cons (de_var 0) (da_cons (de_int) (da_cons (de_const rfl t.c_MOST_LOST) da_nil)))))) (dss_cons (ds_never)
    dss_nil) dss_nil)
    dss_nil)
/-- all_moments -/
theorem sc_all_moments : FnScope N_all_moments P_all_moments (defScope s_all_moments) := ⟨rfl, rfl, rfl, by decide +kernel, rfl, by decide +kernel, by decide +kernel⟩
def fb_all_moments (g : Gp) : BD :=
  (bSeq (bSet 3 (dLst (dCons (dDict1 (dTup (dCons (dCall (F_first_terms g) (dCons (dVar 0) dNil)) (dCons (dC (.dat (.num 0))) dNil))) (dTup dNil)) dNil)))
    (bSeq (bFor (iE (dVar 1)) (gT 2 (gsCons (gN 4) (gsCons (gN 5) gsNil))) (bSeq (bSet 6 (dDict0))
    (bSeq (bFor (iIs (dOp (opIx g) (dVar 3) (dUn unNeg (dC (.dat (.num 1)))))) (gT 2 (gsCons (gT 2 (gsCons (gN 7) (gsCons (gN 8) gsNil))) (gsCons (gN 9) gsNil))) (bSeq (bDrop (dCall (F_keep g) (dCons (dVar 6) (dCons (dTup (dCons (dCall (F_done g) (dCons (dVar 7) (dCons (dVar 5) dNil))) (dCons (dC (.dat (.num 0))) dNil))) (dCons (dVar 9) dNil)))))
    (bSeq (bIf (dTest (dOp opLt (dVar 8) (dVar 2))) (bSeq (bDrop (dCall (F_keep g) (dCons (dVar 6) (dCons (dTup (dCons (dVar 7) (dCons (dOp opAdd (dVar 8) (dC (.dat (.num 1)))) dNil))) (dCons (dOp opAdd (dVar 9) (dTup (dCons (dVar 4) dNil))) dNil)))))
    bNext) bNext)
    bNext)))
    (bSeq (bIf (dTest (dOp opGt (dCall fLenD (dCons (dVar 6) dNil)) (dC (.dat (.num 3000))))) (bSeq (bNever)
    bNext) bNext)
    (bSeq (bDrop (dAppend (dVar 3) (dVar 6)))
    bNext)))))
    (bSeq (bRet (dVar 3))
    bNext)))
theorem dv_all_moments {P : Program} {w : World} {K : PySem.W.Frag} {mg : Str → Option Value} {base : Heap} {g : Gp} (t : Tx K mg g) {k : Nat} (G_first_terms : FnOk P w K mg base CX0 k t.f_first_terms t.fd_first_terms P_first_terms (spD K w g (F_first_terms g))) (G_done : FnOk P w K mg base CX0 k t.f_done t.fd_done P_done (spD K w g (F_done g))) (G_keep : FnOk P w K mg base CX0 k t.f_keep t.fd_keep P_keep (spD K w g (F_keep g))) (A : Around) (outer : List Env) (s : Shared) (H : Hp) (E : XK)
    (hr : Room (k) (A.deeper (envOfC "all_moments" (defScope s_all_moments) s.heap.objs.size t.f_all_moments t.cd_all_moments))) : DSs g (cxOf CX0 P w K mg base N_all_moments "all_moments" (defScope s_all_moments) t.f_all_moments t.cd_all_moments A outer s H E).nox (defBody s_all_moments) (fb_all_moments g) := by
  have scN : N_all_moments.Nodup := sc_all_moments.nd
  exact (dss_cons (ds_set (i := 3) scN (de_lst (da_cons (de_dict1 (u10 hr) (de_tup (da_cons (de_call G_first_terms hr rfl t.m_first_terms t.k_first_terms t.b_first_terms (da_cons (de_var 0) da_nil)) (da_cons (de_int) da_nil))) (de_tup da_nil)) da_nil)))
    (dss_cons (ds_for PassesOwn.never rfl (di_enum rfl t.n_enumerate (de_var 1)) (dg_t rfl (dgs_cons (dg_n scN (i := 4)) (dgs_cons (dg_n scN (i := 5)) dgs_nil))) (dss_cons (ds_set (i := 6) scN (de_dict0))
    (dss_cons (ds_for PassesOwn.never rfl (di_items (de_ix (de_var 3) (de_un ud_neg (de_int)) (fun _ _ => rfl))) (dg_t rfl (dgs_cons (dg_t rfl (dgs_cons (dg_n scN (i := 7)) (dgs_cons (dg_n scN (i := 8)) dgs_nil))) (dgs_cons (dg_n scN (i := 9)) dgs_nil))) (dss_cons (ds_expr (de_call G_keep hr rfl t.m_keep t.k_keep t.b_keep (da_cons (de_var 6) (da_cons (de_tup (da_cons (de_call G_done hr rfl t.m_done t.k_done t.b_done (da_cons (de_var 7) (da_cons (de_var 5) da_nil))) (da_cons (de_int) da_nil))) (da_cons (de_var 9) da_nil)))))
    (dss_cons (ds_if (dx_cmp od_lt (de_var 8) (de_var 2)) (dss_cons (ds_expr (de_call G_keep hr rfl t.m_keep t.k_keep t.b_keep (da_cons (de_var 6) (da_cons (de_tup (da_cons (de_var 7) (da_cons (de_op od_add (de_var 8) (de_int)) da_nil))) (da_cons (de_op od_add (de_var 9) (de_tup (da_cons (de_var 4) da_nil))) da_nil)))))
    dss_nil) dss_nil)
    dss_nil)))
    (dss_cons (ds_if (dx_cmp od_gt (de_callB cr_lenD rfl t.n_len bt_len (da_cons (de_var 6) da_nil)) (de_const rfl t.c_MOST_PAIRS)) (dss_cons (ds_never)
    dss_nil) dss_nil)
    (dss_cons (ds_expr (de_append (de_var 3) (de_var 6)))
    dss_nil)))))
    (dss_cons (ds_ret (de_var 3))
    dss_nil)))
/-- keep -/
theorem sc_keep : FnScope N_keep P_keep (defScope s_keep) := ⟨rfl, rfl, rfl, by decide +kernel, rfl, by decide +kernel, by decide +kernel⟩
def fb_keep (g : Gp) : BD :=
  (bSeq (bIf (xOr (dTest (dOp (opInD true) (dVar 1) (dVar 0))) (dTest (dOp opLt (dCall (fLen g) (dCons (dVar 2) dNil)) (dCall (fLen g) (dCons (dOp opIxD (dVar 0) (dVar 1)) dNil))))) (bSeq (bSetIx setIxD (dVar 2) (dVar 0) (dVar 1))
    bNext) bNext)
    bNext)
theorem dv_keep {P : Program} {w : World} {K : PySem.W.Frag} {mg : Str → Option Value} {base : Heap} {g : Gp} (t : Tx K mg g) {k : Nat} (A : Around) (outer : List Env) (s : Shared) (H : Hp) (E : XK)
    (hr : Room (k) (A.deeper (envOfC "keep" (defScope s_keep) s.heap.objs.size t.f_keep t.cd_keep))) : DSs g (cxOf CX0 P w K mg base N_keep "keep" (defScope s_keep) t.f_keep t.cd_keep A outer s H E).nox (defBody s_keep) (fb_keep g) := by
  have scN : N_keep.Nodup := sc_keep.nd
  exact (dss_cons (ds_if (dx_bool (dw_or (dx_cmp (od_notinD (u10 hr)) (de_var 1) (de_var 0)) (dw_or1 (dx_cmp od_lt (de_callB cr_len rfl t.n_len bt_len (da_cons (de_var 2) da_nil)) (de_callB cr_len rfl t.n_len bt_len (da_cons (de_ixD (u10 hr) (de_var 0) (de_var 1)) da_nil)))))) (dss_cons (ds_setIx (pset_D (u10 hr)) (de_var 2) (de_var 0) (de_var 1))
    dss_nil) dss_nil)
    dss_nil)
/-- is_wish -/
theorem sc_is_wish : FnScope N_is_wish P_is_wish (defScope s_is_wish) := ⟨rfl, rfl, rfl, by decide +kernel, rfl, by decide +kernel, by decide +kernel⟩
def fb_is_wish (g : Gp) : BD :=
  (bSeq (bIf (xOr (xNot (dTruth (dCall fIsi (dCons (dVar 1) (dCons (dC (.raw (.ty "tuple"))) dNil))))) (xOr (dTest (dOp opNe (dCall (fLen g) (dCons (dVar 1) dNil)) (dC (.dat (.num 2))))) (xNot (dTruth (dCall (F_is_number g) (dCons (dOp (opIx g) (dVar 1) (dC (.dat (.num 0)))) (dCons (dC (.dat (.num 0))) (dCons (dOp opSub (dOp (opIx g) (dVar 0) (dC (.dat (.num 0)))) (dC (.dat (.num 1)))) dNil)))))))) (bSeq (bRet (dC (.bl false)))
    bNext) bNext)
    (bSeq (bRet (dCallD (F_is_term g) [.dat (.num 8)] (dCons (dVar 0) (dCons (dOp (opIx g) (dVar 1) (dC (.dat (.num 1)))) dNil))))
    bNext))
theorem dv_is_wish {P : Program} {w : World} {K : PySem.W.Frag} {mg : Str → Option Value} {base : Heap} {g : Gp} (t : Tx K mg g) {k : Nat} (G_is_number : FnOk P w K mg base CX0 k t.f_is_number t.fd_is_number P_is_number (spD K w g (F_is_number g))) (G_is_term : FnOk P w K mg base CX0 k t.f_is_term t.fd_is_term P_is_term (spD K w g (F_is_term g))) (A : Around) (outer : List Env) (s : Shared) (H : Hp) (E : XK)
    (hr : Room (k) (A.deeper (envOfC "is_wish" (defScope s_is_wish) s.heap.objs.size t.f_is_wish t.cd_is_wish))) : DSs g (cxOf CX0 P w K mg base N_is_wish "is_wish" (defScope s_is_wish) t.f_is_wish t.cd_is_wish A outer s H E).nox (defBody s_is_wish) (fb_is_wish g) := by
  have scN : N_is_wish.Nodup := sc_is_wish.nd
  exact (dss_cons (ds_if (dx_bool (dw_or (dx_not (dx_truth (de_callB cr_isi rfl t.n_isinstance bt_isinstance (da_cons (de_var 1) (da_cons (de_ty rfl t.n_tuple bt_tuple) da_nil))))) (dw_or (dx_cmp (od_ne (u64 hr)) (de_callB cr_len rfl t.n_len bt_len (da_cons (de_var 1) da_nil)) (de_int)) (dw_or1 (dx_not (dx_truth (de_call G_is_number hr rfl t.m_is_number t.k_is_number t.b_is_number (da_cons (de_ix (de_var 1) (de_int) (fun _ _ => rfl)) (da_cons (de_int) (da_cons (de_op od_sub (de_ix (de_var 0) (de_int) (fun _ _ => rfl)) (de_int)) da_nil)))))))))) (dss_cons (ds_ret (de_bl))
    dss_nil) dss_nil)
    (dss_cons (ds_ret (de_callD G_is_term hr rfl t.m_is_term t.k_is_term t.bd_is_term t.dv_is_term (fun _ _ => t_dd) (da_cons (de_var 0) (da_cons (de_ix (de_var 1) (de_int) (fun _ _ => rfl)) da_nil))))
    dss_nil))
/-- need_wishes -/
theorem sc_need_wishes : FnScope N_need_wishes P_need_wishes (defScope s_need_wishes) := ⟨rfl, rfl, rfl, by decide +kernel, rfl, by decide +kernel, by decide +kernel⟩
def fb_need_wishes (g : Gp) : BD :=
  (bSeq (bIf (xOr (xNot (dTruth (dCall fIsi (dCons (dVar 1) (dCons (dC (.raw (.ty "tuple"))) dNil))))) (xNot (dTruth (dVar 1)))) (bSeq (bNever)
    bNext) bNext)
    (bSeq (bFor (iE (dVar 1)) (gT 2 (gsCons (gN 2) (gsCons (gN 3) gsNil))) (bSeq (bIf (xOr (xNot (dTruth (dCall (F_is_wish g) (dCons (dVar 0) (dCons (dVar 3) dNil))))) (xAnd (dTest (dOp opGt (dVar 2) (dC (.dat (.num 0))))) (dTest (dOp opGe (dOp (opIx g) (dOp (opIx g) (dVar 1) (dOp opSub (dVar 2) (dC (.dat (.num 1))))) (dC (.dat (.num 0)))) (dOp (opIx g) (dVar 3) (dC (.dat (.num 0)))))))) (bSeq (bNever)
    bNext) bNext)
    bNext))
    bNext))
theorem dv_need_wishes {P : Program} {w : World} {K : PySem.W.Frag} {mg : Str → Option Value} {base : Heap} {g : Gp} (t : Tx K mg g) {k : Nat} (G_is_wish : FnOk P w K mg base CX0 k t.f_is_wish t.fd_is_wish P_is_wish (spD K w g (F_is_wish g))) (A : Around) (outer : List Env) (s : Shared) (H : Hp) (E : XK)
    (hr : Room (k) (A.deeper (envOfC "need_wishes" (defScope s_need_wishes) s.heap.objs.size t.f_need_wishes t.cd_need_wishes))) : DSs g (cxOf CX0 P w K mg base N_need_wishes "need_wishes" (defScope s_need_wishes) t.f_need_wishes t.cd_need_wishes A outer s H E).nox (defBody s_need_wishes) (fb_need_wishes g) := by
  have scN : N_need_wishes.Nodup := sc_need_wishes.nd
  exact (dss_cons (ds_if (dx_bool (dw_or (dx_not (dx_truth (de_callB cr_isi rfl t.n_isinstance bt_isinstance (da_cons (de_var 1) (da_cons (de_ty rfl t.n_tuple bt_tuple) da_nil))))) (dw_or1 (dx_not (dx_truth (de_var 1)))))) (dss_cons (ds_never)
    dss_nil) dss_nil)
    (dss_cons (ds_for PassesOwn.never rfl (di_enum rfl t.n_enumerate (de_var 1)) (dg_t rfl (dgs_cons (dg_n scN (i := 2)) (dgs_cons (dg_n scN (i := 3)) dgs_nil))) (dss_cons (ds_if (dx_bool (dw_or (dx_not (dx_truth (de_call G_is_wish hr rfl t.m_is_wish t.k_is_wish t.b_is_wish (da_cons (de_var 0) (da_cons (de_var 3) da_nil))))) (dw_or1 (dx_bool (dw_and (dx_cmp od_gt (de_var 2) (de_int)) (dw_and1 (dx_cmp od_ge (de_ix (de_ix (de_var 1) (de_op od_sub (de_var 2) (de_int)) (fun _ _ => rfl)) (de_int) (fun _ _ => rfl)) (de_ix (de_var 3) (de_int) (fun _ _ => rfl))))))))) (dss_cons (ds_never)
    dss_nil) dss_nil)
    dss_nil))
    dss_nil))
/-- fulfilled -/
theorem sc_fulfilled : FnScope N_fulfilled P_fulfilled (defScope s_fulfilled) := ⟨rfl, rfl, rfl, by decide +kernel, rfl, by decide +kernel, by decide +kernel⟩
def fb_fulfilled (g : Gp) : BD :=
  (bSeq (bRet (dGen true (iT (dVar 1)) (gT 2 (gsCons (gN 2) (gsCons (gN 3) gsNil))) (dOp opEq (dOp (opIx g) (dVar 0) (dVar 2)) (dVar 3)) [2, 3]))
    bNext)
theorem dv_fulfilled {P : Program} {w : World} {K : PySem.W.Frag} {mg : Str → Option Value} {base : Heap} {g : Gp} (t : Tx K mg g) (tb : TxB base mg t) {k : Nat} (A : Around) (outer : List Env) (s : Shared) (H : Hp) (E : XK)
    (hr : Room (k + 1) (A.deeper (envOfC "fulfilled" (defScope s_fulfilled) s.heap.objs.size t.f_fulfilled (.ref t.cc_fulfilled)))) : DSs g (cxOf CX0 P w K mg base N_fulfilled "fulfilled" (defScope s_fulfilled) t.f_fulfilled (.ref t.cc_fulfilled) A outer s H E).nox (defBody s_fulfilled) (fb_fulfilled g) := by
  have scN : N_fulfilled.Nodup := sc_fulfilled.nd
  have hr1 := hr.mono (Nat.le_succ k)
  exact (dss_cons (ds_ret (de_all hr rfl (by rfl) t.n_all bt_all (tb.tb_fulfilled) (by rfl) t.z_fulfilled t.l_fulfilled (gsc_by (N := N_fulfilled) (sc := defScope s_fulfilled) (own := [("cell", 2), ("term", 3)]) (by decide +kernel)) scN (di_tup (de_var 1)) (by intro _; rfl) (fun _ _ _ _ _ _ => (dg_t rfl (dgs_cons (dg_n scN (i := 2)) (dgs_cons (dg_n scN (i := 3)) dgs_nil)))) (fun _ _ _ _ _ _ => (de_cmp (od_eq (u64 (room_gx hr))) (de_ix (de_var 0) (de_var 2) (fun _ _ => rfl)) (de_var 3)))))
    dss_nil)
/-- need_wished -/
theorem sc_need_wished : FnScope N_need_wished P_need_wished (defScope s_need_wished) := ⟨rfl, rfl, rfl, by decide +kernel, rfl, by decide +kernel, by decide +kernel⟩
def fb_need_wished (g : Gp) : BD :=
  (bSeq (bDrop (dCall (F_need_machine g) (dCons (dVar 0) dNil)))
    (bSeq (bDrop (dCall (F_need_program g) (dCons (dVar 0) (dCons (dVar 1) dNil))))
    (bSeq (bDrop (dCall (F_need_many g) (dCons (dVar 2) dNil)))
    (bSeq (bDrop (dCall (F_need_wishes g) (dCons (dVar 0) (dCons (dVar 3) dNil))))
    bNext))))
theorem dv_need_wished {P : Program} {w : World} {K : PySem.W.Frag} {mg : Str → Option Value} {base : Heap} {g : Gp} (t : Tx K mg g) {k : Nat} (G_need_machine : FnOk P w K mg base CX0 k t.f_need_machine t.fd_need_machine P_need_machine (spD K w g (F_need_machine g))) (G_need_program : FnOk P w K mg base CX0 k t.f_need_program t.fd_need_program P_need_program (spD K w g (F_need_program g))) (G_need_many : FnOk P w K mg base CX0 k t.f_need_many t.fd_need_many P_need_many (spD K w g (F_need_many g))) (G_need_wishes : FnOk P w K mg base CX0 k t.f_need_wishes t.fd_need_wishes P_need_wishes (spD K w g (F_need_wishes g))) (A : Around) (outer : List Env) (s : Shared) (H : Hp) (E : XK)
    (hr : Room (k) (A.deeper (envOfC "need_wished" (defScope s_need_wished) s.heap.objs.size t.f_need_wished t.cd_need_wished))) : DSs g (cxOf CX0 P w K mg base N_need_wished "need_wished" (defScope s_need_wished) t.f_need_wished t.cd_need_wished A outer s H E).nox (defBody s_need_wished) (fb_need_wished g) := by
  have scN : N_need_wished.Nodup := sc_need_wished.nd
  exact (dss_cons (ds_expr (de_call G_need_machine hr rfl t.m_need_machine t.k_need_machine t.b_need_machine (da_cons (de_var 0) da_nil)))
    (dss_cons (ds_expr (de_call G_need_program hr rfl t.m_need_program t.k_need_program t.b_need_program (da_cons (de_var 0) (da_cons (de_var 1) da_nil))))
    (dss_cons (ds_expr (de_call G_need_many hr rfl t.m_need_many t.k_need_many t.b_need_many (da_cons (de_var 2) da_nil)))
    (dss_cons (ds_expr (de_call G_need_wishes hr rfl t.m_need_wishes t.k_need_wishes t.b_need_wishes (da_cons (de_var 0) (da_cons (de_var 3) da_nil))))
    dss_nil))))
end L2.LL

/-! # LLW2 -/
set_option Elab.async false
set_option linter.all false
set_option maxRecDepth 100000
set_option maxHeartbeats 2000000
namespace L2.LL
open PySem PySem.Spec PyProof.Rows
theorem w_depth {g : Gp} {d : Nat} : ∀ ds S Q, Sco S → F_depthN (d + 1) g ds S Q → fb_depth g (F_depthN d g) (EndG S Q) (startD N_depth ds) S := by
  intro ds S Q hs h
  unfold F_depthN at h
  split at h
  · rename_i v
    obtain ⟨M, hM, hv, hd, h⟩ := h
    unfold fb_depth
    rcases hv.cases hM with ⟨i, rfl, hi⟩ | ⟨f, ts, rfl, hf, hts, hne⟩
    · simp [s_start]
      have e : (nT i).depth + 1 = 1 := by simp
      rw [e] at h
      exact gcd0 hs h
    · have e : (NestedKey.tup (nT f :: ts)).depth = NestedKey.depthAll ts + 1 := by rw [depth_tup]; simp
      rw [e] at h hd
      have hts2 := depthAll_le.mp (show NestedKey.depthAll ts ≤ d by omega)
      simp [s_start]
      intro hs'
      refine lc_map (fun t => .dat (nT (t.depth + 1))) (by trivial) ?_ (fun t R1 ht h1 => ?_) ?_
      · have := hM.rd _ (List.mem_of_getElem? hf); omega
      · simp
        exact ⟨M, hM, hts t ht, hts2 t ht, h1⟩
      · simp
        refine ⟨ts.map fun t => ((t.depth + 1 : Nat) : Int), by simp, List.length_pos_iff.mpr (by simpa using hne), fun m hm hm2 => ?_⟩
        have em : m = ((NestedKey.depthAll ts + 1 : Nat) : Int) := by
          obtain ⟨t, ht, rfl⟩ := List.mem_map.mp hm
          have h1 := depthAll_le.mp (Nat.le_refl _) t ht
          have h2 : NestedKey.depthAll ts ≤ t.depth := depthAll_le.mpr fun u hu => by
            have := hm2 _ (List.mem_map.mpr ⟨u, hu, rfl⟩); omega
          omega
        subst em
        refine gcd hs' (by simp) (gcd0 hs ?_)
        have e2 : (1 : Int) + ((NestedKey.depthAll ts + 1 : Nat) : Int) = ((NestedKey.depthAll ts + 1 + 1 : Nat) : Int) := by omega
        rw [e2]; exact h
  · exact h.elim
theorem w_is_term {g : Gp} {d : Nat} : ∀ ds S Q, Sco S → F_is_termN (d + 1) g ds S Q → fb_is_term g (F_is_termN d g) (EndG S Q) (startD N_is_term ds) S := by
  intro ds S Q hs h
  unfold F_is_termN at h
  split at h
  · rename_i m v k
    obtain ⟨M, rfl, hM, hv, hd, hk, h⟩ := h
    unfold fb_is_term
    rcases hv.cases hM with ⟨i, rfl, hi⟩ | ⟨f, ts, rfl, hf, hts, hne⟩
    · have h1 : (i : Int) ≤ M.n - 1 := by omega
      simp [s_start, h1]
      exact gcb0 hs h
    · have e : (NestedKey.tup (nT f :: ts)).depth = NestedKey.depthAll ts + 1 := by rw [depth_tup]; simp
      rw [e] at hd hk
      have hts2 := depthAll_le.mp (show NestedKey.depthAll ts ≤ d by omega)
      have h1 : ¬ k < 2 := by omega
      have h2 : (f : Int) ≤ M.fs.length - 1 := by have := (List.getElem?_eq_some_iff.mp hf).1; omega
      have h3 : ((ts.length : Int) + 1) = 1 + ts.length := by omega
      simp [s_start, h1, h2, hf, h3]
      refine gen_pure (fun _ => true) (by trivial) (fun t R ht hR => ?_) ?_
      · simp
        have := hts2 t ht
        have h5 := depthAll_le.mp (Nat.le_refl (NestedKey.depthAll ts)) t ht
        exact ⟨M, rfl, hM, hts t ht, this, by omega, hR⟩
      · simp; exact gcb0 hs h
  · exact h.elim
theorem w_first_terms {g : Gp} : ∀ ds S Q, Sco S → F_first_terms g ds S Q → fb_first_terms g (EndG S Q) (startD N_first_terms ds) S := by
  intro ds S Q hs h
  unfold F_first_terms at h
  split at h
  · obtain ⟨M, rfl, hM, h⟩ := h
    unfold fb_first_terms
    have := hM.n3
    simp [s_start, smallRg, rg_firsts]
    exact ⟨by omega, gcd0 hs h⟩
  · exact h.elim
theorem w_done {g : Gp} : ∀ ds S Q, Sco S → F_done g ds S Q → fb_done g (EndG S Q) (startD N_done ds) S := by
  intro ds S Q hs h
  unfold F_done at h
  split at h
  · rename_i hd v
    obtain ⟨M, l, rfl, hM, hl, H, hv, h⟩ := h
    unfold fb_done
    have hc : l.c < hd.length := by rw [H.len]; exact hl.c
    have hlen : hd.length ≤ 3 := by rw [H.len]; exact hM.n3
    have l1 := cut_len (l := hd) (a := none) (b := some (l.c : Int))
    have l2 := cut_len (l := hd) (a := some ((l.c : Int) + 1)) (b := none)
    have fin : ∀ x, did hd l = hd.set l.c x → (cutA hd none (some (l.c : Int)) ++ [x] ++ cutA hd (some ((l.c : Int) + 1)) none) = did hd l := fun x e => by rw [e, set_cut hc]
    rcases hl.fn with ⟨e, s, e2, e3⟩ | ⟨i, e, e2⟩
    · obtain ⟨t, ht, wt, dt⟩ := H.get (hl.src s (by simp [e2]))
      have ev : val hd l = t := by unfold val; rw [e, e2]; simp [ht]
      simp [s_start, e, e2, fT, ht]
      refine ⟨by omega, by omega, ?_⟩
      have := fin t (by unfold did; rw [ev])
      simp only [List.append_assoc, List.singleton_append] at this
      rw [this]
      exact gcd0 hs h
    · have ev : val hd l = .tup (nT i :: l.src.map fun s => hd[s]?.getD .none) := by unfold val; rw [e]
      have hsl : l.src.length ≤ 2 := by
        rcases hM.rd _ (List.mem_of_getElem? e2) with h | h <;> omega
      simp [s_start, e, fT]
      intro hs'
      refine lc_map (fun t => match t with | .num s => .dat (hd[s.toNat]?.getD .none) | _ => .bl true) (by trivial) (by simp; omega) (fun t R1 ht h1 => ?_) ?_
      · obtain ⟨s, hs2, rfl⟩ := List.mem_map.mp ht
        obtain ⟨u, hu, _⟩ := H.get (hl.src s hs2)
        simp [hu] at h1 ⊢
        exact h1
      · simp
        refine ⟨l.src.map fun s => hd[s]?.getD .none, by simp [Function.comp_def], gcd hs' (by simp) ?_⟩
        have h6 := (val_wt H hl).1
        have h7 : (1 : Nat) + (l.src.map fun s => hd[s]?.getD .none).length ≤ 1000 := by simp; omega
        generalize ev2 : NestedKey.tup (nT i :: l.src.map fun s => hd[s]?.getD .none) = v at ev
        rw [ev] at h6 hv
        refine ⟨by simp; omega, ?_⟩
        show F_depthN 9 g [.dat (.tup (nT i :: l.src.map fun s => hd[s]?.getD .none))] S _
        rw [ev2]
        refine ⟨M, hM, h6, by omega, ?_⟩
        have h8 : ¬ ((8 : Int) < (v.depth : Int) + 1) := by omega
        simp [h8, ev2]
        refine ⟨by omega, by omega, ?_⟩
        have := fin v (by unfold did; rw [ev])
        simp only [List.append_assoc, List.singleton_append] at this
        rw [this]
        exact gcd0 hs h
  · exact h.elim
theorem w_need_many {g : Gp} : ∀ ds S Q, Sco S → F_need_many g ds S Q → fb_need_many g (EndG S Q) (startD N_need_many ds) S := by
  intro ds S Q hs h
  unfold F_need_many at h
  split at h
  · obtain ⟨h1, h2, h⟩ := h
    unfold fb_need_many
    simp [s_start, h1, h2]
    exact gcd0 hs h
  · exact h.elim
end L2.LL

/-! # LLD3 -/
set_option Elab.async false
set_option linter.all false
set_option maxRecDepth 100000
set_option maxHeartbeats 2000000
namespace L2.LL
open PySem PySem.Spec PyProof.Rows
/-- least_harm -/
theorem sc_least_harm : FnScope N_least_harm P_least_harm (defScope s_least_harm) := ⟨rfl, rfl, rfl, by decide +kernel, rfl, by decide +kernel, by decide +kernel⟩
def fb_least_harm (g : Gp) : BD :=
  (bSeq (bSet 4 (dOp (opIx g) (dCall (F_all_moments g) (dCons (dVar 0) (dCons (dVar 1) (dCons (dVar 2) dNil)))) (dUn unNeg (dC (.dat (.num 1))))))
    (bSeq (bSet 5 (dLc (iIs (dVar 4)) (gT 2 (gsCons (gT 2 (gsCons (gN 6) (gsCons (gN 7) gsNil))) (gsCons (gN 8) gsNil))) (xNot (dTruth (dCall (F_fulfilled g) (dCons (dVar 6) (dCons (dVar 3) dNil))))) (dVar 8) [8, 6, 7]))
    (bSeq (bRet (dIf (dTruth (dVar 5)) (dNever) (dC (.dat .none))))
    bNext)))
theorem dv_least_harm {P : Program} {w : World} {K : PySem.W.Frag} {mg : Str → Option Value} {base : Heap} {g : Gp} (t : Tx K mg g) {k : Nat} (G_all_moments : FnOk P w K mg base CX0 k t.f_all_moments t.fd_all_moments P_all_moments (spD K w g (F_all_moments g))) (G_fulfilled : FnOk P w K mg base CX0 k t.f_fulfilled t.fd_fulfilled P_fulfilled (spD K w g (F_fulfilled g))) (A : Around) (outer : List Env) (s : Shared) (H : Hp) (E : XK)
    (hr : Room (k) (A.deeper (envOfC "least_harm" (defScope s_least_harm) s.heap.objs.size t.f_least_harm t.cd_least_harm))) : DSs g (cxOf CX0 P w K mg base N_least_harm "least_harm" (defScope s_least_harm) t.f_least_harm t.cd_least_harm A outer s H E).nox (defBody s_least_harm) (fb_least_harm g) := by
  have scN : N_least_harm.Nodup := sc_least_harm.nd
  exact (dss_cons (ds_set (i := 4) scN (de_ix (de_call G_all_moments hr rfl t.m_all_moments t.k_all_moments t.b_all_moments (da_cons (de_var 0) (da_cons (de_var 1) (da_cons (de_var 2) da_nil)))) (de_un ud_neg (de_int)) (fun _ _ => rfl)))
    (dss_cons (ds_setLc (i := 5) rfl scN rfl rfl rfl (di_items (de_var 4)) (blkOk_by (N := N_least_harm) (sc := defScope s_least_harm) (own := [("losses", 8), ("held", 6), ("_", 7)]) (by decide +kernel)) (fun _ _ _ _ _ => (dg_t rfl (dgs_cons (dg_t rfl (dgs_cons (dg_n scN (i := 6)) (dgs_cons (dg_n scN (i := 7)) dgs_nil))) (dgs_cons (dg_n scN (i := 8)) dgs_nil)))) (fun _ _ _ _ _ => (dts_one (dx_not (dx_truth (de_call G_fulfilled hr rfl t.m_fulfilled t.k_fulfilled t.b_fulfilled (da_cons (de_var 6) (da_cons (de_var 3) da_nil))))))) (fun _ _ _ _ _ => (de_var 8)))
    (dss_cons (ds_ret (de_if (dx_truth (de_var 5)) (de_never) (de_non)))
    dss_nil)))
/-- is_proof -/
theorem sc_is_proof : FnScope N_is_proof P_is_proof (defScope s_is_proof) := ⟨rfl, rfl, rfl, by decide +kernel, rfl, by decide +kernel, by decide +kernel⟩
def fb_is_proof (g : Gp) : BD :=
  (bSeq (bDrop (dCall (F_need_wished g) (dCons (dVar 0) (dCons (dVar 1) (dCons (dVar 2) (dCons (dVar 3) dNil))))))
    (bSeq (bRet (dOp (opIs false) (dCall (F_least_harm g) (dCons (dVar 0) (dCons (dVar 1) (dCons (dVar 2) (dCons (dVar 3) dNil))))) (dC (.dat .none))))
    bNext))
theorem dv_is_proof {P : Program} {w : World} {K : PySem.W.Frag} {mg : Str → Option Value} {base : Heap} {g : Gp} (t : Tx K mg g) {k : Nat} (G_need_wished : FnOk P w K mg base CX0 k t.f_need_wished t.fd_need_wished P_need_wished (spD K w g (F_need_wished g))) (G_least_harm : FnOk P w K mg base CX0 k t.f_least_harm t.fd_least_harm P_least_harm (spD K w g (F_least_harm g))) (A : Around) (outer : List Env) (s : Shared) (H : Hp) (E : XK)
    (hr : Room (k) (A.deeper (envOfC "is_proof" (defScope s_is_proof) s.heap.objs.size t.f_is_proof t.cd_is_proof))) : DSs g (cxOf CX0 P w K mg base N_is_proof "is_proof" (defScope s_is_proof) t.f_is_proof t.cd_is_proof A outer s H E).nox (defBody s_is_proof) (fb_is_proof g) := by
  have scN : N_is_proof.Nodup := sc_is_proof.nd
  exact (dss_cons (ds_expr (de_call G_need_wished hr rfl t.m_need_wished t.k_need_wished t.b_need_wished (da_cons (de_var 0) (da_cons (de_var 1) (da_cons (de_var 2) (da_cons (de_var 3) da_nil))))))
    (dss_cons (ds_ret (de_cmp od_is (de_call G_least_harm hr rfl t.m_least_harm t.k_least_harm t.b_least_harm (da_cons (de_var 0) (da_cons (de_var 1) (da_cons (de_var 2) (da_cons (de_var 3) da_nil))))) (de_non)))
    dss_nil))
/-- repeated_ends -/
theorem sc_repeated_ends : FnScope N_repeated_ends P_repeated_ends (defScope s_repeated_ends) := ⟨rfl, rfl, rfl, by decide +kernel, rfl, by decide +kernel, by decide +kernel⟩
def fb_repeated_ends (g : Gp) : BD :=
  (bSeq (bSet 3 (dDict1 (dCall (F_first_terms g) (dCons (dVar 0) dNil)) (dC (.bl true))))
    (bSeq (bFor (iT (dVar 1)) (gN 4) (bSeq (bSet 5 (dDict0))
    (bSeq (bFor (iKs (dVar 3)) (gN 6) (bSeq (bFor (iRg (rg1 (dOp opAdd (dVar 2) (dC (.dat (.num 1)))))) (gN 7) (bSeq (bSet 6 (dCall (F_done g) (dCons (dVar 6) (dCons (dVar 4) dNil))))
    (bSeq (bSetIx setIxD (dC (.bl true)) (dVar 5) (dVar 6))
    bNext)))
    bNext))
    (bSeq (bIf (dTest (dOp opGt (dCall fLenD (dCons (dVar 5) dNil)) (dC (.dat (.num 3000))))) (bSeq (bNever)
    bNext) bNext)
    (bSeq (bSet 3 (dVar 5))
    bNext)))))
    (bSeq (bRet (dVar 3))
    bNext)))
theorem dv_repeated_ends {P : Program} {w : World} {K : PySem.W.Frag} {mg : Str → Option Value} {base : Heap} {g : Gp} (t : Tx K mg g) {k : Nat} (G_first_terms : FnOk P w K mg base CX0 k t.f_first_terms t.fd_first_terms P_first_terms (spD K w g (F_first_terms g))) (G_done : FnOk P w K mg base CX0 k t.f_done t.fd_done P_done (spD K w g (F_done g))) (A : Around) (outer : List Env) (s : Shared) (H : Hp) (E : XK)
    (hr : Room (k) (A.deeper (envOfC "repeated_ends" (defScope s_repeated_ends) s.heap.objs.size t.f_repeated_ends t.cd_repeated_ends))) : DSs g (cxOf CX0 P w K mg base N_repeated_ends "repeated_ends" (defScope s_repeated_ends) t.f_repeated_ends t.cd_repeated_ends A outer s H E).nox (defBody s_repeated_ends) (fb_repeated_ends g) := by
  have scN : N_repeated_ends.Nodup := sc_repeated_ends.nd
  exact (dss_cons (ds_set (i := 3) scN (de_dict1 (u10 hr) (de_call G_first_terms hr rfl t.m_first_terms t.k_first_terms t.b_first_terms (da_cons (de_var 0) da_nil)) (de_bl)))
    (dss_cons (ds_for PassesOwn.never rfl (di_tup (de_var 1)) (dg_n scN (i := 4)) (dss_cons (ds_set (i := 5) scN (de_dict0))
    (dss_cons (ds_for PassesOwn.never rfl (di_keys (de_var 3)) (dg_n scN (i := 6)) (dss_cons (ds_for PassesOwn.never rfl (di_rg1 rfl t.n_range (de_op od_add (de_var 2) (de_int))) (dg_n scN (i := 7)) (dss_cons (ds_set (i := 6) scN (de_call G_done hr rfl t.m_done t.k_done t.b_done (da_cons (de_var 6) (da_cons (de_var 4) da_nil))))
    (dss_cons (ds_setIx (pset_D (u10 hr)) (de_bl) (de_var 5) (de_var 6))
    dss_nil)))
    dss_nil))
    (dss_cons (ds_if (dx_cmp od_gt (de_callB cr_lenD rfl t.n_len bt_len (da_cons (de_var 5) da_nil)) (de_const rfl t.c_MOST_PAIRS)) (dss_cons (ds_never)
    dss_nil) dss_nil)
    (dss_cons (ds_set (i := 3) scN (de_var 5))
    dss_nil)))))
    (dss_cons (ds_ret (de_var 3))
    dss_nil)))
/-- is_repeat_proof -/
theorem sc_is_repeat_proof : FnScope N_is_repeat_proof P_is_repeat_proof (defScope s_is_repeat_proof) := ⟨rfl, rfl, rfl, by decide +kernel, rfl, by decide +kernel, by decide +kernel⟩
def fb_is_repeat_proof (g : Gp) : BD :=
  (bSeq (bDrop (dCall (F_need_wished g) (dCons (dVar 0) (dCons (dVar 1) (dCons (dVar 2) (dCons (dVar 3) dNil))))))
    (bSeq (bRet (dGen true (iKs (dCall (F_repeated_ends g) (dCons (dVar 0) (dCons (dVar 1) (dCons (dVar 2) dNil))))) (gN 4) (dCall (F_fulfilled g) (dCons (dVar 4) (dCons (dVar 3) dNil))) [4]))
    bNext))
theorem dv_is_repeat_proof {P : Program} {w : World} {K : PySem.W.Frag} {mg : Str → Option Value} {base : Heap} {g : Gp} (t : Tx K mg g) (tb : TxB base mg t) {k : Nat} (G_need_wished : FnOk P w K mg base CX0 k t.f_need_wished t.fd_need_wished P_need_wished (spD K w g (F_need_wished g))) (G_repeated_ends : FnOk P w K mg base CX0 k t.f_repeated_ends t.fd_repeated_ends P_repeated_ends (spD K w g (F_repeated_ends g))) (G_fulfilled : FnOk P w K mg base CX0 k t.f_fulfilled t.fd_fulfilled P_fulfilled (spD K w g (F_fulfilled g))) (A : Around) (outer : List Env) (s : Shared) (H : Hp) (E : XK)
    (hr : Room (k + 1) (A.deeper (envOfC "is_repeat_proof" (defScope s_is_repeat_proof) s.heap.objs.size t.f_is_repeat_proof (.ref t.cc_is_repeat_proof)))) : DSs g (cxOf CX0 P w K mg base N_is_repeat_proof "is_repeat_proof" (defScope s_is_repeat_proof) t.f_is_repeat_proof (.ref t.cc_is_repeat_proof) A outer s H E).nox (defBody s_is_repeat_proof) (fb_is_repeat_proof g) := by
  have scN : N_is_repeat_proof.Nodup := sc_is_repeat_proof.nd
  have hr1 := hr.mono (Nat.le_succ k)
  exact (dss_cons (ds_expr (de_call G_need_wished hr1 rfl t.m_need_wished t.k_need_wished t.b_need_wished (da_cons (de_var 0) (da_cons (de_var 1) (da_cons (de_var 2) (da_cons (de_var 3) da_nil))))))
    (dss_cons (ds_ret (de_all hr rfl (by rfl) t.n_all bt_all (tb.tb_is_repeat_proof) (by rfl) t.z_is_repeat_proof t.l_is_repeat_proof (gsc_by (N := N_is_repeat_proof) (sc := defScope s_is_repeat_proof) (own := [("held", 4)]) (by decide +kernel)) scN (di_keys (de_call G_repeated_ends hr1 rfl t.m_repeated_ends t.k_repeated_ends t.b_repeated_ends (da_cons (de_var 0) (da_cons (de_var 1) (da_cons (de_var 2) da_nil))))) (by intro _; rfl) (fun _ _ _ _ _ _ => (dg_n scN (i := 4))) (fun _ _ _ _ _ _ => (de_call G_fulfilled (room_gx hr) rfl t.m_fulfilled t.k_fulfilled t.b_fulfilled (da_cons (de_var 4) (da_cons (de_var 3) da_nil))))))
    dss_nil))
/-- parts_of -/
theorem sc_parts_of : FnScope N_parts_of P_parts_of (defScope s_parts_of) := ⟨rfl, rfl, rfl, by decide +kernel, rfl, by decide +kernel, by decide +kernel⟩
def fb_parts_of (g : Gp) (FR : FD) : BD :=
  (bSeq (bSet 1 (dLst (dCons (dVar 0) dNil)))
    (bSeq (bIf (dTruth (dCall fIsi (dCons (dVar 0) (dCons (dC (.raw (.ty "tuple"))) dNil)))) (bSeq (bFor (iT (dCut (dVar 0) (oAt (dC (.dat (.num 1)))) oNo)) (gN 2) (bSeq (bAug 1 (dCall FR (dCons (dVar 2) dNil)) opExt)
    bNext))
    bNext) bNext)
    (bSeq (bRet (dVar 1))
    bNext)))
theorem dv_parts_of {P : Program} {w : World} {K : PySem.W.Frag} {mg : Str → Option Value} {base : Heap} {g : Gp} {FR : FD} (t : Tx K mg g) {k : Nat} (G_parts_of : FnOk P w K mg base CX0 k t.f_parts_of t.fd_parts_of P_parts_of (spD K w g FR)) (A : Around) (outer : List Env) (s : Shared) (H : Hp) (E : XK)
    (hr : Room (k) (A.deeper (envOfC "parts_of" (defScope s_parts_of) s.heap.objs.size t.f_parts_of t.cd_parts_of))) : DSs g (cxOf CX0 P w K mg base N_parts_of "parts_of" (defScope s_parts_of) t.f_parts_of t.cd_parts_of A outer s H E).nox (defBody s_parts_of) (fb_parts_of g FR) := by
  have scN : N_parts_of.Nodup := sc_parts_of.nd
  exact (dss_cons (ds_set (i := 1) scN (de_lst (da_cons (de_var 0) da_nil)))
    (dss_cons (ds_if (dx_truth (de_callB cr_isi rfl t.n_isinstance bt_isinstance (da_cons (de_var 0) (da_cons (de_ty rfl t.n_tuple bt_tuple) da_nil)))) (dss_cons (ds_for PassesOwn.never rfl (di_tup (de_cut (de_var 0) (do_some (de_int)) do_none)) (dg_n scN (i := 2)) (dss_cons (ds_aug scN (i := 1) (de_call G_parts_of hr rfl t.m_parts_of t.k_parts_of t.b_parts_of (da_cons (de_var 2) da_nil)) od_ext)
    dss_nil))
    dss_nil) dss_nil)
    (dss_cons (ds_ret (de_var 1))
    dss_nil)))
/-- all_parts -/
theorem sc_all_parts : FnScope N_all_parts P_all_parts (defScope s_all_parts) := ⟨rfl, rfl, rfl, by decide +kernel, rfl, by decide +kernel, by decide +kernel⟩
def fb_all_parts (g : Gp) : BD :=
  (bSeq (bSet 1 (dDict0))
    (bSeq (bFor (iT (dVar 0)) (gT 2 (gsCons (gN 2) (gsCons (gN 3) gsNil))) (bSeq (bFor (iL (dCall (F_parts_of g) (dCons (dVar 3) dNil))) (gN 4) (bSeq (bDrop (dMt2 mSetD (dVar 1) (dVar 4) (dCall fLenD (dCons (dVar 1) dNil))))
    bNext))
    bNext))
    (bSeq (bIf (dTest (dOp opGt (dCall fLenD (dCons (dVar 1) dNil)) (dC (.dat (.num 16))))) (bSeq (bNever)
    bNext) bNext)
    (bSeq (bRet (dVar 1))
    bNext))))
theorem dv_all_parts {P : Program} {w : World} {K : PySem.W.Frag} {mg : Str → Option Value} {base : Heap} {g : Gp} (t : Tx K mg g) {k : Nat} (G_parts_of : FnOk P w K mg base CX0 k t.f_parts_of t.fd_parts_of P_parts_of (spD K w g (F_parts_of g))) (A : Around) (outer : List Env) (s : Shared) (H : Hp) (E : XK)
    (hr : Room (k) (A.deeper (envOfC "all_parts" (defScope s_all_parts) s.heap.objs.size t.f_all_parts t.cd_all_parts))) : DSs g (cxOf CX0 P w K mg base N_all_parts "all_parts" (defScope s_all_parts) t.f_all_parts t.cd_all_parts A outer s H E).nox (defBody s_all_parts) (fb_all_parts g) := by
  have scN : N_all_parts.Nodup := sc_all_parts.nd
  exact (dss_cons (ds_set (i := 1) scN (de_dict0))
    (dss_cons (ds_for PassesOwn.never rfl (di_tup (de_var 0)) (dg_t rfl (dgs_cons (dg_n scN (i := 2)) (dgs_cons (dg_n scN (i := 3)) dgs_nil))) (dss_cons (ds_for PassesOwn.never rfl (di_list (de_call G_parts_of hr rfl t.m_parts_of t.k_parts_of t.b_parts_of (da_cons (de_var 3) da_nil))) (dg_n scN (i := 4)) (dss_cons (ds_expr (de_setdef (u10 hr) (de_var 1) (de_var 4) (de_callB cr_lenD rfl t.n_len bt_len (da_cons (de_var 1) da_nil))))
    dss_nil))
    dss_nil))
    (dss_cons (ds_if (dx_cmp od_gt (de_callB cr_lenD rfl t.n_len bt_len (da_cons (de_var 1) da_nil)) (de_const rfl t.c_MOST_PARTS)) (dss_cons (ds_never)
    dss_nil) dss_nil)
    (dss_cons (ds_ret (de_var 1))
    dss_nil))))
/-- all_lines -/
theorem sc_all_lines : FnScope N_all_lines P_all_lines (defScope s_all_lines) := ⟨rfl, rfl, rfl, by decide +kernel, rfl, by decide +kernel, by decide +kernel⟩
def fb_all_lines (g : Gp) : BD :=
  (bSeq (bAsg (dVar 0) (gT 2 (gsCons (gN 1) (gsCons (gN 2) gsNil))))
    (bSeq (bSet 3 (dDict1 (dC (.dat (.num 1))) (dLc (iRg (rg1 (dVar 1))) (gN 4) xYes (dTup (dCons (dVar 4) dNil)) [4])))
    (bSeq (bSetIx setIxD (dLc2 (iRg (rg1 (dVar 1))) (gN 4) xYes (iRg (rg1 (dVar 1))) (gN 5) xYes (dTup (dCons (dVar 4) (dCons (dVar 5) dNil))) [4, 5] [5]) (dVar 3) (dC (.dat (.num 2))))
    (bSeq (bSet 6 (dLst dNil))
    (bSeq (bFor (iRg (rg1 (dVar 1))) (gN 7) (bSeq (bFor (iE (dVar 2)) (gT 2 (gsCons (gN 8) (gsCons (gN 9) gsNil))) (bSeq (bAug 6 (dLc (iL (dOp opIxD (dVar 3) (dVar 9))) (gN 10) xYes (dTup (dCons (dVar 7) (dCons (dVar 8) (dCons (dVar 10) dNil)))) [10]) opExt)
    bNext))
    (bSeq (bAug 6 (dLc (iRg (rg1 (dVar 1))) (gN 11) (dTest (dOp opNe (dVar 11) (dVar 7))) (dTup (dCons (dVar 7) (dCons (dC (.dat .none)) (dCons (dTup (dCons (dVar 11) dNil)) dNil)))) [11]) opExt)
    bNext)))
    (bSeq (bRet (dVar 6))
    bNext))))))
theorem dv_all_lines {P : Program} {w : World} {K : PySem.W.Frag} {mg : Str → Option Value} {base : Heap} {g : Gp} (t : Tx K mg g) {k : Nat} (A : Around) (outer : List Env) (s : Shared) (H : Hp) (E : XK)
    (hr : Room (k) (A.deeper (envOfC "all_lines" (defScope s_all_lines) s.heap.objs.size t.f_all_lines t.cd_all_lines))) : DSs g (cxOf CX0 P w K mg base N_all_lines "all_lines" (defScope s_all_lines) t.f_all_lines t.cd_all_lines A outer s H E).nox (defBody s_all_lines) (fb_all_lines g) := by
  have scN : N_all_lines.Nodup := sc_all_lines.nd
  exact (dss_cons (ds_asg (de_var 0) (dg_t rfl (dgs_cons (dg_n scN (i := 1)) (dgs_cons (dg_n scN (i := 2)) dgs_nil))))
    (dss_cons (ds_set (i := 3) scN (de_dict1 (u10 hr) (de_int) (de_lc rfl scN  (di_rg1 rfl t.n_range (de_var 1)) (blkOk_by (N := N_all_lines) (sc := defScope s_all_lines) (own := [("one", 4)]) (by decide +kernel)) (fun _ _ _ _ _ => (dg_n scN (i := 4))) (fun _ _ _ _ _ => dts_nil) (fun _ _ _ _ _ => (de_tup (da_cons (de_var 4) da_nil))))))
    (dss_cons (ds_setIx (pset_D (u10 hr)) (de_lc2 rfl scN  (di_rg1 rfl t.n_range (de_var 1)) (blkOk_by (N := N_all_lines) (sc := defScope s_all_lines) (own := [("one", 4), ("other", 5)]) (by decide +kernel)) (vs1 := [5]) (by decide) (fun _ _ _ _ _ => (dg_n scN (i := 4))) (fun _ _ _ _ _ => dts_nil) (fun _ _ _ _ _ => (di_rg1 rfl t.n_range (de_var 1))) (fun _ _ _ _ _ => (dg_n scN (i := 5))) (fun _ _ _ _ _ => dts_nil) (fun _ _ _ _ _ => (de_tup (da_cons (de_var 4) (da_cons (de_var 5) da_nil))))) (de_var 3) (de_int))
    (dss_cons (ds_set (i := 6) scN (de_lst da_nil))
    (dss_cons (ds_for PassesOwn.never rfl (di_rg1 rfl t.n_range (de_var 1)) (dg_n scN (i := 7)) (dss_cons (ds_for PassesOwn.never rfl (di_enum rfl t.n_enumerate (de_var 2)) (dg_t rfl (dgs_cons (dg_n scN (i := 8)) (dgs_cons (dg_n scN (i := 9)) dgs_nil))) (dss_cons (ds_aug scN (i := 6) (de_lc rfl scN  (di_list (de_ixD (u10 hr) (de_var 3) (de_var 9))) (blkOk_by (N := N_all_lines) (sc := defScope s_all_lines) (own := [("sources", 10)]) (by decide +kernel)) (fun _ _ _ _ _ => (dg_n scN (i := 10))) (fun _ _ _ _ _ => dts_nil) (fun _ _ _ _ _ => (de_tup (da_cons (de_var 7) (da_cons (de_var 8) (da_cons (de_var 10) da_nil)))))) od_ext)
    dss_nil))
    (dss_cons (ds_aug scN (i := 6) (de_lc rfl scN  (di_rg1 rfl t.n_range (de_var 1)) (blkOk_by (N := N_all_lines) (sc := defScope s_all_lines) (own := [("source", 11)]) (by decide +kernel)) (fun _ _ _ _ _ => (dg_n scN (i := 11))) (fun _ _ _ _ _ => (dts_one (dx_cmp (od_ne (u64 hr)) (de_var 11) (de_var 7)))) (fun _ _ _ _ _ => (de_tup (da_cons (de_var 7) (da_cons (de_non) (da_cons (de_tup (da_cons (de_var 11) da_nil)) da_nil)))))) od_ext)
    dss_nil)))
    (dss_cons (ds_ret (de_var 6))
    dss_nil))))))
end L2.LL

/-! # LLW3 -/
set_option Elab.async false
set_option linter.all false
set_option maxRecDepth 100000
set_option maxHeartbeats 2000000
namespace L2.LL
open PySem PySem.Spec PyProof.Rows
abbrev EndN (Q : DQ) : EndsD := { nx := fun _ S' => Q (.dat .none) S', rt := Q }
theorem WOk.shal {M : Mac} {W : List Wish} (h : WOk M W) {w : Wish} (hw : w ∈ W) : Shal w.2 := (h.wt w hw).2.1.shal (by have := (h.wt w hw).2.2; omega)
theorem w_is_wish {g : Gp} : ∀ ds S Q, Sco S → F_is_wish g ds S Q → fb_is_wish g (EndG S Q) (startD N_is_wish ds) S := by
  intro ds S Q hs h
  unfold F_is_wish at h
  split at h
  · obtain ⟨M, w, rfl, rfl, hM, h1, h2, h3, h⟩ := h
    unfold fb_is_wish
    have h4 : (w.1 : Int) ≤ M.n - 1 := by omega
    simp [s_start, h4]
    exact ⟨M, rfl, hM, h2, by omega, by omega, gcb0 hs h⟩
  · exact h.elim
theorem w_need_wishes {g : Gp} : ∀ ds S Q, Sco S → F_need_wishes g ds S Q → fb_need_wishes g (EndG S Q) (startD N_need_wishes ds) S := by
  intro ds S Q hs h
  unfold F_need_wishes at h
  split at h
  · obtain ⟨M, W, rfl, rfl, hM, hW, h⟩ := h
    unfold fb_need_wishes
    have hne : W.isEmpty = false := by cases W with | nil => exact absurd rfl hW.ne | cons => rfl
    simp [s_start, hne]
    refine ⟨fun i σ S' => S' = S ∧ ∃ x y, σ = [some (.dat M.t), some (.dat (wsT W)), x, y], ⟨rfl, _, _, rfl⟩, fun _ _ _ _ => trivial, fun i t σ S' ht ⟨e, x, y, e2⟩ => ?_, fun σ S' ⟨e, x, y, e2⟩ => ?_⟩
    · subst e; subst e2
      obtain ⟨u, hu, rfl⟩ := enumT_get ht
      rw [List.getElem?_map, Option.map_eq_some_iff] at hu
      obtain ⟨w, hw, rfl⟩ := hu
      simp
      have hm := hW.wt w (List.mem_of_getElem? hw)
      refine ⟨M, w, rfl, rfl, hM, hm.1, hm.2.1, hm.2.2, ?_⟩
      simp
      by_cases hi : 0 < i
      · have e1 : ((i : Int) - 1) = ((i - 1 : Nat) : Int) := by omega
        have hl := (List.getElem?_eq_some_iff.mp hw).1
        have hp : W[i - 1]? = some W[i - 1] := List.getElem?_eq_getElem (by omega)
        have hlt : W[i - 1].1 < w.1 := by
          have := List.pairwise_iff_getElem.mp hW.up (i - 1) i (by omega) hl (by omega)
          rw [(List.getElem?_eq_some_iff.mp hw).2] at this; exact this
        have hlt2 : ¬ ((w.1 : Int) ≤ W[i - 1].1) := by omega
        simp [hi, e1, hp, hlt2]
      · simp [hi]
    · subst e; simp; exact gcd0 hs h
  · exact h.elim
theorem w_fulfilled {g : Gp} : ∀ ds S Q, Sco S → F_fulfilled g ds S Q → fb_fulfilled g (EndG S Q) (startD N_fulfilled ds) S := by
  intro ds S Q hs h
  unfold F_fulfilled at h
  split at h
  · rename_i hd v
    obtain ⟨M, W, rfl, hM, hW, H, h⟩ := h
    unfold fb_fulfilled
    simp [s_start]
    refine gen_pure (fun t => match t with | .tup [.num c, x] => decide (hd[c.toNat]?.getD .none = x) | _ => false) (by trivial) (fun t R ht hR => ?_) ?_
    · obtain ⟨w, hw, rfl⟩ := List.mem_map.mp ht
      obtain ⟨u, hu, wu, du⟩ := H.get (hW.wt w hw).1
      simp [hu] at hR ⊢
      exact ⟨wu.shal (by omega), hW.shal hw, hR⟩
    · simp [List.all_map, Function.comp_def]
      exact gcb0 hs (by simpa [ful] using h)
  · exact h.elim
theorem w_need_wished {g : Gp} : ∀ ds S Q, Sco S → F_need_wished g ds S Q → fb_need_wished g (EndG S Q) (startD N_need_wished ds) S := by
  intro ds S Q hs h
  unfold F_need_wished at h
  split at h
  · obtain ⟨M, P, W, rfl, rfl, rfl, hM, hP, h1, h2, hW, h⟩ := h
    unfold fb_need_wished
    simp [s_start]
    refine ⟨M, rfl, hM, ?_⟩
    simp
    refine ⟨M, P, rfl, rfl, hM, hP, ?_⟩
    simp
    refine ⟨h1, h2, ?_⟩
    simp
    exact ⟨M, W, rfl, rfl, hM, hW, gcd0 hs h⟩
  · exact h.elim
theorem getL_map {us : List (T × T)} {t : T} : getL (us.map fun p => (p.1, D.dat p.2)) t = ((us.find? fun p => decide (p.1 = t)).map (·.2)).map .dat := by
  unfold getL
  rw [List.find?_map]
  simp [Function.comp_def]
theorem putL_map {us : List (T × T)} {t u : T} : ∃ vs : List (T × T), putL (us.map fun p => (p.1, D.dat p.2)) t (.dat u) = vs.map (fun p => (p.1, D.dat p.2)) ∧ (∀ v ∈ vs, v ∈ us ∨ v = (t, u)) ∧ ((us.map (·.1)).Nodup → (vs.map (·.1)).Nodup) := by
  unfold putL
  by_cases h : t ∈ us.map (·.1)
  · have h' : t ∈ ((us.map fun p => (p.1, D.dat p.2)).map (·.1)) := by rw [List.map_map]; exact h
    rw [if_pos h']
    refine ⟨us.map fun p => if p.1 = t then (t, u) else p, ?_, fun v hv => ?_, fun hn => ?_⟩
    · rw [List.map_map, List.map_map]
      refine List.map_congr_left fun p _ => ?_
      by_cases e : p.1 = t <;> simp [e]
    · obtain ⟨p, hp, rfl⟩ := List.mem_map.mp hv
      by_cases e : p.1 = t
      · rw [if_pos e]; exact .inr rfl
      · rw [if_neg e]; exact .inl hp
    · have : (us.map fun p => if p.1 = t then (t, u) else p).map (·.1) = us.map (·.1) := by
        rw [List.map_map]
        refine List.map_congr_left fun p _ => ?_
        by_cases e : p.1 = t <;> simp [e]
      rw [this]; exact hn
  · have h' : ¬ t ∈ ((us.map fun p => (p.1, D.dat p.2)).map (·.1)) := by rw [List.map_map]; exact h
    rw [if_neg h']
    refine ⟨us ++ [(t, u)], by simp, fun v hv => ?_, fun hn => ?_⟩
    · rcases List.mem_append.mp hv with hv | hv
      · exact .inl hv
      · exact .inr (by simpa using hv)
    · rw [List.map_append, List.nodup_append]
      refine ⟨hn, by simp, fun a ha b hb e => ?_⟩
      have : b = t := by simpa using hb
      subst this; subst e; exact h ha
theorem set_same {α : Type} {l : List α} {n : Nat} {x : α} (h : l[n]? = some x) : l.set n x = l := by
  apply List.ext_getElem?
  intro i
  by_cases hi : n = i
  · subst hi; rw [List.getElem?_set_self (List.getElem?_eq_some_iff.mp h).1, h]
  · rw [List.getElem?_set_ne hi]
theorem set_last {α : Type} {l : List α} {x y : α} : (l ++ [x]).set l.length y = l ++ [y] := by
  rw [List.set_append_right _ _ (Nat.le_refl _)]; simp
theorem w_keep {g : Gp} : ∀ ds S Q, F_keep g ds S Q → fb_keep g (EndN Q) (startD N_keep ds) S := by
  intro ds S Q h
  unfold F_keep at h
  split at h
  · rename_i n p ls
    obtain ⟨us, ep, h0, hk, hz, hv, hn, h⟩ := h
    unfold fb_keep
    have hset : ∀ (ep' : Nat), Q (.dat .none) (S.set n (.dct (putL (us.map fun p => (p.1, .dat p.2)) p (.dat (.tup ls))) ep')) := fun ep' => by
      obtain ⟨vs, e, h1, h2⟩ := putL_map (us := us) (t := p) (u := .tup ls)
      rw [e]; exact h vs ep' h1 (h2 hn)
    have hsame : Q (.dat .none) S := by
      have := h us ep (fun u hu => .inl hu) hn
      rwa [set_same h0] at this
    have hst : setIxD (.ref n) (.dat p) (.dat (.tup ls)) S fun S' => Q (.dat .none) S' := ⟨n, p, _, ep, rfl, rfl, h0, hk, by rw [List.length_map]; exact hz, hset⟩
    simp [s_start, h0, hk]
    cases e : getL (us.map fun p => (p.1, D.dat p.2)) p with
    | none => simp; exact hst
    | some d =>
      have e' := e
      rw [getL_map] at e'
      cases e2 : us.find? fun q => decide (q.1 = p) with
      | none => rw [e2] at e'; cases e'
      | some q =>
        rw [e2] at e'
        obtain ⟨ts, et⟩ := hv q (List.mem_of_find?_eq_some e2)
        obtain ⟨qa, qb⟩ := q
        simp only at et
        subst et
        simp only [Option.map_some, Option.some.injEq] at e'
        subst e'
        by_cases hl : ls.length < ts.length
        · simp [hl]; exact hst
        · simp [hl]; exact hsame
  · exact h.elim
end L2.LL

/-! # LLPureM -/
set_option Elab.async false
set_option linter.all false
set_option maxRecDepth 100000
set_option maxHeartbeats 2000000
namespace L2.LL
open PySem PySem.Spec PyProof.Rows
theorem nodup_sub_length {α : Type} [DecidableEq α] : ∀ {l u : List α}, l.Nodup → (∀ x ∈ l, x ∈ u) → l.length ≤ u.length
  | [], _, _, _ => Nat.zero_le _
  | a :: l, u, hn, hs => by
    rw [List.nodup_cons] at hn
    have ha := hs a List.mem_cons_self
    have := nodup_sub_length (u := u.erase a) hn.2 fun x hx => by
      have hne : x ≠ a := fun e => hn.1 (e ▸ hx)
      exact (List.mem_erase_of_ne hne).mpr (hs x (List.mem_cons_of_mem _ hx))
    rw [List.length_erase_of_mem ha] at this
    have hp := List.length_pos_of_mem ha
    simp; omega
theorem scoD_mono {n k : Nat} {d : D} (h : scoD n d) (hk : n ≤ k) : scoD k d := by
  cases d with
  | ref j => exact Nat.lt_of_lt_of_le h hk
  | _ => trivial
theorem scoO_mono {n k : Nat} {o : AO} (h : scoO n o) (hk : n ≤ k) : scoO k o := by
  cases o with
  | lst ds => exact fun d hd => scoD_mono (h d hd) hk
  | dct kvs ep => exact fun p hp => scoD_mono (h p hp) hk
  | ins C fs => exact fun p hp => scoD_mono (h p hp) hk
theorem Sco.snoc {S : Sto} {o : AO} (hs : Sco S) (ho : scoO (S.length + 1) o) : Sco (S ++ [o]) := by
  intro x hx
  rw [List.length_append]
  rcases List.mem_append.mp hx with hx | hx
  · exact scoO_mono (hs x hx) (by simp)
  · have : x = o := by simpa using hx
    subst this; exact ho
theorem Sco.set {S : Sto} {o : AO} {n : Nat} (hs : Sco S) (ho : scoO S.length o) : Sco (S.set n o) := by
  intro x hx
  rw [List.length_set]
  rcases List.mem_or_eq_of_mem_set hx with hx | rfl
  · exact hs x hx
  · exact ho
theorem sco_lst {ts : List T} {n : Nat} : scoO n (.lst (ts.map .dat)) := fun d hd => by obtain ⟨t, _, rfl⟩ := List.mem_map.mp hd; trivial
theorem sco_lst' {α : Type} {l : List α} {f : α → T} {n : Nat} : scoO n (.lst (l.map fun x => .dat (f x))) := fun d hd => by obtain ⟨t, _, rfl⟩ := List.mem_map.mp hd; trivial
theorem sco_parts {ps : List T} {n ep : Nat} : scoO n (.dct (partsD ps) ep) := fun p hp => by
  obtain ⟨i, hi, rfl⟩ := List.mem_mapIdx.mp hp
  trivial
theorem gcl {S S' : Sto} {Q : DQ} {o : AO} (hs : Sco S) (ho : scoO (S.length + 1) o) (hp : ∃ l, S' = S ++ [o] ++ l) (h : Q (.ref S.length) (S ++ [o])) : gcR S.length Q (.ref S.length) S' := by
  obtain ⟨l, rfl⟩ := hp
  exact ⟨S ++ [o], List.prefix_append _ _, by simp, hs.snoc ho, by show S.length < (S ++ [o]).length; simp, h⟩
theorem set_mid {α : Type} {S l : List α} {a b : α} : (S ++ [a] ++ l).set S.length b = S ++ [b] ++ l := by
  rw [List.append_assoc, List.append_assoc, List.set_append_right _ _ (Nat.le_refl _)]; simp
theorem get_mid {α : Type} {S l : List α} {a : α} : (S ++ [a] ++ l)[S.length]? = some a := by simp
/-! ## parts -/
theorem subsL_eq {ts : List T} : subsL ts = ts.flatMap subs := by
  induction ts with
  | nil => rw [subsL]; rfl
  | cons t ts ih => rw [subsL, ih]; rfl
@[simp] theorem subs_tup {x : T} {ts : List T} : subs (.tup (x :: ts)) = .tup (x :: ts) :: ts.flatMap subs := by rw [subs, subsT, subsL_eq]
@[simp] theorem subs_num {i : Int} : subs (.num i) = [.num i] := by rw [subs]
theorem subs_len {M : Mac} (hM : M.Ok) {t : T} (w : WT M t) : (subs t).length + 1 ≤ 2 ^ (t.depth + 1) := by
  induction w with
  | leaf _ => simp
  | @tup f ts hf hts ih =>
    have e : (NestedKey.tup (nT f :: ts)).depth = NestedKey.depthAll ts + 1 := by rw [depth_tup]; simp
    rw [e, subs_tup]
    have hlen : ts.length = 1 ∨ ts.length = 2 := hM.rd _ (List.mem_of_getElem? hf)
    have hd := depthAll_le.mp (Nat.le_refl (NestedKey.depthAll ts))
    have key : ∀ t ∈ ts, (subs t).length + 1 ≤ 2 ^ (NestedKey.depthAll ts + 1) := fun t ht => Nat.le_trans (ih t ht) (Nat.pow_le_pow_right (by decide) (by have := hd t ht; omega))
    rcases hlen with h1 | h1
    · obtain ⟨a, rfl⟩ := List.length_eq_one_iff.mp h1
      have := key a (by simp)
      simp only [List.flatMap_cons, List.flatMap_nil, List.append_nil, List.length_cons]
      rw [Nat.pow_succ]; omega
    · obtain ⟨a, b, rfl⟩ : ∃ a b, ts = [a, b] := by match ts, h1 with | [a, b], _ => exact ⟨a, b, rfl⟩
      have h2 := key a (by simp)
      have h3 := key b (by simp)
      simp only [List.flatMap_cons, List.flatMap_nil, List.append_nil, List.length_cons, List.length_append]
      rw [Nat.pow_succ]; omega
theorem subs_le {M : Mac} (hM : M.Ok) {t : T} (w : WT M t) (hd : t.depth ≤ 8) : (subs t).length ≤ 511 := by
  have := subs_len hM w
  have : 2 ^ (t.depth + 1) ≤ 2 ^ 9 := Nat.pow_le_pow_right (by decide) (by omega)
  omega
theorem flat_le {M : Mac} (hM : M.Ok) {ts : List T} (hts : ∀ t ∈ ts, WT M t ∧ t.depth ≤ 8) : (ts.flatMap subs).length ≤ ts.length * 511 := by
  induction ts with
  | nil => simp
  | cons t ts ih =>
    have h1 := subs_le hM (hts t (by simp)).1 (hts t (by simp)).2
    have h2 := ih fun u hu => hts u (by simp [hu])
    simp only [List.flatMap_cons, List.length_append, List.length_cons]; omega
theorem subs_self {t : T} : t ∈ subs t := by
  cases t with
  | tup ks => rw [subs]; simp
  | _ => rw [subs]; simp
/-- parts of parts -/
theorem subs_wt {M : Mac} (hM : M.Ok) {t : T} (w : WT M t) : ∀ u ∈ subs t, WT M u ∧ u.depth ≤ t.depth ∧ ∀ f us, u = .tup (f :: us) → ∀ x ∈ us, x ∈ subs t := by
  induction w with
  | @leaf i hi =>
    intro u hu
    have : u = nT i := by simpa using hu
    subst this
    exact ⟨.leaf hi, Nat.le_refl _, fun f us e => by cases e⟩
  | @tup f ts hf hts ih =>
    intro u hu
    have e : (NestedKey.tup (nT f :: ts)).depth = NestedKey.depthAll ts + 1 := by rw [depth_tup]; simp
    have hd := depthAll_le.mp (Nat.le_refl (NestedKey.depthAll ts))
    rw [subs_tup] at hu
    rcases List.mem_cons.mp hu with rfl | hu
    · refine ⟨.tup hf hts, Nat.le_refl _, fun g us e2 x hx => ?_⟩
      cases e2
      rw [subs_tup]
      exact List.mem_cons_of_mem _ (List.mem_flatMap.mpr ⟨x, hx, subs_self⟩)
    · obtain ⟨t, ht, hu⟩ := List.mem_flatMap.mp hu
      obtain ⟨h1, h2, h3⟩ := ih t ht u hu
      refine ⟨h1, by rw [e]; have := hd t ht; omega, fun g us e2 x hx => ?_⟩
      rw [subs_tup]
      exact List.mem_cons_of_mem _ (List.mem_flatMap.mpr ⟨t, ht, h3 g us e2 x hx⟩)
theorem addP_mem {ps : List T} {t u : T} : u ∈ addP ps t ↔ u ∈ ps ∨ u = t := by
  unfold addP; split
  · rename_i h; exact ⟨.inl, fun z => z.elim id fun e => e ▸ h⟩
  · simp
theorem addP_nd {ps : List T} {t : T} (h : ps.Nodup) : (addP ps t).Nodup := by
  unfold addP; split
  · exact h
  · rename_i hn
    rw [List.nodup_append]
    refine ⟨h, by simp, fun a ha b hb e => ?_⟩
    have : b = t := by simpa using hb
    subst this; subst e; exact hn ha
theorem addP_pre {ps : List T} {t : T} : ps <+: addP ps t := by
  unfold addP; split
  · exact List.prefix_refl _
  · exact List.prefix_append _ _
theorem foldP_mem {l ps : List T} {u : T} : u ∈ l.foldl addP ps ↔ u ∈ ps ∨ u ∈ l := by
  induction l generalizing ps with
  | nil => simp
  | cons t l ih => rw [List.foldl_cons, ih, addP_mem, List.mem_cons, or_assoc]
theorem foldP_nd {l ps : List T} (h : ps.Nodup) : (l.foldl addP ps).Nodup := by
  induction l generalizing ps with
  | nil => exact h
  | cons t l ih => exact ih (addP_nd h)
theorem foldP_pre {l ps : List T} : ps <+: l.foldl addP ps := by
  induction l generalizing ps with
  | nil => exact List.prefix_refl _
  | cons t l ih => exact addP_pre.trans ih
theorem parts_mem {W : List Wish} {u : T} : u ∈ parts W ↔ ∃ w ∈ W, u ∈ subs w.2 := by
  unfold parts; rw [foldP_mem]; simp [List.mem_flatMap]
theorem parts_nd {W : List Wish} : (parts W).Nodup := foldP_nd List.nodup_nil
theorem parts_wt {M : Mac} {W : List Wish} (hM : M.Ok) (hW : WOk M W) {t : T} (h : t ∈ parts W) : WT M t ∧ t.depth ≤ 4 := by
  obtain ⟨w, hw, hu⟩ := parts_mem.mp h
  obtain ⟨a, b, c⟩ := hW.wt w hw
  obtain ⟨d, e, _⟩ := subs_wt hM b t hu
  exact ⟨d, by omega⟩
theorem parts_arg {M : Mac} {W : List Wish} (hM : M.Ok) (hW : WOk M W) {f : T} {us : List T} (h : .tup (f :: us) ∈ parts W) : ∀ x ∈ us, x ∈ parts W := by
  obtain ⟨w, hw, hu⟩ := parts_mem.mp h
  obtain ⟨a, b, c⟩ := hW.wt w hw
  obtain ⟨d, e, g⟩ := subs_wt hM b _ hu
  exact fun x hx => parts_mem.mpr ⟨w, hw, g f us rfl x hx⟩
theorem parts_wish {W : List Wish} {w : Wish} (h : w ∈ W) : w.2 ∈ parts W := parts_mem.mpr ⟨w, h, subs_self⟩
theorem find_mapIdx {ps : List T} {t : T} {f : Nat → D} : getL (ps.mapIdx fun i t => (t, f i)) t = if t ∈ ps then some (f (ps.idxOf t)) else none := by
  unfold getL
  induction ps generalizing f with
  | nil => simp
  | cons a l ih =>
    rw [List.mapIdx_cons, List.find?_cons]
    by_cases h : a = t
    · subst h; simp
    · have h' : ¬ t = a := fun e => h e.symm
      have := ih (f := fun i => f (i + 1))
      have hb : (a == t) = false := by simpa using h
      simp [h, h', this, List.idxOf_cons, hb]
theorem getL_parts {ps : List T} {t : T} : getL (partsD ps) t = if t ∈ ps then some (.dat (nT (ps.idxOf t))) else none := find_mapIdx
theorem partsD_snoc {ps : List T} {t : T} : partsD (ps ++ [t]) = partsD ps ++ [(t, .dat (nT ps.length))] := by unfold partsD; rw [List.mapIdx_append]; simp
theorem partsD_len {ps : List T} : (partsD ps).length = ps.length := by simp [partsD]
theorem partsD_k1 {ps : List T} : (partsD ps).map (·.1) = ps := by
  unfold partsD
  apply List.ext_getElem?
  intro i
  rw [List.getElem?_map, List.getElem?_mapIdx]
  cases ps[i]? <;> rfl
theorem partsD_keys {ps : List T} : (partsD ps).map (fun p => D.dat p.1) = ps.map .dat := by
  have : (partsD ps).map (fun p => D.dat p.1) = ((partsD ps).map (·.1)).map .dat := by rw [List.map_map]; rfl
  rw [this, partsD_k1]
end L2.LL

/-! # LLW4 -/
set_option Elab.async false
set_option linter.all false
set_option maxRecDepth 100000
set_option maxHeartbeats 2000000
namespace L2.LL
open PySem PySem.Spec PyProof.Rows
@[simp] theorem atI_lastS {α : Type} {xs : List α} {v : α} : atI (xs ++ [v]) (-1) = some v := atI_last xs v
theorem Mom.vd {M : Mac} {P : List Ln} {k : Nat} {Inv : Nat → List T → Nat → Prop} (m : Mom M P k Inv) (hP : LnsOk M P) {i : Nat} {l : Ln} {h : List T} {a : Nat} (hl : P[i]? = some l) (hi : Inv i h a) : (val h l).depth ≤ 6 := by
  have H := m.wt _ _ _ (m.m1 i l h a hl hi)
  have hc : l.c < h.length := by rw [(m.wt _ _ _ hi).len]; exact (hP l (List.mem_of_getElem? hl)).c
  exact (H.wt (val h l) (by unfold did; exact List.mem_set hc _)).2
theorem pair_key {M : Mac} {h : List T} {a d : Nat} (H : HT M d h) (hd : d ≤ 6) : keyOk (pairT h a) := by
  refine ⟨?_, rfl⟩
  have := H.depth
  simp only [pairT]
  rw [depth_tup]
  simp
  omega
@[simp] theorem enumT_len {ts : List T} : (enumT ts).length = ts.length := by simp [enumT]
def amU (Inv : Nat → List T → Nat → Prop) (i : Nat) (us : List (T × T)) : Prop := ∀ u ∈ us, ∃ h a ls, u = (pairT h a, .tup ls) ∧ ls.length ≤ i ∧ Inv i h a
def amI (M : Mac) (P : List Ln) (k : Nat) (Inv : Nat → List T → Nat → Prop) (S : Sto) (i : Nat) (σ : SD) (S' : Sto) : Prop := ∃ (j ep : Nat) (pre : List D) (us : List (T × T)) (x4 x5 x6 x7 x8 x9 : Option D), S <+: S' ∧ S.length ≤ j ∧ S'[S.length + 1]? = some (.lst (pre ++ [.ref j])) ∧ pre.length = i ∧ S'[j]? = some (.dct (us.map fun p => (p.1, .dat p.2)) ep) ∧
        us.length ≤ 3000 ∧ amU Inv i us ∧ σ = [some (.dat M.t), some (.dat (prT P)), some (.dat (nT k)), some (.ref (S.length + 1)), x4, x5, x6, x7, x8, x9]
def amJ (M : Mac) (P : List Ln) (k : Nat) (Inv : Nat → List T → Nat → Prop) (S S' : Sto) (i : Nat) (l : Ln) (q : Nat) (σ : SD) (S2 : Sto) : Prop := ∃ (us : List (T × T)) (ep : Nat) (x7 x8 x9 : Option D), S2 = S' ++ [.dct (us.map fun p => (p.1, .dat p.2)) ep] ∧ amU Inv (i + 1) us ∧ (us.map (·.1)).Nodup ∧
        σ = [some (.dat M.t), some (.dat (prT P)), some (.dat (nT k)), some (.ref (S.length + 1)), some (.dat (nT i)), some (.dat l.t), some (.ref S'.length), x7, x8, x9]
theorem am_len {Inv : Nat → List T → Nat → Prop} {i : Nat} {us : List (T × T)} {L : List T} (hL : L.length ≤ 3000) (hLi : ∀ h a, Inv i h a → pairT h a ∈ L) (hu : amU Inv i us) (hn : (us.map (·.1)).Nodup) : us.length ≤ 3000 := by
  have := nodup_sub_length (u := L) hn fun x hx => by
    obtain ⟨u, hu1, rfl⟩ := List.mem_map.mp hx
    obtain ⟨h, a, ls, rfl, _, hi⟩ := hu u hu1
    exact hLi h a hi
  rw [List.length_map] at this; omega
/-- one keep -/
theorem am_keep {M : Mac} {Inv : Nat → List T → Nat → Prop} {g : Gp} {S' : Sto} {i ep : Nat} {us : List (T × T)} {L : List T} {h : List T} {a : Nat} {ls : List T} {Q : DQ} (hL : L.length ≤ 3000) (hLi : ∀ h a, Inv i h a → pairT h a ∈ L) (hu : amU Inv i us) (hn : (us.map (·.1)).Nodup)
    (H : HT M 6 h) (hi : Inv i h a) (hls : ls.length ≤ i) (q : ∀ (us' : List (T × T)) (ep' : Nat), amU Inv i us' → (us'.map (·.1)).Nodup → Q (.dat .none) (S' ++ [.dct (us'.map fun p => (p.1, .dat p.2)) ep'])) :
    F_keep g [.ref S'.length, .dat (pairT h a), .dat (.tup ls)] (S' ++ [.dct (us.map fun p => (p.1, .dat p.2)) ep]) Q := by
  refine ⟨us, ep, by simp, pair_key H (Nat.le_refl 6), by have := am_len hL hLi hu hn; omega, fun u hu1 => ?_, hn, fun us' ep' h1 h2 => ?_⟩
  · obtain ⟨_, _, ls, rfl, _⟩ := hu u hu1; exact ⟨ls, rfl⟩
  · rw [set_last]
    refine q us' ep' (fun u hu1 => ?_) h2
    rcases h1 u hu1 with h1 | rfl
    · exact hu u h1
    · exact ⟨h, a, ls, rfl, hls, hi⟩
theorem w_all_moments {g : Gp} : ∀ ds S Q, F_all_moments g ds S Q → fb_all_moments g (EndN Q) (startD N_all_moments ds) S := by
  intro ds S Q h
  unfold F_all_moments at h
  split at h
  · obtain ⟨M, P, k, Inv, rfl, rfl, rfl, hM, hP, mo, h⟩ := h
    unfold fb_all_moments
    simp [s_start]
    refine ⟨M, rfl, hM, ?_⟩
    simp
    refine ⟨pair_key (a := 0) (firsts_ht.mono (Nat.zero_le 6)) (Nat.le_refl 6), fun ep => ?_⟩
    refine ⟨amI M P k Inv S, ?_, fun _ _ _ _ => trivial, ?_, ?_⟩
    · refine ⟨S.length, ep, [], [(pairT (firsts M.n) 0, .tup [])], _, _, _, _, _, _, ⟨_, rfl⟩, Nat.le_refl _, by simp, rfl, by simp, by simp, ?_, rfl⟩
      intro u hu
      have : u = (pairT (firsts M.n) 0, .tup []) := by simpa using hu
      subst this
      exact ⟨_, _, _, rfl, Nat.le_refl _, mo.m0⟩
    · rintro i t σ S' ht ⟨j, ep1, pre, us, x4, x5, x6, x7, x8, x9, hpre, hj, hF, hpl, hD, hz3, hI, rfl⟩
      obtain ⟨u, hu, rfl⟩ := enumT_get ht
      rw [List.getElem?_map, Option.map_eq_some_iff] at hu
      obtain ⟨l, hl, rfl⟩ := hu
      have hiP : i < P.length := (List.getElem?_eq_some_iff.mp hl).1
      have hi60 : i < 60 := Nat.lt_of_lt_of_le hiP hP.1
      have hlok := hP.2 l (List.mem_of_getElem? hl)
      obtain ⟨L, hL, hLi⟩ := mo.cnt (i + 1)
      have hFl := (List.getElem?_eq_some_iff.mp hF).1
      have hDl := (List.getElem?_eq_some_iff.mp hD).1
      simp
      intro ep2
      have hF2 : ∀ o : AO, (S' ++ [o])[S.length + 1]? = some (.lst (pre ++ [.ref j])) := fun o => by rw [List.getElem?_append_left hFl]; exact hF
      have hD2 : ∀ o : AO, (S' ++ [o])[j]? = some (.dct (us.map fun p => (p.1, .dat p.2)) ep1) := fun o => by rw [List.getElem?_append_left hDl]; exact hD
      simp [hF2]
      refine ⟨us, ep1, hD2 _, ?_⟩
      refine ⟨amJ M P k Inv S S' i l, ⟨[], ep2, _, _, _, rfl, (by intro u hu; cases hu), List.nodup_nil, rfl⟩, fun q σ S2 ⟨us', ep', _, _, _, e, _⟩ => ?_, ?_, ?_⟩
      · subst e; exact hD2 _
      · rintro q t σ S2 hq ⟨us', ep', y7, y8, y9, rfl, hU, hN, rfl⟩
        rw [List.getElem?_map, Option.map_eq_some_iff] at hq
        obtain ⟨u, hu, rfl⟩ := hq
        obtain ⟨h0, a0, ls, rfl, hls, hi⟩ := hI u (List.mem_of_getElem? hu)
        have H := mo.wt _ _ _ hi
        simp
        refine ⟨M, l, rfl, hM, hlok, H.mono (by omega), by have := mo.vd hP.2 hl hi; omega, ?_⟩
        simp
        refine am_keep (a := 0) hL hLi hU hN (mo.wt _ _ _ (mo.m1 i l h0 a0 hl hi)) (mo.m1 i l h0 a0 hl hi) (by omega) fun us2 ep3 hU2 hN2 => ?_
        by_cases hak : a0 < k
        · simp [hak]
          refine ⟨by omega, ?_⟩
          have e1 : ((a0 : Int) + 1) = ((a0 + 1 : Nat) : Int) := by omega
          rw [e1]
          refine am_keep hL hLi hU2 hN2 (mo.wt _ _ _ (mo.m2 i l h0 a0 hl hi hak)) (mo.m2 i l h0 a0 hl hi hak) (by simp; omega) fun us3 ep4 hU3 hN3 => ?_
          exact ⟨us3, ep4, _, _, _, rfl, hU3, hN3, rfl⟩
        · simp [hak]
          exact ⟨us2, ep3, _, _, _, rfl, hU2, hN2, rfl⟩
      · rintro σ S2 ⟨us', ep', y7, y8, y9, rfl, hU, hN, rfl⟩
        have hlen := am_len hL hLi hU hN
        have hlen2 : ¬ (3000 : Int) < us'.length := by omega
        simp [hF2, hlen2]
        refine ⟨by omega, ?_⟩
        refine ⟨S'.length, ep', pre ++ [.ref j], us', _, _, _, _, _, _, ?_, ?_, ?_, by simp [hpl], ?_, hlen, hU, rfl⟩
        · exact pre_set (pre_app hpre) (by omega)
        · exact Nat.le_trans hpre.length_le (Nat.le_refl _)
        · rw [List.getElem?_set_self (by simp; omega)]; simp
        · rw [List.getElem?_set_ne (by omega)]; simp
    · rintro σ S' ⟨j, ep1, pre, us, x4, x5, x6, x7, x8, x9, hpre, hj, hF, hpl, hD, hz3, hI, rfl⟩
      simp
      refine h S' _ j ep1 pre us hpre hF hD hz3 fun u hu => ?_
      obtain ⟨h0, a0, ls, e, _, hi⟩ := hI u hu
      exact ⟨h0, a0, ls, e, by simpa using hi⟩
  · exact h.elim
end L2.LL

/-! # LLW5 -/
set_option Elab.async false
set_option linter.all false
set_option maxRecDepth 100000
set_option maxHeartbeats 2000000
namespace L2.LL
open PySem PySem.Spec PyProof.Rows
theorem filter_ff {α : Type} {l : List α} : l.filter (fun _ => false) = [] := by simp
theorem w_least_harm {g : Gp} : ∀ ds S Q, Sco S → F_least_harm g ds S Q → fb_least_harm g (EndG S Q) (startD N_least_harm ds) S := by
  intro ds S Q hs h
  unfold F_least_harm at h
  split at h
  · obtain ⟨M, P, k, W, Inv, rfl, rfl, rfl, rfl, hM, hP, hW, mo, hf, h⟩ := h
    unfold fb_least_harm
    simp [s_start]
    refine ⟨M, P, k, Inv, rfl, rfl, rfl, hM, hP, mo, fun S' n j ep pre us hpre hF hD hz3 hI => ?_⟩
    simp [hF]
    refine ⟨us, ep, hD, ?_⟩
    refine lc_pure (fun _ => false) (fun _ => .bl true) hD (by simp; omega) (fun t R1 R0 ht h1 h0 => ?_) ?_
    · obtain ⟨u, hu, rfl⟩ := List.mem_map.mp ht
      obtain ⟨h', a, ls, rfl, hi⟩ := hI u hu
      simp
      refine ⟨M, W, rfl, hM, hW, (mo.wt _ _ _ hi).mono (by omega), ?_⟩
      simp [hf _ _ hi]
      exact h0 rfl
    · rw [filter_ff]
      simp
      exact gcd hs (pre_ex (pre_app hpre)) h
  · exact h.elim
theorem w_is_proof {g : Gp} : ∀ ds S Q, Sco S → F_is_proof g ds S Q → fb_is_proof g (EndG S Q) (startD N_is_proof ds) S := by
  intro ds S Q hs h
  unfold F_is_proof at h
  split at h
  · obtain ⟨M, P, k, W, Inv, rfl, rfl, rfl, rfl, hM, hP, hW, h1, h2, mo, hf, h⟩ := h
    unfold fb_is_proof
    simp [s_start]
    refine ⟨M, P, W, rfl, rfl, rfl, hM, hP, by omega, by omega, hW, ?_⟩
    simp
    refine ⟨M, P, k, W, Inv, rfl, rfl, rfl, rfl, hM, hP, hW, mo, hf, ?_⟩
    simp
    exact gcb0 hs h
  · exact h.elim
def reD (s : List T) (r : Nat) : List (T × D) := if r = 0 then [] else [(.tup s, .bl true)]
def reI (M : Mac) (P : List Ln) (k : Nat) (S : Sto) (i : Nat) (σ : SD) (S' : Sto) : Prop := ∃ (n ep : Nat) (x4 x5 x6 x7 : Option D), S <+: S' ∧ S'[n]? = some (.dct [(.tup (run (firsts M.n) (P.take i)), .bl true)] ep) ∧
  σ = [some (.dat M.t), some (.dat (prT P)), some (.dat (nT k)), some (.ref n), x4, x5, x6, x7]
def reJ (M : Mac) (P : List Ln) (k : Nat) (S' : Sto) (n : Nat) (l : Ln) (s : List T) (q : Nat) (σ : SD) (S2 : Sto) : Prop := ∃ (ep : Nat) (x6 x7 : Option D), S2 = S' ++ [.dct (reD s q) ep] ∧
  σ = [some (.dat M.t), some (.dat (prT P)), some (.dat (nT k)), some (.ref n), some (.dat l.t), some (.ref S'.length), x6, x7]
def reK (M : Mac) (P : List Ln) (k : Nat) (S' : Sto) (n : Nat) (l : Ln) (s0 s : List T) (q : Nat) (σ : SD) (S2 : Sto) : Prop := ∃ (ep : Nat) (x7 : Option D), S2 = S' ++ [.dct (reD s q) ep] ∧
  σ = [some (.dat M.t), some (.dat (prT P)), some (.dat (nT k)), some (.ref n), some (.dat l.t), some (.ref S'.length), some (.dat (.tup (if q = 0 then s0 else s))), x7]
theorem reD_put {s : List T} {r : Nat} : putL (reD s r) (.tup s) (.bl true) = reD s (r + 1) := by
  unfold reD putL
  by_cases h : r = 0 <;> simp [h]
theorem w_repeated_ends {g : Gp} : ∀ ds S Q, F_repeated_ends g ds S Q → fb_repeated_ends g (EndN Q) (startD N_repeated_ends ds) S := by
  intro ds S Q h
  unfold F_repeated_ends at h
  split at h
  · obtain ⟨M, P, k, rfl, rfl, rfl, hk, hM, hP, hsoft, ht, h⟩ := h
    unfold fb_repeated_ends
    simp [s_start]
    refine ⟨M, rfl, hM, ?_⟩
    simp
    refine ⟨(firsts_ht.mono (Nat.zero_le 6)).key (by omega), fun ep => ?_⟩
    refine ⟨reI M P k S, ⟨S.length, ep, _, _, _, _, ⟨_, rfl⟩, by simp; rfl, rfl⟩, fun _ _ _ _ => trivial, ?_, ?_⟩
    · rintro i t σ S' hti ⟨n, ep, x4, x5, x6, x7, hpre, hD, rfl⟩
      rw [List.getElem?_map, Option.map_eq_some_iff] at hti
      obtain ⟨l, hl, rfl⟩ := hti
      have hlok := hP.2 l (List.mem_of_getElem? hl)
      have hls := hsoft l (List.mem_of_getElem? hl)
      have hnl := (List.getElem?_eq_some_iff.mp hD).1
      have hD2 : ∀ o : AO, (S' ++ [o])[n]? = some (.dct [(.tup (run (firsts M.n) (P.take i)), .bl true)] ep) := fun o => by rw [List.getElem?_append_left hnl]; exact hD
      simp
      intro ep2
      refine ⟨_, _, hD2 _, ?_⟩
      have hs1 := ht (i + 1)
      have hvd := tame_vd ht hP.2 hl
      rw [run_succ hl] at hs1
      have H0 := ht i
      generalize es0 : run (firsts M.n) (P.take i) = s0 at *
      generalize es : did s0 l = s at *
      refine ⟨reJ M P k S' n l s, ⟨ep2, _, _, rfl, rfl⟩, fun q σ S2 ⟨ep', _, _, e, _⟩ => ?_, ?_, ?_⟩
      · subst e; exact hD2 _
      · rintro q t σ S2 hq ⟨ep3, y6, y7, rfl, rfl⟩
        have hq2 : q = 0 ∧ t = .tup s0 := by
          cases q with
          | zero => simp at hq; exact ⟨rfl, hq.symm⟩
          | succ q => simp at hq
        obtain ⟨rfl, rfl⟩ := hq2
        simp
        refine ⟨by unfold smallRg; omega, ?_⟩
        refine ⟨reK M P k S' n l s0 s, ⟨ep3, _, rfl, rfl⟩, fun _ _ _ _ => trivial, ?_, ?_⟩
        · rintro r t σ S2 hr ⟨ep4, z7, rfl, rfl⟩
          simp
          refine ⟨M, l, rfl, hM, hlok, ?_, ?_, ?_⟩
          · by_cases hr0 : r = 0
            · rw [if_pos hr0]; exact H0.mono (by omega)
            · rw [if_neg hr0]; exact hs1.mono (by omega)
          · by_cases hr0 : r = 0
            · rw [if_pos hr0]; omega
            · rw [if_neg hr0, ← es]
              have : val (did s0 l) l = val s0 l := val_set hlok hls
              rw [this]; omega
          · have e5 : did (if r = 0 then s0 else s) l = s := by
              by_cases hr0 : r = 0
              · rw [if_pos hr0]; exact es
              · rw [if_neg hr0, ← es]; exact did_did hlok hls
            simp [e5]
            refine ⟨S'.length, .tup s, reD s r, ep4, rfl, rfl, by simp, hs1.key (by omega), ?_, fun ep5 => ?_⟩
            · unfold reD; split <;> simp
            · rw [reD_put, set_last]
              exact ⟨ep5, some (.dat t), rfl, by simp⟩
        · rintro σ S2 ⟨ep4, z7, rfl, rfl⟩
          refine ⟨ep4, _, _, ?_, rfl⟩
          have : (rgT 0 ((k : Int) + 1)).length ≠ 0 := by unfold rgT; rw [List.length_map, List.length_range]; omega
          unfold reD
          rw [if_neg this]; rfl
      · rintro σ S2 ⟨ep3, y6, y7, rfl, rfl⟩
        simp [reD]
        refine ⟨S'.length, ep3, _, _, _, _, pre_app hpre, ?_, rfl⟩
        rw [run_succ hl, es0, es]; simp [reD]
    · rintro σ S' ⟨n, ep, x4, x5, x6, x7, hpre, hD, rfl⟩
      simp
      refine h S' n ep hpre ?_
      rw [List.length_map, List.take_length] at hD; exact hD
  · exact h.elim
theorem w_is_repeat_proof {g : Gp} : ∀ ds S Q, Sco S → F_is_repeat_proof g ds S Q → fb_is_repeat_proof g (EndG S Q) (startD N_is_repeat_proof ds) S := by
  intro ds S Q hs h
  unfold F_is_repeat_proof at h
  split at h
  · obtain ⟨M, P, k, W, rfl, rfl, rfl, rfl, h1, h2, hM, hP, hW, hso, ht, hf, h⟩ := h
    unfold fb_is_repeat_proof
    simp [s_start]
    refine ⟨M, P, W, rfl, rfl, rfl, hM, hP, by omega, by omega, hW, ?_⟩
    simp
    refine ⟨M, P, k, rfl, rfl, rfl, h2, hM, hP, hso, ht, fun S' n ep hpre hD => ?_⟩
    simp
    refine ⟨_, _, hD, ?_⟩
    refine gen_pure (fun _ => true) (by exact hD) (fun t R htm hR => ?_) ?_
    · have e : t = .tup (run (firsts M.n) P) := by simpa using htm
      subst e
      simp
      refine ⟨M, W, rfl, hM, hW, ?_, ?_⟩
      · have := ht P.length
        rw [List.take_length] at this; exact this.mono (by omega)
      · rw [hf]; exact hR
    · simp
      exact gcb hs (pre_ex hpre) h
  · exact h.elim
end L2.LL

/-! # LLW6 -/
set_option Elab.async false
set_option linter.all false
set_option maxRecDepth 100000
set_option maxHeartbeats 2000000
namespace L2.LL
open PySem PySem.Spec PyProof.Rows
theorem flat_succ {α β : Type} {l : List α} {f : α → List β} {i : Nat} {x : α} (e : l[i]? = some x) : (l.take (i + 1)).flatMap f = (l.take i).flatMap f ++ f x := by
  rw [List.take_add_one, e, List.flatMap_append]; simp
theorem map_app_dat {a b : List T} : (a.map D.dat) ++ (b.map D.dat) = (a ++ b).map .dat := by simp
theorem w_parts_of {g : Gp} {d : Nat} : ∀ ds S Q, Sco S → F_parts_ofN (d + 1) g ds S Q → fb_parts_of g (F_parts_ofN d g) (EndG S Q) (startD N_parts_of ds) S := by
  intro ds S Q hs h
  unfold F_parts_ofN at h
  split at h
  · rename_i v
    obtain ⟨M, hM, hv, hd, hd8, h⟩ := h
    unfold fb_parts_of
    rcases hv.cases hM with ⟨i, rfl, hi⟩ | ⟨f, ts, rfl, hf, hts, hne⟩
    · simp [s_start]
      exact gcl (o := .lst [.dat (nT i)]) hs (sco_lst (ts := [nT i])) ⟨[], by simp⟩ (by simpa using h)
    · have e : (NestedKey.tup (nT f :: ts)).depth = NestedKey.depthAll ts + 1 := by rw [depth_tup]; simp
      rw [e] at hd
      have hts2 := depthAll_le.mp (show NestedKey.depthAll ts ≤ d by omega)
      have hlen : ts.length ≤ 2 := by rcases hM.rd _ (List.mem_of_getElem? hf) with h | h <;> omega
      simp [s_start]
      refine ⟨fun i σ S' => (∃ l, S' = S ++ [.lst ((.tup (nT f :: ts) :: (ts.take i).flatMap subs).map .dat)] ++ l) ∧ ∃ x, σ = [some (.dat (.tup (nT f :: ts))), some (.ref S.length), x], ⟨⟨[], by simp⟩, _, rfl⟩, fun _ _ _ _ => trivial, ?_, ?_⟩
      · rintro i t σ S' ht ⟨⟨l, rfl⟩, x, rfl⟩
        have htm := List.mem_of_getElem? ht
        simp only [s_gN, s_seq, s_aug, s_call, s_cons, s_nil, s_var]
        refine ⟨.ref S.length, rfl, .dat t, rfl, M, hM, hts t htm, hts2 t htm, by omega, ?_⟩
        simp only [s_ext, s_next]
        have l1 := flat_le hM (ts := ts.take i) fun u hu => ⟨hts u (List.mem_of_mem_take hu), by have := hts2 u (List.mem_of_mem_take hu); omega⟩
        have l2 := subs_le hM (hts t htm) (by have := hts2 t htm; omega)
        have l3 : (ts.take i).length ≤ 2 := by rw [List.length_take]; omega
        refine ⟨_, (subs t).map .dat, by simp, by rw [List.getElem?_append_left (by simp)]; exact get_mid, by simp, by simp only [List.length_map, List.length_cons]; omega, ?_⟩
        refine ⟨⟨l ++ [.lst ((subs t).map .dat)], ?_⟩, some (.dat t), rfl⟩
        rw [map_app_dat, flat_succ ht, List.append_assoc (S ++ [_]), set_mid]
        simp
      · rintro σ S' ⟨⟨l, rfl⟩, x, rfl⟩
        simp only [s_next, s_seq, s_ret, s_var]
        refine ⟨_, rfl, ?_⟩
        refine gcl hs sco_lst ⟨l, rfl⟩ ?_
        rw [List.take_length, ← subs_tup]; exact h
  · exact h.elim
theorem w_all_parts {g : Gp} : ∀ ds S Q, Sco S → F_all_parts g ds S Q → fb_all_parts g (EndG S Q) (startD N_all_parts ds) S := by
  intro ds S Q hs h
  unfold F_all_parts at h
  split at h
  · obtain ⟨M, W, rfl, sok, h⟩ := h
    have hM := sok.m
    have hW := sok.w
    unfold fb_all_parts
    simp [s_start]
    intro ep
    refine ⟨fun i σ S' => (∃ l ep, S' = S ++ [.dct (partsD (((W.take i).flatMap fun w => subs w.2).foldl addP [])) ep] ++ l) ∧ ∃ x y z, σ = [some (.dat (wsT W)), some (.ref S.length), x, y, z], ⟨⟨[], ep, by simp [partsD]⟩, _, _, _, rfl⟩, fun _ _ _ _ => trivial, ?_, ?_⟩
    · rintro i t σ S' ht ⟨⟨l, ep1, rfl⟩, x, y, z, rfl⟩
      rw [List.getElem?_map, Option.map_eq_some_iff] at ht
      obtain ⟨w, hw, rfl⟩ := ht
      obtain ⟨w1, w2, w3⟩ := hW.wt w (List.mem_of_getElem? hw)
      simp only [s_gT, s_gsCons, s_gsNil, s_gN, s_seq, s_for, s_iL, s_call, s_cons, s_nil, s_var]
      refine ⟨rfl, trivial, .dat w.2, rfl, M, hM, w2, by omega, by omega, ?_⟩
      refine ⟨_, subs w.2, rfl, by simp, ?_⟩
      generalize hps : ((W.take i).flatMap fun w => subs w.2).foldl addP [] = ps0
      have hpre : ∀ j, ((subs w.2).take j).foldl addP ps0 <+: parts W := fun j => by
        have e1 : ((subs w.2).take j).foldl addP ps0 <+: (subs w.2).foldl addP ps0 := by
          conv => rhs; rw [← List.take_append_drop j (subs w.2), List.foldl_append]
          exact foldP_pre
        refine e1.trans ?_
        have e2 : (subs w.2).foldl addP ps0 = ((W.take (i + 1)).flatMap fun w => subs w.2).foldl addP [] := by
          rw [flat_succ hw, List.foldl_append, hps]
        rw [e2]
        unfold parts
        conv => rhs; rw [← List.take_append_drop (i + 1) W, List.flatMap_append, List.foldl_append]
        exact foldP_pre
      refine ⟨fun j σ S2 => (∃ l2 ep, S2 = S ++ [.dct (partsD (((subs w.2).take j).foldl addP ps0)) ep] ++ (l ++ [.lst ((subs w.2).map .dat)] ++ l2)) ∧ ∃ z, σ = [some (.dat (wsT W)), some (.ref S.length), some (.dat (nT w.1)), some (.dat w.2), z], ⟨⟨[], ep1, by simp⟩, _, rfl⟩, ?_, ?_, ?_⟩
      · rintro j σ S2 ⟨⟨l2, ep2, rfl⟩, z, rfl⟩
        have e : S ++ [AO.dct (partsD (((subs w.2).take j).foldl addP ps0)) ep2] ++ (l ++ [.lst ((subs w.2).map .dat)] ++ l2) = (S ++ [AO.dct (partsD (((subs w.2).take j).foldl addP ps0)) ep2] ++ l) ++ [.lst ((subs w.2).map .dat)] ++ l2 := by simp
        rw [e]
        have e2 : (S ++ [AO.dct (partsD ps0) ep1] ++ l).length = (S ++ [AO.dct (partsD (((subs w.2).take j).foldl addP ps0)) ep2] ++ l).length := by simp
        rw [e2]
        exact get_mid
      · rintro j u σ S2 hu ⟨⟨l2, ep2, rfl⟩, z, rfl⟩
        have hum := List.mem_of_getElem? hu
        obtain ⟨u1, u2, _⟩ := subs_wt hM w2 u hum
        have hl := (hpre j).length_le
        have hsz := sok.sz
        have hget : ∀ (a : AO) (r : Sto), (S ++ [a] ++ r)[S.length]? = some a := fun a r => get_mid
        generalize hq : ((subs w.2).take j).foldl addP ps0 = q at *
        have hq2 : ((subs w.2).take (j + 1)).foldl addP ps0 = addP q u := by rw [List.take_add_one, hu, List.foldl_append, hq]; rfl
        simp only [s_gN, s_seq, s_drop, s_mt2, s_call, s_cons, s_nil, s_var, s_next]
        refine ⟨.ref S.length, rfl, _, rfl, ⟨_, _, get_mid⟩, .dat u, rfl, .ref S.length, rfl, ?_⟩
        simp only [s_lenD]
        refine ⟨_, _, get_mid, ?_⟩
        refine ⟨_, _, get_mid, u1.key (by omega), by rw [partsD_len]; omega, fun d hd => ?_, fun hd ep3 => ?_⟩
        · rw [getL_parts] at hd
          split at hd
          · rename_i hm
            refine ⟨⟨l2, ep2, ?_⟩, some (.dat u), rfl⟩
            rw [hq2, addP, if_pos hm]
          · cases hd
        · rw [getL_parts] at hd
          split at hd
          · cases hd
          · rename_i hm
            refine ⟨⟨l2, ep3, ?_⟩, some (.dat u), rfl⟩
            rw [set_mid, hq2, addP, if_neg hm, partsD_snoc, partsD_len]
      · rintro σ S2 ⟨⟨l2, ep2, rfl⟩, z, rfl⟩
        refine ⟨⟨l ++ [.lst ((subs w.2).map .dat)] ++ l2, ep2, ?_⟩, _, _, _, rfl⟩
        rw [flat_succ hw, List.foldl_append, hps, List.take_length]
    · rintro σ S' ⟨⟨l, ep1, rfl⟩, x, y, z, rfl⟩
      rw [List.length_map, List.take_length]
      have h16 : ¬ (16 : Int) < (partsD (parts W)).length := by rw [partsD_len]; have := sok.sz; omega
      simp only [s_if, s_seq, s_test, s_op, s_call, s_cons, s_nil, s_var, s_C, s_next, s_ret]
      refine ⟨.ref S.length, rfl, ?_⟩
      simp only [s_lenD]
      refine ⟨_, _, get_mid, ?_⟩
      have h16' : ¬ (16 : Int) < (partsD (((W.flatMap fun w => subs w.2)).foldl addP [])).length := h16
      simp [h16']
      refine gcl hs sco_parts ⟨l, by simp [parts]⟩ (h ep1)
  · exact h.elim
end L2.LL

/-! # LLW7 -/
set_option Elab.async false
set_option linter.all false
set_option maxRecDepth 100000
set_option maxHeartbeats 2000000
namespace L2.LL
open PySem PySem.Spec PyProof.Rows
theorem rgT0 {n : Nat} : rgT 0 (n : Int) = (List.range n).map nT := rg_firsts
theorem range_get {n i : Nat} {t : T} (h : ((List.range n).map nT)[i]? = some t) : t = nT i ∧ i < n := by
  rw [List.getElem?_map, Option.map_eq_some_iff] at h
  obtain ⟨j, hj, rfl⟩ := h
  have hl := (List.getElem?_eq_some_iff.mp hj).1
  rw [List.getElem?_eq_getElem hl, List.getElem_range] at hj
  cases hj
  exact ⟨rfl, by simpa using hl⟩
theorem flat_take_len {α β γ : Type} {ts : List α} {us : List β} {f : α → β → γ} {i : Nat} (hi : i ≤ ts.length) : ((ts.take i).flatMap fun t => us.map (f t)).length = i * us.length := by
  induction i with
  | zero => simp
  | succ i ih =>
    have hx : ts[i]? = some ts[i] := List.getElem?_eq_getElem (by omega)
    rw [flat_succ hx, List.length_append, ih (by omega), List.length_map, Nat.succ_mul]
/-- two clauses, no tests, the second source the same at each turn -/
theorem lc2_map {S : Sto} {Q : DQ} {ts us : List T} {ok : Sto → Prop} {tg tg1 : TgD} {fi1 : ID} {te : ED} {vs vs1 : List Nat} {σ : SD} (f : T → T → D) (hok : ok S) (hz : ts.length * us.length ≤ 100000)
    (hs : ∀ (t : T) (R : SD → Prop), t ∈ ts → (∀ σ2, (∀ Qi : List T → (Sto → Prop) → Sto → Prop, Qi us (fun _ => True) S → fi1 σ2 S Qi) → (∀ (u : T) (R1 : DQ), u ∈ us → R1 (f t u) S → tg1 u (wipeD σ2 vs1) fun σ3 => te σ3 S R1) → R σ2) → tg t (wipeD σ vs) R)
    (h : Q (.ref S.length) (S ++ [.lst (ts.flatMap fun t => us.map (f t))])) : Lc2Ok ts ok tg xYes fi1 tg1 xYes te vs vs1 σ S Q := by
  refine ⟨fun i acc S' => S' = S ∧ acc = (ts.take i).flatMap fun t => us.map (f t), ⟨rfl, by simp⟩, fun i acc S' e => by rw [e.1]; exact hok, fun i t acc S' ht ⟨e, hi⟩ => ?_, fun acc S' ⟨e, hi⟩ => ?_⟩
  · subst e
    refine hs t _ (List.mem_of_getElem? ht) fun σ2 h1 h2 => ?_
    show fi1 σ2 S' _
    refine h1 _ ⟨fun j acc2 S2 => S2 = S' ∧ acc2 = acc ++ (us.take j).map (f t), ⟨rfl, by simp⟩, fun _ _ _ _ => trivial, fun j u acc2 S2 hu ⟨e2, hi2⟩ => ?_, fun acc2 S2 ⟨e2, hi2⟩ => ⟨e2, ?_⟩⟩
    · subst e2
      refine h2 u _ (List.mem_of_getElem? hu) ⟨?_, rfl, ?_⟩
      · have a1 := (List.getElem?_eq_some_iff.mp ht).1
        have a2 := (List.getElem?_eq_some_iff.mp hu).1
        have a3 : acc.length = i * us.length := by
          rw [hi]; exact flat_take_len (by omega)
        rw [hi2, List.length_append, List.length_map, List.length_take, a3]
        have : (i + 1) * us.length ≤ ts.length * us.length := Nat.mul_le_mul_right _ a1
        rw [Nat.succ_mul] at this; omega
      · rw [hi2, List.take_add_one, hu]; simp
    · rw [hi2, List.take_length, hi, flat_succ ht]
  · subst e
    rw [hi, List.take_length]; exact h
abbrev srcD (l : List (List Nat)) : List T := l.map fun s => .tup (nTs s)
theorem rows_len {n r : Nat} (hn : n ≤ 3) : (rows n r).length ≤ 9 := by
  unfold rows
  split
  · simp; omega
  · have : n = 0 ∨ n = 1 ∨ n = 2 ∨ n = 3 := by omega
    rcases this with rfl | rfl | rfl | rfl <;> decide
def fnLines (M : Mac) (c i : Nat) (r : Nat) : List Ln := (rows M.n r).map fun src => ⟨c, some i, src⟩
def cpLines (M : Mac) (c : Nat) : List Ln := ((List.range M.n).filter fun s => decide (s ≠ c)).map fun s => ⟨c, none, [s]⟩
theorem cellLines_eq {M : Mac} {c : Nat} : cellLines M c = (M.fs.zipIdx.flatMap fun x => fnLines M c x.2 x.1) ++ cpLines M c := rfl
theorem fnLines_len {M : Mac} (hM : M.Ok) {c : Nat} {l : List (Nat × Nat)} : (l.flatMap fun x => fnLines M c x.2 x.1).length ≤ l.length * 9 := by
  induction l with
  | nil => simp
  | cons a l ih =>
    have := rows_len (n := M.n) (r := a.1) hM.n3
    simp only [List.flatMap_cons, List.length_append, List.length_cons, fnLines, List.length_map] at ih ⊢; omega
theorem cpLines_len {M : Mac} (hM : M.Ok) {c : Nat} : (cpLines M c).length ≤ 3 := by
  unfold cpLines
  rw [List.length_map]
  have := List.length_filter_le (fun s => decide (s ≠ c)) (List.range M.n)
  have := hM.n3
  simp at *; omega
theorem cellLines_len {M : Mac} (hM : M.Ok) {c : Nat} : (cellLines M c).length ≤ 21 := by
  rw [cellLines_eq, List.length_append]
  have h1 := fnLines_len hM (c := c) (l := M.fs.zipIdx)
  have h2 := cpLines_len hM (c := c)
  have := hM.f2
  rw [List.length_zipIdx] at h1; omega
theorem allLines_take {M : Mac} (hM : M.Ok) {i : Nat} : (((List.range M.n).take i).flatMap (cellLines M)).length ≤ 63 := by
  have : ∀ l : List Nat, (l.flatMap (cellLines M)).length ≤ l.length * 21 := fun l => by
    induction l with
    | nil => simp
    | cons a l ih => have := cellLines_len hM (c := a); simp only [List.flatMap_cons, List.length_append, List.length_cons]; omega
  have h := this ((List.range M.n).take i)
  have := hM.n3
  rw [List.length_take, List.length_range] at h; omega
def lnD (l : List Ln) : List D := l.map fun l => .dat l.t
theorem lnD_app {a b : List Ln} : lnD a ++ lnD b = lnD (a ++ b) := by simp [lnD]
def accL (M : Mac) (i : Nat) : List Ln := ((List.range M.n).take i).flatMap (cellLines M)
def alI (M : Mac) (Bs : Sto) (x3 : D) (acc : List Ln) (σ : SD) (S' : Sto) : Prop := (∃ l, S' = Bs ++ [.lst (lnD acc)] ++ l) ∧ ∃ x4 x5 x7 x8 x9 x10 x11,
  σ = [some (.dat M.t), some (.dat (nT M.n)), some (.dat (.tup (nTs M.fs))), some x3, x4, x5, some (.ref Bs.length), x7, x8, x9, x10, x11]
def alJ (M : Mac) (Bs : Sto) (x3 : D) (c : Nat) (acc : List Ln) (σ : SD) (S' : Sto) : Prop := (∃ l, S' = Bs ++ [.lst (lnD acc)] ++ l) ∧ ∃ x4 x5 x8 x9 x10 x11,
  σ = [some (.dat M.t), some (.dat (nT M.n)), some (.dat (.tup (nTs M.fs))), some x3, x4, x5, some (.ref Bs.length), some (.dat (nT c)), x8, x9, x10, x11]
/-- found += [..] -/
theorem al_ext {Bs l : Sto} {acc new : List Ln} {Q : DQ} (hz : acc.length + new.length ≤ 100000) (h : Q (.ref Bs.length) (Bs ++ [.lst (lnD (acc ++ new))] ++ (l ++ [.lst (lnD new)]))) :
    opExt (.ref Bs.length) (.ref (Bs ++ [AO.lst (lnD acc)] ++ l).length) (Bs ++ [.lst (lnD acc)] ++ l ++ [.lst (lnD new)]) Q := by
  refine ⟨lnD acc, lnD new, by simp, by rw [List.getElem?_append_left (by simp)]; exact get_mid, by simp, by simp [lnD]; omega, ?_⟩
  rw [lnD_app, List.append_assoc (Bs ++ [_]), set_mid]; exact h
theorem w_all_lines {g : Gp} : ∀ ds S Q, F_all_lines g ds S Q → fb_all_lines g (EndN Q) (startD N_all_lines ds) S := by
  intro ds S Q h
  unfold F_all_lines at h
  split at h
  · obtain ⟨M, rfl, hM, h⟩ := h
    unfold fb_all_lines
    have hn3 := hM.n3
    have hf2 := hM.f2
    have hsm : smallRg 0 (M.n : Int) := by unfold smallRg; omega
    simp [s_start, hsm, rgT0]
    refine lc_map (fun t => .dat (.tup [t])) (by trivial) (by simp; omega) (fun t R1 ht h1 => ?_) ?_
    · obtain ⟨i, _, rfl⟩ := List.mem_map.mp ht
      simpa using h1
    simp
    refine ⟨⟨by simp, rfl⟩, fun ep1 => ?_⟩
    refine lc2_map (us := (List.range M.n).map nT) (fun t u => .dat (.tup [t, u])) (by trivial) ?_ (fun t R ht hR => ?_) ?_
    · simp
      exact Nat.le_trans (Nat.mul_le_mul hn3 hn3) (by decide)
    · obtain ⟨i, _, rfl⟩ := List.mem_map.mp ht
      simp
      refine hR _ (fun Qi hQ => ?_) (fun u R1 hu h1 => ?_)
      · simp [hsm, rgT0]; exact hQ
      · obtain ⟨j, _, rfl⟩ := List.mem_map.mp hu
        simpa using h1
    have er1 : (List.range M.n).map ((fun t => D.dat (.tup [t])) ∘ nT) = (srcD (rows M.n 1)).map .dat := by simp [srcD, rows, Function.comp_def]
    have er2 : (((List.range M.n).map nT).flatMap fun t => ((List.range M.n).map nT).map fun u => D.dat (.tup [t, u])) = (srcD (rows M.n 2)).map .dat := by
      simp [srcD, rows, Function.comp_def, List.flatMap_map, List.map_flatMap]
    rw [er1, er2]
    refine ⟨S.length + 1, .num 2, [(.num 1, .ref S.length)], ep1, rfl, rfl, by simp, ⟨by simp, rfl⟩, by simp, fun ep2 => ?_⟩
    have eS : (S ++ [AO.lst ((srcD (rows M.n 1)).map .dat), .dct [(.num 1, .ref S.length)] ep1] ++ [AO.lst ((srcD (rows M.n 2)).map .dat)]).set (S.length + 1) (.dct (putL [(.num 1, .ref S.length)] (.num 2) (.ref (S ++ [AO.lst ((srcD (rows M.n 1)).map .dat), .dct [(.num 1, .ref S.length)] ep1]).length)) ep2)
        = S ++ [AO.lst ((srcD (rows M.n 1)).map .dat), .dct [(.num 1, .ref S.length), (.num 2, .ref (S.length + 2))] ep2, .lst ((srcD (rows M.n 2)).map .dat)] := by
      rw [List.append_assoc, List.set_append_right _ _ (by omega)]
      simp [putL]
    rw [eS]
    have hrow : ∀ r, r = 1 ∨ r = 2 → ∃ k, getL [(NestedKey.num 1, D.ref S.length), (.num 2, .ref (S.length + 2))] (nT r) = some (.ref k) ∧ ∀ rest, (S ++ [AO.lst ((srcD (rows M.n 1)).map .dat), .dct [(.num 1, .ref S.length), (.num 2, .ref (S.length + 2))] ep2, .lst ((srcD (rows M.n 2)).map .dat)] ++ rest)[k]? = some (.lst ((srcD (rows M.n r)).map .dat)) := by
      intro r hr
      rcases hr with rfl | rfl
      · exact ⟨S.length, by simp [getL], fun rest => by simp⟩
      · exact ⟨S.length + 2, by simp [getL], fun rest => by simp⟩
    have hdct : ∀ rest, (S ++ [AO.lst ((srcD (rows M.n 1)).map .dat), .dct [(.num 1, .ref S.length), (.num 2, .ref (S.length + 2))] ep2, .lst ((srcD (rows M.n 2)).map .dat)] ++ rest)[S.length + 1]? = some (.dct [(.num 1, .ref S.length), (.num 2, .ref (S.length + 2))] ep2) := fun rest => by simp
    have hpreB : S <+: S ++ [AO.lst ((srcD (rows M.n 1)).map .dat), .dct [(.num 1, .ref S.length), (.num 2, .ref (S.length + 2))] ep2, .lst ((srcD (rows M.n 2)).map .dat)] := List.prefix_append _ _
    generalize hkv : [(NestedKey.num 1, D.ref S.length), (.num 2, .ref (S.length + 2))] = kv at *
    generalize hBs : S ++ [AO.lst ((srcD (rows M.n 1)).map .dat), .dct kv ep2, .lst ((srcD (rows M.n 2)).map .dat)] = Bs at *
    clear eS er1 er2
    refine ⟨fun i => alI M Bs (.ref (S.length + 1)) (accL M i), ⟨⟨[], by simp [lnD, accL]⟩, _, _, _, _, _, _, _, rfl⟩, fun _ _ _ _ => trivial, ?_, ?_⟩
    · rintro i t σ S' ht ⟨⟨l, rfl⟩, x4, x5, x7, x8, x9, x10, x11, rfl⟩
      obtain ⟨rfl, hi⟩ := range_get ht
      have hacc := allLines_take hM (i := i)
      have hA2 : accL M (i + 1) = accL M i ++ cellLines M i := by
        unfold accL
        rw [flat_succ (x := i) (by simp [hi])]
      rw [show ((List.range M.n).take i).flatMap (cellLines M) = accL M i from rfl] at hacc
      generalize hA : accL M i = acc at *
      simp
      refine ⟨fun j => alJ M Bs (.ref (S.length + 1)) i (acc ++ (M.fs.zipIdx.take j).flatMap fun x => fnLines M i x.2 x.1), ⟨⟨l, by simp⟩, _, _, _, _, _, _, rfl⟩, fun _ _ _ _ => trivial, ?_, ?_⟩
      · rintro j t σ S2 hj ⟨⟨l2, rfl⟩, y4, y5, y8, y9, y10, y11, rfl⟩
        obtain ⟨u, hu, rfl⟩ := enumT_get hj
        rw [List.getElem?_map, Option.map_eq_some_iff] at hu
        obtain ⟨r, hr, rfl⟩ := hu
        obtain ⟨k, hk1, hk2⟩ := hrow r (hM.rd r (List.mem_of_getElem? hr))
        have hzi : M.fs.zipIdx[j]? = some (r, j) := by simp [List.getElem?_zipIdx, hr]
        have hlen9 := rows_len (n := M.n) (r := r) hn3
        have hacc2 := fnLines_len hM (c := i) (l := M.fs.zipIdx.take j)
        have hl2 : (M.fs.zipIdx.take j).length ≤ 2 := by rw [List.length_take, List.length_zipIdx]; omega
        simp only [s_gT, s_gsCons, s_gsNil, s_gN, s_seq, s_aug, s_lc, s_iL, s_op, s_var, s_next]
        refine ⟨rfl, trivial, .ref Bs.length, rfl, .ref (S.length + 1), rfl, .dat (nT r), rfl, ?_⟩
        rw [s_ixD]
        refine ⟨kv, ep2, .ref k, by rw [List.append_assoc]; exact hdct _, ⟨by simp, rfl⟩, hk1, k, srcD (rows M.n r), rfl, by rw [List.append_assoc]; exact hk2 _, ?_⟩
        refine lc_map (fun t => .dat (.tup [nT i, nT j, t])) (by rw [List.append_assoc]; exact hk2 _) (by rw [List.length_map]; omega) (fun t R1 ht h1 => ?_) ?_
        · simpa using h1
        have e : (srcD (rows M.n r)).map (fun t => D.dat (.tup [nT i, nT j, t])) = lnD (fnLines M i j r) := by simp [srcD, lnD, fnLines, Function.comp_def, fT]
        rw [e]
        refine al_ext (by simp only [List.length_append, fnLines, List.length_map] at hacc2 ⊢; omega) ?_
        refine ⟨⟨l2 ++ [.lst (lnD (fnLines M i j r))], ?_⟩, _, _, _, _, _, _, rfl⟩
        rw [flat_succ hzi, List.append_assoc acc]
      · rintro σ S2 ⟨⟨l2, rfl⟩, y4, y5, y8, y9, y10, y11, rfl⟩
        rw [enumT_len, List.length_map]
        rw [List.take_of_length_le (by rw [List.length_zipIdx]; omega)]
        have hacc2 := fnLines_len hM (c := i) (l := M.fs.zipIdx)
        have hcp := cpLines_len hM (c := i)
        rw [List.length_zipIdx] at hacc2
        simp only [s_seq, s_aug, s_lc, s_iRg, s_rg1, s_op, s_var, s_next]
        refine ⟨.ref Bs.length, rfl, .dat (nT M.n), rfl, hsm, ?_⟩
        rw [rgT0]
        refine lc_pure (fun t => decide (t ≠ nT i)) (fun t => .dat (.tup [nT i, .none, .tup [t]])) (by trivial) (by simp; omega) (fun t R1 R0 ht h1 h0 => ?_) ?_
        · obtain ⟨s, _, rfl⟩ := List.mem_map.mp ht
          by_cases hsi : s = i
          · subst hsi
            simp at h0 ⊢; exact h0
          · have hsi2 : ¬ ((s : Int) = (i : Int)) := by omega
            simp [hsi2] at h1 ⊢; exact h1
        have e : (((List.range M.n).map nT).filter fun t => decide (t ≠ nT i)).map (fun t => D.dat (.tup [nT i, .none, .tup [t]])) = lnD (cpLines M i) := by
          rw [List.filter_map, List.map_map]
          have hcast : ∀ x : Nat, ((x : Int) = (i : Int)) = (x = i) := fun x => propext (by omega)
          simp [lnD, cpLines, Function.comp_def, fT, hcast]
        rw [e]
        refine al_ext (by simp only [List.length_append]; omega) ?_
        refine ⟨⟨l2 ++ [.lst (lnD (cpLines M i))], ?_⟩, _, _, _, _, _, _, _, rfl⟩
        rw [hA2, cellLines_eq, List.append_assoc acc]
    · rintro σ S' ⟨⟨l, rfl⟩, x4, x5, x7, x8, x9, x10, x11, rfl⟩
      simp only [s_seq, s_ret, s_var]
      refine ⟨.ref Bs.length, rfl, h _ Bs.length (by rw [List.append_assoc]; exact pre_app hpreB) ?_⟩
      have : accL M ((List.range M.n).map nT).length = allLines M := by unfold accL; rw [List.length_map, List.take_length]; rfl
      rw [this]
      exact get_mid
  · exact h.elim
end L2.LL

/-! # LLD4 -/
set_option Elab.async false
set_option linter.all false
set_option maxRecDepth 100000
set_option maxHeartbeats 2000000
namespace L2.LL
open PySem PySem.Spec PyProof.Rows
/-- Search.__init__ -/
theorem sc_S_init : FnScope N_S_init P_S_init (defScope s_S_init) := ⟨rfl, rfl, rfl, by decide +kernel, rfl, by decide +kernel, by decide +kernel⟩
def fb_S_init (g : Gp) : BD :=
  (bSeq (bFld g.cS "parts" (dVar 0) (dCall (F_all_parts g) (dCons (dVar 2) dNil)))
    (bSeq (bFld g.cS "terms" (dVar 0) (dCall fListD (dCons (dFld g.cS "parts" (dVar 0)) dNil)))
    (bSeq (bFld g.cS "goal" (dVar 0) (dLc (iT (dVar 2)) (gT 2 (gsCons (gN 4) (gsCons (gN 5) gsNil))) xYes (dTup (dCons (dVar 4) (dCons (dOp opIxD (dFld g.cS "parts" (dVar 0)) (dVar 5)) dNil))) [4, 5]))
    (bSeq (bFld g.cS "moves" (dVar 0) (dLc (iL (dCall (F_all_lines g) (dCons (dVar 1) dNil))) (gN 6) (xOr (dTruth (dCall (F_is_soft g) (dCons (dVar 6) dNil))) (xNot (dTruth (dVar 3)))) (dVar 6) [6]))
    (bSeq (bFld g.cS "start" (dVar 0) (dGc (dCall fTupleOf (dCons (dLc (iT (dCall (F_first_terms g) (dCons (dVar 1) dNil))) (gN 5) xYes (dMt2 mGetD (dFld g.cS "parts" (dVar 0)) (dVar 5) (dC (.dat (.num (-1))))) [5]) dNil))))
    bNext)))))
theorem dv_S_init {P : Program} {w : World} {K : PySem.W.Frag} {mg : Str → Option Value} {base : Heap} {g : Gp} (t : Tx K mg g) {k : Nat} (G_all_parts : FnOk P w K mg base CX0 k t.f_all_parts t.fd_all_parts P_all_parts (spD K w g (F_all_parts g))) (G_all_lines : FnOk P w K mg base CX0 k t.f_all_lines t.fd_all_lines P_all_lines (spD K w g (F_all_lines g))) (G_is_soft : FnOk P w K mg base CX0 k t.f_is_soft t.fd_is_soft P_is_soft (spD K w g (F_is_soft g))) (G_first_terms : FnOk P w K mg base CX0 k t.f_first_terms t.fd_first_terms P_first_terms (spD K w g (F_first_terms g))) (A : Around) (outer : List Env) (s : Shared) (H : Hp) (E : XK)
    (hr : Room (k) (A.deeper (envOfC "Search.__init__" (defScope s_S_init) s.heap.objs.size t.f_S_init t.cd_S_init))) : DSs g (cxOf CX0 P w K mg base N_S_init "Search.__init__" (defScope s_S_init) t.f_S_init t.cd_S_init A outer s H E).nox (defBody s_S_init) (fb_S_init g) := by
  have scN : N_S_init.Nodup := sc_S_init.nd
  exact (dss_cons (ds_fld (de_var 0) (de_call G_all_parts hr rfl t.m_all_parts t.k_all_parts t.b_all_parts (da_cons (de_var 2) da_nil)) t.clS t.na_parts)
    (dss_cons (ds_fld (de_var 0) (de_callTy (cr_listD rfl) rfl t.n_list bt_list (da_cons (de_fld (de_var 0) t.clS t.na_parts) da_nil)) t.clS t.na_terms)
    (dss_cons (ds_fld (de_var 0) (de_lc rfl scN  (di_tup (de_var 2)) (blkOk_by (N := N_S_init) (sc := defScope s_S_init) (own := [("cell", 4), ("term", 5)]) (by decide +kernel)) (fun _ _ _ _ _ => (dg_t rfl (dgs_cons (dg_n scN (i := 4)) (dgs_cons (dg_n scN (i := 5)) dgs_nil)))) (fun _ _ _ _ _ => dts_nil) (fun _ _ _ _ _ => (de_tup (da_cons (de_var 4) (da_cons (de_ixD (u10 hr) (de_fld (de_var 0) t.clS t.na_parts) (de_var 5)) da_nil))))) t.clS t.na_goal)
    (dss_cons (ds_fld (de_var 0) (de_lc rfl scN  (di_list (de_call G_all_lines hr rfl t.m_all_lines t.k_all_lines t.b_all_lines (da_cons (de_var 1) da_nil))) (blkOk_by (N := N_S_init) (sc := defScope s_S_init) (own := [("line", 6)]) (by decide +kernel)) (fun _ _ _ _ _ => (dg_n scN (i := 6))) (fun _ _ _ _ _ => (dts_one (dx_bool (dw_or (dx_truth (de_call G_is_soft hr rfl t.m_is_soft t.k_is_soft t.b_is_soft (da_cons (de_var 6) da_nil))) (dw_or1 (dx_not (dx_truth (de_var 3)))))))) (fun _ _ _ _ _ => (de_var 6))) t.clS t.na_moves)
    (dss_cons (ds_fld (de_var 0) (de_gc (de_callTy cr_tupleOf rfl t.n_tuple bt_tuple (da_cons (de_lc rfl scN  (di_tup (de_call G_first_terms hr rfl t.m_first_terms t.k_first_terms t.b_first_terms (da_cons (de_var 1) da_nil))) (blkOk_by (N := N_S_init) (sc := defScope s_S_init) (own := [("term", 5)]) (by decide +kernel)) (fun _ _ _ _ _ => (dg_n scN (i := 5))) (fun _ _ _ _ _ => dts_nil) (fun _ _ _ _ _ => (de_getD (u10 hr) (de_fld (de_var 0) t.clS t.na_parts) (de_var 5) (de_const rfl t.c_NOTHING)))) da_nil))) t.clS t.na_start)
    dss_nil)))))
/-- Search.behind -/
theorem sc_S_behind : FnScope N_S_behind P_S_behind (defScope s_S_behind) := ⟨rfl, rfl, rfl, by decide +kernel, rfl, by decide +kernel, by decide +kernel⟩
def fb_S_behind (g : Gp) : BD :=
  (bSeq (bAsg (dVar 2) (gT 3 (gsCons (gN 3) (gsCons (gN 4) (gsCons (gN 5) gsNil)))))
    (bSeq (bIf (dTruth (dGen false (iT (dVar 5)) (gN 6) (dOp opEq (dOp (opIx g) (dVar 1) (dVar 6)) (dC (.dat (.num (-1))))) [6])) (bSeq (bRet (dC (.dat .none)))
    bNext) bNext)
    (bSeq (bIf (dTest (dOp (opIs false) (dVar 4) (dC (.dat .none)))) (bSeq (bSet 7 (dOp (opIx g) (dVar 1) (dOp (opIx g) (dVar 5) (dC (.dat (.num 0))))))
    bNext) (bSeq (bSet 7 (dMt2 mGetD (dFld g.cS "parts" (dVar 0)) (dOp opAdd (dTup (dCons (dVar 4) dNil)) (dGc (dCall fTupleOf (dCons (dLc (iT (dVar 5)) (gN 6) xYes (dOp (opIx g) (dFld g.cS "terms" (dVar 0)) (dOp (opIx g) (dVar 1) (dVar 6))) [6]) dNil)))) (dC (.dat (.num (-1))))))
    bNext))
    (bSeq (bIf (xOr (dTest (dOp opEq (dVar 7) (dC (.dat (.num (-1)))))) (dTest (dOp opEq (dVar 7) (dOp (opIx g) (dVar 1) (dVar 3))))) (bSeq (bRet (dC (.dat .none)))
    bNext) bNext)
    (bSeq (bRet (dOp opAdd (dOp opAdd (dCut (dVar 1) oNo (oAt (dVar 3))) (dTup (dCons (dVar 7) dNil))) (dCut (dVar 1) (oAt (dOp opAdd (dVar 3) (dC (.dat (.num 1))))) oNo)))
    bNext)))))
theorem dv_S_behind {P : Program} {w : World} {K : PySem.W.Frag} {mg : Str → Option Value} {base : Heap} {g : Gp} (t : Tx K mg g) (tb : TxB base mg t) {k : Nat} (A : Around) (outer : List Env) (s : Shared) (H : Hp) (E : XK)
    (hr : Room (k + 1) (A.deeper (envOfC "Search.behind" (defScope s_S_behind) s.heap.objs.size t.f_S_behind (.ref t.cc_S_behind)))) : DSs g (cxOf CX0 P w K mg base N_S_behind "Search.behind" (defScope s_S_behind) t.f_S_behind (.ref t.cc_S_behind) A outer s H E).nox (defBody s_S_behind) (fb_S_behind g) := by
  have scN : N_S_behind.Nodup := sc_S_behind.nd
  have hr1 := hr.mono (Nat.le_succ k)
  exact (dss_cons (ds_asg (de_var 2) (dg_t rfl (dgs_cons (dg_n scN (i := 3)) (dgs_cons (dg_n scN (i := 4)) (dgs_cons (dg_n scN (i := 5)) dgs_nil)))))
    (dss_cons (ds_if (dx_truth (de_any hr rfl (by rfl) t.n_any bt_any (tb.tb_S_behind) (by rfl) t.z_S_behind t.l_S_behind (gsc_by (N := N_S_behind) (sc := defScope s_S_behind) (own := [("source", 6)]) (by decide +kernel)) scN (di_tup (de_var 5)) (by intro _; rfl) (fun _ _ _ _ _ _ => (dg_n scN (i := 6))) (fun _ _ _ _ _ _ => (de_cmp (od_eq (u64 (room_gx hr))) (de_ix (de_var 1) (de_var 6) (fun _ _ => rfl)) (de_const rfl t.c_NOTHING))))) (dss_cons (ds_ret (de_non))
    dss_nil) dss_nil)
    (dss_cons (ds_if (dx_cmp od_is (de_var 4) (de_non)) (dss_cons (ds_set (i := 7) scN (de_ix (de_var 1) (de_ix (de_var 5) (de_int) (fun _ _ => rfl)) (fun _ _ => rfl)))
    dss_nil) (dss_cons (ds_set (i := 7) scN (de_getD (u10 hr) (de_fld (de_var 0) t.clS t.na_parts) (de_op od_add (de_tup (da_cons (de_var 4) da_nil)) (de_gc (de_callTy cr_tupleOf rfl t.n_tuple bt_tuple (da_cons (de_lc rfl scN  (di_tup (de_var 5)) (blkOk_by (N := N_S_behind) (sc := defScope s_S_behind) (own := [("source", 6)]) (by decide +kernel)) (fun _ _ _ _ _ => (dg_n scN (i := 6))) (fun _ _ _ _ _ => dts_nil) (fun _ _ _ _ _ => (de_ix (de_fld (de_var 0) t.clS t.na_terms) (de_ix (de_var 1) (de_var 6) (fun _ _ => rfl)) (fun _ _ => rfl)))) da_nil)))) (de_const rfl t.c_NOTHING)))
    dss_nil))
    (dss_cons (ds_if (dx_bool (dw_or (dx_cmp (od_eq (u64 hr)) (de_var 7) (de_const rfl t.c_NOTHING)) (dw_or1 (dx_cmp (od_eq (u64 hr)) (de_var 7) (de_ix (de_var 1) (de_var 3) (fun _ _ => rfl)))))) (dss_cons (ds_ret (de_non))
    dss_nil) dss_nil)
    (dss_cons (ds_ret (de_op od_add (de_op od_add (de_cut (de_var 1) do_none (do_some (de_var 3))) (de_tup (da_cons (de_var 7) da_nil))) (de_cut (de_var 1) (do_some (de_op od_add (de_var 3) (de_int))) do_none)))
    dss_nil)))))
/-- Search.shortest -/
theorem sc_S_shortest : FnScope N_S_shortest P_S_shortest (defScope s_S_shortest) := ⟨rfl, rfl, rfl, by decide +kernel, rfl, by decide +kernel, by decide +kernel⟩
def fb_S_shortest (g : Gp) : BD :=
  (bSeq (bPar 1 2 (dCons (dDict1 (dFld g.cS "start" (dVar 0)) (dTup dNil)) (dCons (dLst (dCons (dFld g.cS "start" (dVar 0)) dNil)) dNil)))
    (bSeq (bWhile (dTruth (dVar 2)) (bSeq (bFor (iL (dVar 2)) (gN 3) (bSeq (bIf (dTruth (dGen true (iL (dFld g.cS "goal" (dVar 0))) (gT 2 (gsCons (gN 4) (gsCons (gN 5) gsNil))) (dOp opEq (dOp (opIx g) (dVar 3) (dVar 4)) (dVar 5)) [4, 5])) (bSeq (bRet (dOp opIxD (dVar 1) (dVar 3)))
    bNext) bNext)
    bNext))
    (bSeq (bSet 6 (dLst dNil))
    (bSeq (bFor (iL (dVar 2)) (gN 3) (bSeq (bFor (iL (dFld g.cS "moves" (dVar 0))) (gN 7) (bSeq (bSet 8 (dMeth g.cS "behind" (F_S_behind g) (dVar 0) (dCons (dVar 3) (dCons (dVar 7) dNil))))
    (bSeq (bIf (xAnd (dTest (dOp (opIs true) (dVar 8) (dC (.dat .none)))) (dTest (dOp (opInD true) (dVar 8) (dVar 1)))) (bSeq (bSetIx setIxD (dOp opAdd (dOp opIxD (dVar 1) (dVar 3)) (dTup (dCons (dVar 7) dNil))) (dVar 1) (dVar 8))
    (bSeq (bDrop (dAppend (dVar 6) (dVar 8)))
    bNext)) bNext)
    bNext)))
    bNext))
    (bSeq (bSet 2 (dVar 6))
    bNext)))))
    (bSeq (bRet (dC (.dat .none)))
    bNext)))
theorem dv_S_shortest {P : Program} {w : World} {K : PySem.W.Frag} {mg : Str → Option Value} {base : Heap} {g : Gp} (t : Tx K mg g) (tb : TxB base mg t) {k : Nat} (G_S_behind : FnOk P w K mg base CX0 k t.f_S_behind t.fd_S_behind P_S_behind (spD K w g (F_S_behind g))) (A : Around) (outer : List Env) (s : Shared) (H : Hp) (E : XK)
    (hr : Room (k + 1) (A.deeper (envOfC "Search.shortest" (defScope s_S_shortest) s.heap.objs.size t.f_S_shortest (.ref t.cc_S_shortest)))) : DSs g (cxOf CX0 P w K mg base N_S_shortest "Search.shortest" (defScope s_S_shortest) t.f_S_shortest (.ref t.cc_S_shortest) A outer s H E).nox (defBody s_S_shortest) (fb_S_shortest g) := by
  have scN : N_S_shortest.Nodup := sc_S_shortest.nd
  have hr1 := hr.mono (Nat.le_succ k)
  exact (dss_cons (ds_par (i := 1) (j := 2) rfl scN (da_cons (de_dict1 (u10 hr) (de_fld (de_var 0) t.clS t.na_start) (de_tup da_nil)) (da_cons (de_lst (da_cons (de_fld (de_var 0) t.clS t.na_start) da_nil)) da_nil)))
    (dss_cons (ds_while PassesOwn.never (dx_truth (de_var 2)) (dss_cons (ds_for PassesOwn.never rfl (di_list (de_var 2)) (dg_n scN (i := 3)) (dss_cons (ds_if (dx_truth (de_all hr rfl (by rfl) t.n_all bt_all (tb.tb_S_shortest) (by rfl) t.z_S_shortest t.l_S_shortest (gsc_by (N := N_S_shortest) (sc := defScope s_S_shortest) (own := [("cell", 4), ("part", 5)]) (by decide +kernel)) scN (di_list (de_fld (de_var 0) t.clS t.na_goal)) (by intro _; rfl) (fun _ _ _ _ _ _ => (dg_t rfl (dgs_cons (dg_n scN (i := 4)) (dgs_cons (dg_n scN (i := 5)) dgs_nil)))) (fun _ _ _ _ _ _ => (de_cmp (od_eq (u64 (room_gx hr))) (de_ix (de_var 3) (de_var 4) (fun _ _ => rfl)) (de_var 5))))) (dss_cons (ds_ret (de_ixD (u10 hr) (de_var 1) (de_var 3)))
    dss_nil) dss_nil)
    dss_nil))
    (dss_cons (ds_set (i := 6) scN (de_lst da_nil))
    (dss_cons (ds_for PassesOwn.never rfl (di_list (de_var 2)) (dg_n scN (i := 3)) (dss_cons (ds_for PassesOwn.never rfl (di_list (de_fld (de_var 0) t.clS t.na_moves)) (dg_n scN (i := 7)) (dss_cons (ds_set (i := 8) scN (de_meth (de_var 0) t.clS t.me_behind G_S_behind hr1 t.b_S_behind (da_cons (de_var 3) (da_cons (de_var 7) da_nil))))
    (dss_cons (ds_if (dx_bool (dw_and (dx_cmp od_isnot (de_var 8) (de_non)) (dw_and1 (dx_cmp (od_notinD (u10 hr)) (de_var 8) (de_var 1))))) (dss_cons (ds_setIx (pset_D (u10 hr)) (de_op od_add (de_ixD (u10 hr) (de_var 1) (de_var 3)) (de_tup (da_cons (de_var 7) da_nil))) (de_var 1) (de_var 8))
    (dss_cons (ds_expr (de_append (de_var 6) (de_var 8)))
    dss_nil)) dss_nil)
    dss_nil)))
    dss_nil))
    (dss_cons (ds_set (i := 2) scN (de_var 6))
    dss_nil)))))
    (dss_cons (ds_ret (de_non))
    dss_nil)))
/-- best -/
theorem sc_best : FnScope N_best P_best (defScope s_best) := ⟨rfl, rfl, rfl, by decide +kernel, rfl, by decide +kernel, by decide +kernel⟩
def fb_best (g : Gp) : BD :=
  (bSeq (bRet (dMeth g.cS "shortest" (F_S_shortest g) (dMake g.cS (F_S_init g) (dCons (dVar 0) (dCons (dVar 1) (dCons (dVar 2) dNil)))) dNil))
    bNext)
theorem dv_best {P : Program} {w : World} {K : PySem.W.Frag} {mg : Str → Option Value} {base : Heap} {g : Gp} (t : Tx K mg g) {k : Nat} (G_S_init : FnOk P w K mg base CX0 k t.f_S_init t.fd_S_init P_S_init (spD K w g (F_S_init g))) (G_S_shortest : FnOk P w K mg base CX0 k t.f_S_shortest t.fd_S_shortest P_S_shortest (spD K w g (F_S_shortest g))) (A : Around) (outer : List Env) (s : Shared) (H : Hp) (E : XK)
    (hr : Room (k + 1) (A.deeper (envOfC "best" (defScope s_best) s.heap.objs.size t.f_best t.cd_best))) : DSs g (cxOf CX0 P w K mg base N_best "best" (defScope s_best) t.f_best t.cd_best A outer s H E).nox (defBody s_best) (fb_best g) := by
  have scN : N_best.Nodup := sc_best.nd
  have hrS := hr
  have hr := hr.mono (Nat.le_succ k)
  exact (dss_cons (ds_ret (de_meth0 (de_make t.mkS G_S_init hrS rfl t.m_Search t.b_S_init (da_cons (de_var 0) (da_cons (de_var 1) (da_cons (de_var 2) da_nil)))) t.clS t.me_shortest G_S_shortest hr t.b_S_shortest))
    dss_nil)
/-- need_both -/
theorem sc_need_both : FnScope N_need_both P_need_both (defScope s_need_both) := ⟨rfl, rfl, rfl, by decide +kernel, rfl, by decide +kernel, by decide +kernel⟩
def fb_need_both (g : Gp) : BD :=
  (bSeq (bDrop (dCall (F_need_machine g) (dCons (dVar 0) dNil)))
    (bSeq (bDrop (dCall (F_need_wishes g) (dCons (dVar 0) (dCons (dVar 1) dNil))))
    bNext))
theorem dv_need_both {P : Program} {w : World} {K : PySem.W.Frag} {mg : Str → Option Value} {base : Heap} {g : Gp} (t : Tx K mg g) {k : Nat} (G_need_machine : FnOk P w K mg base CX0 k t.f_need_machine t.fd_need_machine P_need_machine (spD K w g (F_need_machine g))) (G_need_wishes : FnOk P w K mg base CX0 k t.f_need_wishes t.fd_need_wishes P_need_wishes (spD K w g (F_need_wishes g))) (A : Around) (outer : List Env) (s : Shared) (H : Hp) (E : XK)
    (hr : Room (k) (A.deeper (envOfC "need_both" (defScope s_need_both) s.heap.objs.size t.f_need_both t.cd_need_both))) : DSs g (cxOf CX0 P w K mg base N_need_both "need_both" (defScope s_need_both) t.f_need_both t.cd_need_both A outer s H E).nox (defBody s_need_both) (fb_need_both g) := by
  have scN : N_need_both.Nodup := sc_need_both.nd
  exact (dss_cons (ds_expr (de_call G_need_machine hr rfl t.m_need_machine t.k_need_machine t.b_need_machine (da_cons (de_var 0) da_nil)))
    (dss_cons (ds_expr (de_call G_need_wishes hr rfl t.m_need_wishes t.k_need_wishes t.b_need_wishes (da_cons (de_var 0) (da_cons (de_var 1) da_nil))))
    dss_nil))
/-- shortest_gentle -/
theorem sc_shortest_gentle : FnScope N_shortest_gentle P_shortest_gentle (defScope s_shortest_gentle) := ⟨rfl, rfl, rfl, by decide +kernel, rfl, by decide +kernel, by decide +kernel⟩
def fb_shortest_gentle (g : Gp) : BD :=
  (bSeq (bDrop (dCall (F_need_both g) (dCons (dVar 0) (dCons (dVar 1) dNil))))
    (bSeq (bRet (dCall (F_best g) (dCons (dVar 0) (dCons (dVar 1) (dCons (dC (.bl true)) dNil)))))
    bNext))
theorem dv_shortest_gentle {P : Program} {w : World} {K : PySem.W.Frag} {mg : Str → Option Value} {base : Heap} {g : Gp} (t : Tx K mg g) {k : Nat} (G_need_both : FnOk P w K mg base CX0 k t.f_need_both t.fd_need_both P_need_both (spD K w g (F_need_both g))) (G_best : FnOk P w K mg base CX0 k t.f_best t.fd_best P_best (spD K w g (F_best g))) (A : Around) (outer : List Env) (s : Shared) (H : Hp) (E : XK)
    (hr : Room (k) (A.deeper (envOfC "shortest_gentle" (defScope s_shortest_gentle) s.heap.objs.size t.f_shortest_gentle t.cd_shortest_gentle))) : DSs g (cxOf CX0 P w K mg base N_shortest_gentle "shortest_gentle" (defScope s_shortest_gentle) t.f_shortest_gentle t.cd_shortest_gentle A outer s H E).nox (defBody s_shortest_gentle) (fb_shortest_gentle g) := by
  have scN : N_shortest_gentle.Nodup := sc_shortest_gentle.nd
  exact (dss_cons (ds_expr (de_call G_need_both hr rfl t.m_need_both t.k_need_both t.b_need_both (da_cons (de_var 0) (da_cons (de_var 1) da_nil))))
    (dss_cons (ds_ret (de_call G_best hr rfl t.m_best t.k_best t.b_best (da_cons (de_var 0) (da_cons (de_var 1) (da_cons (de_bl) da_nil)))))
    dss_nil))
/-- can_be_proof -/
theorem sc_can_be_proof : FnScope N_can_be_proof P_can_be_proof (defScope s_can_be_proof) := ⟨rfl, rfl, rfl, by decide +kernel, rfl, by decide +kernel, by decide +kernel⟩
def fb_can_be_proof (g : Gp) : BD :=
  (bSeq (bDrop (dCall (F_need_both g) (dCons (dVar 0) (dCons (dVar 1) dNil))))
    (bSeq (bRet (dOp (opIs true) (dCall (F_best g) (dCons (dVar 0) (dCons (dVar 1) (dCons (dC (.bl true)) dNil)))) (dC (.dat .none))))
    bNext))
theorem dv_can_be_proof {P : Program} {w : World} {K : PySem.W.Frag} {mg : Str → Option Value} {base : Heap} {g : Gp} (t : Tx K mg g) {k : Nat} (G_need_both : FnOk P w K mg base CX0 k t.f_need_both t.fd_need_both P_need_both (spD K w g (F_need_both g))) (G_best : FnOk P w K mg base CX0 k t.f_best t.fd_best P_best (spD K w g (F_best g))) (A : Around) (outer : List Env) (s : Shared) (H : Hp) (E : XK)
    (hr : Room (k) (A.deeper (envOfC "can_be_proof" (defScope s_can_be_proof) s.heap.objs.size t.f_can_be_proof t.cd_can_be_proof))) : DSs g (cxOf CX0 P w K mg base N_can_be_proof "can_be_proof" (defScope s_can_be_proof) t.f_can_be_proof t.cd_can_be_proof A outer s H E).nox (defBody s_can_be_proof) (fb_can_be_proof g) := by
  have scN : N_can_be_proof.Nodup := sc_can_be_proof.nd
  exact (dss_cons (ds_expr (de_call G_need_both hr rfl t.m_need_both t.k_need_both t.b_need_both (da_cons (de_var 0) (da_cons (de_var 1) da_nil))))
    (dss_cons (ds_ret (de_cmp od_isnot (de_call G_best hr rfl t.m_best t.k_best t.b_best (da_cons (de_var 0) (da_cons (de_var 1) (da_cons (de_bl) da_nil)))) (de_non)))
    dss_nil))
/-- written -/
theorem sc_written : FnScope N_written P_written (defScope s_written) := ⟨rfl, rfl, rfl, by decide +kernel, rfl, by decide +kernel, by decide +kernel⟩
def fb_written (g : Gp) : BD :=
  (bSeq (bSet 2 (dGc (dCall fTupleOf (dCons (dLc2 (iT (dVar 0)) (gN 3) xYes (iRg (rg1 (dVar 1))) (gN 4) xYes (dVar 3) [3, 4] [4]) dNil))))
    (bSeq (bIf (dTest (dOp opGt (dCall (fLen g) (dCons (dVar 2) dNil)) (dC (.dat (.num 60))))) (bSeq (bNever)
    bNext) bNext)
    (bSeq (bRet (dVar 2))
    bNext)))
theorem dv_written {P : Program} {w : World} {K : PySem.W.Frag} {mg : Str → Option Value} {base : Heap} {g : Gp} (t : Tx K mg g) {k : Nat} (A : Around) (outer : List Env) (s : Shared) (H : Hp) (E : XK)
    (hr : Room (k) (A.deeper (envOfC "written" (defScope s_written) s.heap.objs.size t.f_written t.cd_written))) : DSs g (cxOf CX0 P w K mg base N_written "written" (defScope s_written) t.f_written t.cd_written A outer s H E).nox (defBody s_written) (fb_written g) := by
  have scN : N_written.Nodup := sc_written.nd
  exact (dss_cons (ds_set (i := 2) scN (de_gc (de_callTy cr_tupleOf rfl t.n_tuple bt_tuple (da_cons (de_lc2 rfl scN  (di_tup (de_var 0)) (blkOk_by (N := N_written) (sc := defScope s_written) (own := [("line", 3), ("_", 4)]) (by decide +kernel)) (vs1 := [4]) (by decide) (fun _ _ _ _ _ => (dg_n scN (i := 3))) (fun _ _ _ _ _ => dts_nil) (fun _ _ _ _ _ => (di_rg1 rfl t.n_range (de_var 1))) (fun _ _ _ _ _ => (dg_n scN (i := 4))) (fun _ _ _ _ _ => dts_nil) (fun _ _ _ _ _ => (de_var 3))) da_nil))))
    (dss_cons (ds_if (dx_cmp od_gt (de_callB cr_len rfl t.n_len bt_len (da_cons (de_var 2) da_nil)) (de_const rfl t.c_MOST_LINES)) (dss_cons (ds_never)
    dss_nil) dss_nil)
    (dss_cons (ds_ret (de_var 2))
    dss_nil)))
/-- proofed -/
theorem sc_proofed : FnScope N_proofed P_proofed (defScope s_proofed) := ⟨rfl, rfl, rfl, by decide +kernel, rfl, by decide +kernel, by decide +kernel⟩
def fb_proofed (g : Gp) : BD :=
  (bSeq (bDrop (dCall (F_need_machine g) (dCons (dVar 0) dNil)))
    (bSeq (bDrop (dCall (F_need_program g) (dCons (dVar 0) (dCons (dVar 1) dNil))))
    (bSeq (bDrop (dCall (F_need_many g) (dCons (dVar 2) dNil)))
    (bSeq (bRet (dCall (F_written g) (dCons (dVar 1) (dCons (dOp opAdd (dVar 2) (dC (.dat (.num 1)))) dNil))))
    bNext))))
theorem dv_proofed {P : Program} {w : World} {K : PySem.W.Frag} {mg : Str → Option Value} {base : Heap} {g : Gp} (t : Tx K mg g) {k : Nat} (G_need_machine : FnOk P w K mg base CX0 k t.f_need_machine t.fd_need_machine P_need_machine (spD K w g (F_need_machine g))) (G_need_program : FnOk P w K mg base CX0 k t.f_need_program t.fd_need_program P_need_program (spD K w g (F_need_program g))) (G_need_many : FnOk P w K mg base CX0 k t.f_need_many t.fd_need_many P_need_many (spD K w g (F_need_many g))) (G_written : FnOk P w K mg base CX0 k t.f_written t.fd_written P_written (spD K w g (F_written g))) (A : Around) (outer : List Env) (s : Shared) (H : Hp) (E : XK)
    (hr : Room (k) (A.deeper (envOfC "proofed" (defScope s_proofed) s.heap.objs.size t.f_proofed t.cd_proofed))) : DSs g (cxOf CX0 P w K mg base N_proofed "proofed" (defScope s_proofed) t.f_proofed t.cd_proofed A outer s H E).nox (defBody s_proofed) (fb_proofed g) := by
  have scN : N_proofed.Nodup := sc_proofed.nd
  exact (dss_cons (ds_expr (de_call G_need_machine hr rfl t.m_need_machine t.k_need_machine t.b_need_machine (da_cons (de_var 0) da_nil)))
    (dss_cons (ds_expr (de_call G_need_program hr rfl t.m_need_program t.k_need_program t.b_need_program (da_cons (de_var 0) (da_cons (de_var 1) da_nil))))
    (dss_cons (ds_expr (de_call G_need_many hr rfl t.m_need_many t.k_need_many t.b_need_many (da_cons (de_var 2) da_nil)))
    (dss_cons (ds_ret (de_call G_written hr rfl t.m_written t.k_written t.b_written (da_cons (de_var 1) (da_cons (de_op od_add (de_var 2) (de_int)) da_nil))))
    dss_nil))))
/-- proof_program -/
theorem sc_proof_program : FnScope N_proof_program P_proof_program (defScope s_proof_program) := ⟨rfl, rfl, rfl, by decide +kernel, rfl, by decide +kernel, by decide +kernel⟩
def fb_proof_program (g : Gp) : BD :=
  (bSeq (bDrop (dCall (F_need_machine g) (dCons (dVar 0) dNil)))
    (bSeq (bDrop (dCall (F_need_many g) (dCons (dVar 1) dNil)))
    (bSeq (bDrop (dCall (F_need_wishes g) (dCons (dVar 0) (dCons (dVar 2) dNil))))
    (bSeq (bSet 3 (dCall (F_best g) (dCons (dVar 0) (dCons (dVar 2) (dCons (dC (.bl true)) dNil)))))
    (bSeq (bIf (dTest (dOp (opIs false) (dVar 3) (dC (.dat .none)))) (bSeq (bNever)
    bNext) bNext)
    (bSeq (bRet (dCall (F_written g) (dCons (dVar 3) (dCons (dOp opAdd (dVar 1) (dC (.dat (.num 1)))) dNil))))
    bNext))))))
theorem dv_proof_program {P : Program} {w : World} {K : PySem.W.Frag} {mg : Str → Option Value} {base : Heap} {g : Gp} (t : Tx K mg g) {k : Nat} (G_need_machine : FnOk P w K mg base CX0 k t.f_need_machine t.fd_need_machine P_need_machine (spD K w g (F_need_machine g))) (G_need_many : FnOk P w K mg base CX0 k t.f_need_many t.fd_need_many P_need_many (spD K w g (F_need_many g))) (G_need_wishes : FnOk P w K mg base CX0 k t.f_need_wishes t.fd_need_wishes P_need_wishes (spD K w g (F_need_wishes g))) (G_best : FnOk P w K mg base CX0 k t.f_best t.fd_best P_best (spD K w g (F_best g))) (G_written : FnOk P w K mg base CX0 k t.f_written t.fd_written P_written (spD K w g (F_written g))) (A : Around) (outer : List Env) (s : Shared) (H : Hp) (E : XK)
    (hr : Room (k) (A.deeper (envOfC "proof_program" (defScope s_proof_program) s.heap.objs.size t.f_proof_program t.cd_proof_program))) : DSs g (cxOf CX0 P w K mg base N_proof_program "proof_program" (defScope s_proof_program) t.f_proof_program t.cd_proof_program A outer s H E).nox (defBody s_proof_program) (fb_proof_program g) := by
  have scN : N_proof_program.Nodup := sc_proof_program.nd
  exact (dss_cons (ds_expr (de_call G_need_machine hr rfl t.m_need_machine t.k_need_machine t.b_need_machine (da_cons (de_var 0) da_nil)))
    (dss_cons (ds_expr (de_call G_need_many hr rfl t.m_need_many t.k_need_many t.b_need_many (da_cons (de_var 1) da_nil)))
    (dss_cons (ds_expr (de_call G_need_wishes hr rfl t.m_need_wishes t.k_need_wishes t.b_need_wishes (da_cons (de_var 0) (da_cons (de_var 2) da_nil))))
    (dss_cons (ds_set (i := 3) scN (de_call G_best hr rfl t.m_best t.k_best t.b_best (da_cons (de_var 0) (da_cons (de_var 2) (da_cons (de_bl) da_nil)))))
    (dss_cons (ds_if (dx_cmp od_is (de_var 3) (de_non)) (dss_cons (ds_never)
    dss_nil) dss_nil)
    (dss_cons (ds_ret (de_call G_written hr rfl t.m_written t.k_written t.b_written (da_cons (de_var 3) (da_cons (de_op od_add (de_var 1) (de_int)) da_nil))))
    dss_nil))))))
end L2.LL

/-! # LLW8 -/
set_option Elab.async false
set_option linter.all false
set_option maxRecDepth 100000
set_option maxHeartbeats 2000000
namespace L2.LL
open PySem PySem.Spec PyProof.Rows
theorem app_set {α : Type} {S r : List α} {n : Nat} {x : α} (h : n < S.length) : (S ++ r).set n x = S.set n x ++ r := List.set_append_left _ _ h
theorem set_get {α : Type} {S r : List α} {n : Nat} {x : α} (h : n < S.length) : (S.set n x ++ r)[n]? = some x := by
  rw [List.getElem?_append_left (by simpa using h), List.getElem?_set_self h]
theorem app_get {α : Type} {S r : List α} {j : Nat} {x : α} : (S ++ r)[S.length + j]? = r[j]? := by
  rw [List.getElem?_append_right (by omega)]; congr 1; omega
theorem setapp_get {α : Type} {S r : List α} {n j : Nat} {x : α} : (S.set n x ++ r)[S.length + j]? = r[j]? := by
  rw [List.getElem?_append_right (by simp)]; congr 1; simp
def softT : T → Bool
  | .tup [.num c, _, .tup src] => !decide (.num c ∈ src)
  | _ => false
theorem softT_ln {l : Ln} : softT l.t = soft l := by
  unfold softT soft
  simp only
  congr 1
  apply decide_eq_decide.mpr
  constructor
  · intro h; obtain ⟨a, ha, e⟩ := List.mem_map.mp h
    have : a = l.c := by simp at e; omega
    subst this; exact ha
  · exact fun h => List.mem_map.mpr ⟨_, h, rfl⟩
theorem soft_filter {l : List Ln} : ((l.map Ln.t).filter softT).map D.dat = lnD (l.filter soft) := by
  rw [List.filter_map, List.map_map]
  have : softT ∘ Ln.t = soft := funext fun l => softT_ln
  rw [this]; rfl
theorem lnD_map {l : List Ln} : lnD l = (l.map Ln.t).map D.dat := by simp [lnD, Function.comp_def]
abbrev FL := List (Str × D)
theorem fl_0 {d : D} : putFD "parts" d [] = ([("parts", d)] : FL) := rfl
theorem fl_1 {a d : D} : putFD "terms" d ([("parts", a)] : FL) = ([("parts", a), ("terms", d)] : FL) := by rfl
theorem fl_2 {a b d : D} : putFD "goal" d ([("parts", a), ("terms", b)] : FL) = ([("parts", a), ("terms", b), ("goal", d)] : FL) := by rfl
theorem fl_3 {a b c d : D} : putFD "moves" d ([("parts", a), ("terms", b), ("goal", c)] : FL) = ([("parts", a), ("terms", b), ("goal", c), ("moves", d)] : FL) := by rfl
theorem fl_4 {a b c e d : D} : putFD "start" d ([("parts", a), ("terms", b), ("goal", c), ("moves", e)] : FL) = ([("parts", a), ("terms", b), ("goal", c), ("moves", e), ("start", d)] : FL) := by rfl
theorem set_app_set {S r : Sto} {n : Nat} {x y : AO} (h : n < S.length) : (S.set n x ++ r).set n y = S.set n y ++ r := by
  rw [app_set (by simpa using h), List.set_set]
theorem start_eq {M : Mac} {ps : List T} : (firsts M.n).map (fun t => encP ps (if t ∈ ps then some t else none)) = (begin0 M ps).map (encP ps) := by simp [begin0, Function.comp_def]
theorem w_S_init {g : Gp} : ∀ ds S Q, F_S_init g ds S Q → fb_S_init g (EndN Q) (startD N_S_init ds) S := by
  intro ds S Q h
  unfold F_S_init at h
  split at h
  · rename_i n _ _ _
    obtain ⟨M, W, rfl, rfl, rfl, sok, h0, h⟩ := h
    have hM := sok.m
    have hW := sok.w
    have hn := (List.getElem?_eq_some_iff.mp h0).1
    have hn2 : ∀ x : AO, n < (S.set n x).length := fun x => by simpa using hn
    have hdep : ∀ t ∈ parts W, keyOk t := fun t ht => (parts_wt hM hW ht).1.key (by have := (parts_wt hM hW ht).2; omega)
    unfold fb_S_init
    simp only [s_start, s_seq, s_bfld, s_call, s_cons, s_nil, s_var]
    refine ⟨.dat (wsT W), rfl, M, W, rfl, sok, fun ep => ?_⟩
    refine ⟨.ref n, rfl, n, [], rfl, by rw [List.getElem?_append_left hn]; exact h0, by simp, ?_⟩
    rw [app_set hn, fl_0]
    simp only [s_seq, s_bfld, s_call, s_cons, s_nil, s_var, s_fld, s_listD]
    refine ⟨.ref n, rfl, n, _, _, rfl, set_get hn, rfl, partsD (parts W), ep, setapp_get (r := [AO.dct (partsD (parts W)) ep]) (j := 0), ?_⟩
    refine ⟨.ref n, rfl, n, _, rfl, by rw [List.append_assoc]; exact set_get hn, by simp, ?_⟩
    rw [List.append_assoc, set_app_set hn, fl_1, partsD_keys]
    have l1 : (S.set n (AO.ins g.cS ([("parts", D.ref S.length)] : FL)) ++ [AO.dct (partsD (parts W)) ep]).length = S.length + 1 := by simp
    rw [l1]
    simp only [s_seq, s_bfld, s_lc, s_iT, s_var]
    refine ⟨.dat (wsT W), rfl, W.map wT, rfl, ?_⟩
    refine lc_map (fun t => match t with | .tup [c, x] => .dat (.tup [c, nT ((parts W).idxOf x)]) | _ => .bl true) (by trivial) ?_ (fun t R1 ht h1 => ?_) ?_
    · rw [List.length_map]
      have := nodup_sub_length (l := W.map (·.1)) (u := List.range M.n) (by
        have := hW.up
        rw [List.Nodup, List.pairwise_map]
        exact this.imp fun h => by omega) (fun x hx => by
          obtain ⟨w, hw, rfl⟩ := List.mem_map.mp hx
          exact List.mem_range.mpr (hW.wt w hw).1)
      rw [List.length_map, List.length_range] at this
      have := hM.n3
      omega
    · obtain ⟨w, hw, rfl⟩ := List.mem_map.mp ht
      have hp := parts_wish hw
      simp only [s_gT, s_gsCons, s_gsNil, s_gN, s_tup, s_cons, s_nil, s_var, s_op, s_fld]
      refine ⟨rfl, trivial, .dat (nT w.1), rfl, .ref n, rfl, n, _, .ref S.length, rfl, set_get hn, rfl, .dat w.2, rfl, ?_⟩
      rw [s_ixD]
      refine ⟨_, ep, _, setapp_get (j := 0), hdep _ hp, by rw [getL_parts, if_pos hp], ?_⟩
      exact ⟨[nT w.1, nT ((parts W).idxOf w.2)], rfl, by simp, h1⟩
    refine ⟨.ref n, rfl, n, _, rfl, by rw [List.append_assoc]; exact set_get hn, by simp, ?_⟩
    rw [List.append_assoc, set_app_set hn, fl_2]
    simp only [s_seq, s_bfld, s_lc, s_iL, s_call, s_cons, s_nil, s_var]
    refine ⟨.dat M.t, rfl, M, rfl, hM, fun S' k hpre hk => ?_⟩
    obtain ⟨z, rfl⟩ := hpre
    refine ⟨k, (allLines M).map Ln.t, rfl, by rw [hk]; simp, ?_⟩
    refine lc_pure softT (fun t => .dat t) (by rw [hk]; simp) (by have := allLines_take hM (i := M.n); rw [List.take_of_length_le (by simp)] at this; rw [List.length_map]; unfold allLines; omega) (fun t R1 R0 ht h1 h0 => ?_) ?_
    · obtain ⟨l, hl, rfl⟩ := List.mem_map.mp ht
      simp only [s_gN, s_xOr, s_truth, s_call, s_cons, s_nil, s_var, s_xNot]
      refine ⟨.dat l.t, rfl, l, rfl, ?_⟩
      rw [softT_ln] at h1 h0
      cases hsl : soft l with
      | true => exact ⟨.dat l.t, rfl, h1 hsl⟩
      | false => exact ⟨.bl true, rfl, h0 hsl⟩
    rw [soft_filter]
    refine ⟨.ref n, rfl, n, _, rfl, by rw [List.append_assoc, List.append_assoc]; exact set_get hn, by simp, ?_⟩
    rw [List.append_assoc, List.append_assoc, set_app_set hn, fl_3]
    simp only [s_seq, s_bfld, s_gc, s_lc, s_iT, s_call, s_cons, s_nil, s_var, s_next]
    intro hs'
    refine ⟨.dat M.t, rfl, M, rfl, hM, firsts M.n, rfl, ?_⟩
    refine lc_map (fun t => .dat (encP (parts W) (if t ∈ parts W then some t else none))) (by trivial) (by simp [firsts]; have := hM.n3; omega) (fun t R1 ht h1 => ?_) ?_
    · obtain ⟨i, hi, rfl⟩ := List.mem_map.mp ht
      simp only [s_gN, s_mt2, s_fld, s_var, s_C]
      refine ⟨.ref n, rfl, n, _, .ref S.length, rfl, set_get hn, rfl, S.length, rfl, ⟨_, _, setapp_get (j := 0)⟩, .dat (nT i), rfl, ?_⟩
      refine ⟨_, _, setapp_get (j := 0), ⟨by simp, rfl⟩, ?_⟩
      rw [getL_parts]
      by_cases hp : nT i ∈ parts W
      · rw [if_pos hp] at h1 ⊢; exact h1
      · rw [if_neg hp] at h1 ⊢; exact h1
    simp only [s_tupleOf]
    refine ⟨(begin0 M (parts W)).map (encP (parts W)), ?_, ?_⟩
    · rw [← start_eq]; simp [Function.comp_def]
    refine gcd hs' ⟨_, rfl⟩ ?_
    refine ⟨.ref n, rfl, n, _, rfl, set_get hn, by simp, ?_⟩
    rw [set_app_set hn, fl_4]
    refine h _ (fun i hi hin => ?_) ?_ (by simp)
    · rw [List.getElem?_append_left (by simpa using hi), List.getElem?_set_ne (Ne.symm hin)]
    · refine ⟨S.length, S.length + 1, S.length + 2, S.length + (3 + z.length), ep, ?_, setapp_get (j := 0), setapp_get (j := 1), ?_, ?_⟩
      · rw [set_get hn]
        have e1 : ∀ x : AO, (S.set n x ++ ([AO.dct (partsD (parts W)) ep] ++ [AO.lst ((parts W).map .dat)])).length = S.length + 2 := fun x => by simp
        have e2 : ∀ (x y : AO), (S.set n x ++ ([AO.dct (partsD (parts W)) ep] ++ [AO.lst ((parts W).map .dat)] ++ [y]) ++ z).length = S.length + (3 + z.length) := fun x y => by simp; omega
        rw [e1, e2]
      · rw [setapp_get]
        simp [Function.comp_def]
      · rw [setapp_get]
        have : ∀ (a b c d : AO), ([a] ++ [b] ++ [c] ++ (z ++ [d]))[3 + z.length]? = some d := fun a b c d => by
          have e : [a] ++ [b] ++ [c] ++ (z ++ [d]) = ([a, b, c] ++ z) ++ [d] := by simp
          have e3 : 3 + z.length = ([a, b, c] ++ z).length := by simp; omega
          rw [e, e3]; simp
        have e4 : ∀ (a b c d : AO), [a] ++ [b] ++ [c] ++ z ++ [d] = [a] ++ [b] ++ [c] ++ (z ++ [d]) := fun a b c d => by simp
        first | exact this _ _ _ _ | (rw [e4]; exact this _ _ _ _)
  · exact h.elim
end L2.LL

/-! # LLPureB -/
set_option Elab.async false
set_option linter.all false
set_option maxRecDepth 100000
set_option maxHeartbeats 2000000
namespace L2.LL
open PySem PySem.Spec PyProof.Rows

/-! ## states of the search, as data -/
theorem idx_get {ps : List T} {t : T} (h : t ∈ ps) : ps[ps.idxOf t]? = some t := by
  have hl := List.idxOf_lt_length_of_mem h
  rw [List.getElem?_eq_getElem hl, List.getElem_idxOf hl]
theorem idx_inj {ps : List T} {t u : T} (h : t ∈ ps) (k : u ∈ ps) (e : ps.idxOf t = ps.idxOf u) : t = u := by
  have h1 := idx_get h
  rw [e, idx_get k] at h1
  exact (Option.some.inj h1).symm
theorem encP_none {ps : List T} {o : Option T} : encP ps o = .num (-1) ↔ o = none := by
  cases o with
  | none => simp [encP]
  | some t =>
    have : ¬ (((ps.idxOf t : Nat) : Int) = -1) := by omega
    simp [encP, this]
theorem encP_shal {ps : List T} {o : Option T} : Shal (encP ps o) := by cases o <;> rfl
theorem encP_inj {ps : List T} {o u : Option T} (h : ∀ t, o = some t → t ∈ ps) (k : ∀ t, u = some t → t ∈ ps) : encP ps o = encP ps u ↔ o = u := by
  constructor
  · intro e
    cases o with
    | none =>
      have := encP_none.mp (e.symm.trans rfl)
      exact this.symm
    | some t =>
      cases u with
      | none => exact encP_none.mp e
      | some v =>
        simp only [encP, NestedKey.num.injEq] at e
        rw [idx_inj (h t rfl) (k v rfl) (by omega)]
  · exact fun e => by rw [e]
theorem BOk.get {M : Mac} {ps : List T} {h : BS} (b : BOk M ps h) {s : Nat} (hs : s < M.n) : ∃ o, h[s]? = some o ∧ (∀ t, o = some t → t ∈ ps) := by
  have hl : s < h.length := by rw [b.len]; exact hs
  refine ⟨h[s], List.getElem?_eq_getElem hl, fun t e => b.ps t ?_⟩
  rw [← e]; exact List.getElem_mem hl
theorem enc_get {ps : List T} {h : BS} {s : Nat} {o : Option T} (e : h[s]? = some o) : (h.map (encP ps))[s]? = some (encP ps o) := by rw [List.getElem?_map, e]; rfl
theorem map_enc_inj {ps : List T} : ∀ {a b : BS}, (∀ t, some t ∈ a → t ∈ ps) → (∀ t, some t ∈ b → t ∈ ps) → a.map (encP ps) = b.map (encP ps) → a = b
  | [], [], _, _, _ => rfl
  | [], _ :: _, _, _, e => by cases e
  | _ :: _, [], _, _, e => by cases e
  | x :: a, y :: b, ha, hb, e => by
    rw [List.map_cons, List.map_cons, List.cons.injEq] at e
    have h1 : x = y := (encP_inj (fun t e => ha t (by rw [← e]; simp)) (fun t e => hb t (by rw [← e]; simp))).mp e.1
    rw [h1, map_enc_inj (fun t ht => ha t (List.mem_cons_of_mem _ ht)) (fun t ht => hb t (List.mem_cons_of_mem _ ht)) e.2]
theorem encS_inj {M : Mac} {ps : List T} {a b : BS} (ha : BOk M ps a) (hb : BOk M ps b) : encS ps a = encS ps b ↔ a = b := by
  constructor
  · intro e
    rw [NestedKey.tup.injEq] at e
    exact map_enc_inj ha.ps hb.ps e
  · exact fun e => by rw [e]
theorem encP_depth {ps : List T} {o : Option T} : (encP ps o).depth = 0 := by cases o <;> simp [encP]
theorem encS_key {ps : List T} {h : BS} : keyOk (encS ps h) := by
  refine ⟨?_, rfl⟩
  rw [depth_tup]
  have := (depthAll_le (ts := h.map (encP ps)) (d := 0)).mpr fun t ht => by
    obtain ⟨o, _, rfl⟩ := List.mem_map.mp ht; rw [encP_depth]; exact Nat.le_refl _
  omega
def encF (ps : List T) (F : Fd) : List (T × D) := F.map fun p => (encS ps p.1, .dat (prT p.2))
def encB (ps : List T) (L : List BS) : List T := L.map (encS ps)
abbrev keysF (F : Fd) : List BS := F.map (·.1)
/-- what the search has found -/
structure LInv (M : Mac) (ps : List T) (F : Fd) : Prop where
  nd : (keysF F).Nodup
  bok : ∀ h ∈ keysF F, BOk M ps h
  pl : ∀ p ∈ F, p.2.length < F.length
section
variable {M : Mac} {ps : List T} {F : Fd} {a h : BS} {l : Ln} {p : List Ln}
theorem getF (hb : ∀ h ∈ keysF F, BOk M ps h) (ha : BOk M ps a) : getL (encF ps F) (encS ps a) = if a ∈ keysF F then some (.dat (prT (pathOf F a))) else none := by
  unfold getL encF pathOf
  induction F with
  | nil => simp
  | cons q F ih =>
    have hq := hb q.1 (by simp)
    have hF : ∀ h ∈ keysF F, BOk M ps h := fun h hh => hb h (by rw [keysF, List.map_cons]; exact List.mem_cons_of_mem _ hh)
    rw [List.map_cons, List.find?_cons, List.find?_cons]
    by_cases e : q.1 = a
    · simp [e]
    · have e1 : ¬ encS ps q.1 = encS ps a := fun z => e ((encS_inj hq ha).mp z)
      have e2 : ¬ a = q.1 := fun z => e z.symm
      have := ih hF
      rw [decide_eq_false e1, decide_eq_false e]
      simp only [keysF, List.map_cons, List.mem_cons, e2, false_or]
      exact this
theorem putF (hb : ∀ h ∈ keysF F, BOk M ps h) (ha : BOk M ps a) (hn : a ∉ keysF F) : putL (encF ps F) (encS ps a) (.dat (prT p)) = encF ps (F ++ [(a, p)]) := by
  unfold putL
  rw [if_neg]
  · simp [encF]
  · intro h
    obtain ⟨q, hq, e⟩ := List.mem_map.mp h
    obtain ⟨r, hr, rfl⟩ := List.mem_map.mp hq
    have hm : r.1 ∈ keysF F := List.mem_map.mpr ⟨r, hr, rfl⟩
    have := (encS_inj (hb _ hm) ha).mp e
    rw [this] at hm
    exact hn hm
theorem encF_len : (encF ps F).length = F.length := by simp [encF]
theorem set_bok (b : BOk M ps h) {c : Nat} {t : T} (ht : t ∈ ps) : BOk M ps (h.set c (some t)) := by
  refine ⟨by simp [b.len], fun u hu => ?_⟩
  rcases List.mem_or_eq_of_mem_set hu with hu | e
  · exact b.ps u hu
  · cases e; exact ht
theorem nxt_bok (b : BOk M ps h) (e : nxt ps h l = some a) : BOk M ps a := by
  unfold nxt at e
  split at e
  · split at e
    · rename_i ht; cases e; exact set_bok b ht
    · cases e
  · cases e
/-- behind: the next state, but not the same -/
theorem beh_eq (hc : l.c < h.length) : beh ps h l = match nxt ps h l with | some a => if a = h then none else some a | none => none := by
  unfold beh nxt
  cases bval h l with
  | none => rfl
  | some t =>
    simp only
    by_cases ht : t ∈ ps
    · rw [if_pos ht]
      simp only
      have e : h.set l.c (some t) = h ↔ h[l.c]? = some (some t) := by
        constructor
        · intro z; rw [← z, List.getElem?_set_self hc]
        · intro z
          apply List.ext_getElem?
          intro i
          by_cases hi : l.c = i
          · subst hi; rw [List.getElem?_set_self hc, z]
          · rw [List.getElem?_set_ne hi]
      by_cases z : h[l.c]? = some (some t)
      · rw [if_neg (fun y => y.2 z), if_pos (e.mpr z)]
      · rw [if_pos ⟨ht, z⟩, if_neg (fun y => z (e.mp y))]
    · rw [if_neg ht, if_neg (fun z => ht z.1)]
theorem find_some (hm : h ∈ keysF F) : ∃ p ∈ F, F.find? (fun p => decide (p.1 = h)) = some p ∧ p.1 = h := by
  obtain ⟨q, hq, e⟩ := List.mem_map.mp hm
  cases e2 : F.find? fun p => decide (p.1 = h) with
  | none =>
    have := List.find?_eq_none.mp e2 q hq
    simp [e] at this
  | some p => exact ⟨p, List.mem_of_find?_eq_some e2, rfl, by simpa using List.find?_some e2⟩
theorem path_lt (I : LInv M ps F) (hm : h ∈ keysF F) : (pathOf F h).length < F.length := by
  obtain ⟨p, hp, e, _⟩ := find_some hm
  unfold pathOf
  rw [e]; exact I.pl p hp
theorem path_pre {G : Fd} (hm : h ∈ keysF F) : pathOf (F ++ G) h = pathOf F h := by
  obtain ⟨p, hp, e, _⟩ := find_some hm
  unfold pathOf
  rw [List.find?_append, e]; rfl
theorem keys_app {G : Fd} (hm : h ∈ keysF F) : h ∈ keysF (F ++ G) := by
  rw [keysF, List.map_append]; exact List.mem_append_left _ hm
/-- one more -/
theorem inv_snoc (I : LInv M ps F) (hm : h ∈ keysF F) (ha : BOk M ps a) (hn : a ∉ keysF F) : LInv M ps (F ++ [(a, pathOf F h ++ [l])]) := by
  refine ⟨?_, fun x hx => ?_, fun p hp => ?_⟩
  · rw [keysF, List.map_append, List.nodup_append]
    refine ⟨I.nd, by simp, fun x hx y hy e => ?_⟩
    have : y = a := by simpa using hy
    subst this; subst e; exact hn hx
  · rw [keysF, List.map_append] at hx
    rcases List.mem_append.mp hx with hx | hx
    · exact I.bok x hx
    · have : x = a := by simpa using hx
      rw [this]; exact ha
  · rw [List.length_append, List.length_singleton]
    rcases List.mem_append.mp hp with hp | hp
    · exact Nat.lt_succ_of_lt (I.pl p hp)
    · have : p = (a, pathOf F h ++ [l]) := by simpa using hp
      subst this
      have := path_lt I hm
      simp; omega
end
/-- a step keeps what is found -/
structure SInv (M : Mac) (ps : List T) (F0 : Fd) (x : Fd × List BS) : Prop where
  inv : LInv M ps x.1
  pre : F0 <+: x.1
  sub : ∀ h ∈ x.2, h ∈ keysF x.1
  eq : x.1.length = F0.length + x.2.length
section
variable {M : Mac} {ps : List T} {F0 : Fd} {x : Fd × List BS} {h : BS} {l : Ln}
theorem SInv.key (I : SInv M ps F0 x) (hm : h ∈ keysF F0) : h ∈ keysF x.1 := by
  obtain ⟨G, e⟩ := I.pre
  rw [← e]; exact keys_app hm
theorem ex1_inv (I : SInv M ps F0 x) (hm : h ∈ keysF F0) : SInv M ps F0 (ex1 ps h x l) := by
  unfold ex1
  split
  · rename_i a ha
    split
    · exact I
    · rename_i hn
      have hb := I.inv.bok h (I.key hm)
      refine ⟨inv_snoc I.inv (I.key hm) (nxt_bok hb ha) hn, I.pre.trans (List.prefix_append _ _), fun y hy => ?_, by simp [I.eq]; omega⟩
      rcases List.mem_append.mp hy with hy | hy
      · exact keys_app (I.sub y hy)
      · have : y = a := by simpa using hy
        rw [this, keysF, List.map_append]; simp
  · exact I
theorem exH_inv (mv : List Ln) (I : SInv M ps F0 x) (hm : h ∈ keysF F0) : SInv M ps F0 (exH ps mv x h) := by
  unfold exH
  induction mv generalizing x with
  | nil => exact I
  | cons l mv ih => rw [List.foldl_cons]; exact ih (ex1_inv I hm)
theorem exHs_inv {mv : List Ln} {hs : List BS} (I : SInv M ps F0 x) (hm : ∀ h ∈ hs, h ∈ keysF F0) : SInv M ps F0 (hs.foldl (exH ps mv) x) := by
  induction hs generalizing x with
  | nil => exact I
  | cons h hs ih => rw [List.foldl_cons]; exact ih (exH_inv mv I (hm h (by simp))) fun y hy => hm y (by simp [hy])
theorem sinv_start {F : Fd} (I : LInv M ps F) : SInv M ps F (F, []) := ⟨I, List.prefix_refl _, (fun _ h => nomatch h), rfl⟩
end
theorem begin_bok {M : Mac} {ps : List T} : BOk M ps (begin0 M ps) := by
  refine ⟨by simp [begin0, firsts], fun t ht => ?_⟩
  obtain ⟨u, hu, e⟩ := List.mem_map.mp ht
  by_cases hp : u ∈ ps
  · rw [if_pos hp] at e; cases e; exact hp
  · rw [if_neg hp] at e; cases e
/-- the layers -/
theorem lay_inv {M : Mac} {W : List Wish} (k : Nat) : LInv M (parts W) (lay M W k).1 ∧ ∀ h ∈ (lay M W k).2, h ∈ keysF (lay M W k).1 := by
  induction k with
  | zero =>
    refine ⟨⟨by simp [lay, bst], fun h hh => ?_, fun p hp => ?_⟩, fun h hh => ?_⟩
    · have : h = begin0 M (parts W) := by simpa [lay, bst] using hh
      rw [this]; exact begin_bok
    · have : p = (begin0 M (parts W), []) := by simpa [lay, bst] using hp
      subst this; simp [lay, bst]
    · simpa [lay, bst] using hh
  | succ k ih =>
    have I := exHs_inv (mv := moves M) (sinv_start ih.1) ih.2
    exact ⟨I.inv, I.sub⟩
theorem lay_sinv {M : Mac} {W : List Wish} (k : Nat) : SInv M (parts W) (lay M W k).1 (lay M W (k + 1)) := exHs_inv (mv := moves M) (sinv_start (lay_inv k).1) (lay_inv k).2
/-- all states -/
def univ (ps : List T) : Nat → List BS
  | 0 => [[]]
  | n + 1 => (none :: ps.map some).flatMap fun o => (univ ps n).map (o :: ·)
theorem univ_mem {ps : List T} : ∀ {h : BS}, (∀ t, some t ∈ h → t ∈ ps) → h ∈ univ ps h.length
  | [], _ => by simp [univ]
  | o :: h, hp => by
    have ih := univ_mem (h := h) fun t ht => hp t (List.mem_cons_of_mem _ ht)
    rw [List.length_cons, univ]
    refine List.mem_flatMap.mpr ⟨o, ?_, List.mem_map.mpr ⟨h, ih, rfl⟩⟩
    cases o with
    | none => simp
    | some t => exact List.mem_cons_of_mem _ (List.mem_map.mpr ⟨t, hp t (by simp), rfl⟩)
theorem univ_len {ps : List T} : ∀ n : Nat, (univ ps n).length = (ps.length + 1) ^ n
  | 0 => rfl
  | n + 1 => by
    have : ∀ l : List (Option T), (l.flatMap fun o => (univ ps n).map (o :: ·)).length = l.length * (ps.length + 1) ^ n := fun l => by
      induction l with
      | nil => simp
      | cons o l ih => simp only [List.flatMap_cons, List.length_append, List.length_map, List.length_cons, ih, univ_len n, Nat.succ_mul]; omega
    rw [univ, this, List.length_cons, List.length_map, Nat.pow_succ, Nat.mul_comm]
theorem found_le {M : Mac} {ps : List T} {F : Fd} (hM : M.Ok) (hp : ps.length ≤ 10) (I : LInv M ps F) : F.length ≤ 1331 := by
  have h1 := nodup_sub_length (u := univ ps M.n) I.nd fun h hh => by
    have b := I.bok h hh
    have := univ_mem b.ps
    rw [b.len] at this; exact this
  rw [univ_len, List.length_map] at h1
  have h2 : (ps.length + 1) ^ M.n ≤ 11 ^ M.n := Nat.pow_le_pow_left (by omega) _
  have h3 : 11 ^ M.n ≤ 11 ^ 3 := Nat.pow_le_pow_right (by decide) hM.n3
  omega
/-! ## the lines -/
theorem rows_mem {n r : Nat} {src : List Nat} (hr : r = 1 ∨ r = 2) : src ∈ rows n r ↔ src.length = r ∧ ∀ s ∈ src, s < n := by
  unfold rows
  rcases hr with rfl | rfl
  · rw [if_pos rfl, List.mem_map]
    constructor
    · rintro ⟨a, ha, rfl⟩; exact ⟨rfl, by simpa using ha⟩
    · rintro ⟨h1, h2⟩
      obtain ⟨a, rfl⟩ := List.length_eq_one_iff.mp h1
      exact ⟨a, by simpa using h2, rfl⟩
  · rw [if_neg (by decide), List.mem_flatMap]
    constructor
    · rintro ⟨a, ha, h⟩
      obtain ⟨b, hb, rfl⟩ := List.mem_map.mp h
      exact ⟨rfl, by simp at ha hb; simp [ha, hb]⟩
    · rintro ⟨h1, h2⟩
      obtain ⟨a, b, rfl⟩ : ∃ a b, src = [a, b] := by match src, h1 with | [a, b], _ => exact ⟨a, b, rfl⟩
      exact ⟨a, by simpa using h2 a (by simp), List.mem_map.mpr ⟨b, by simpa using h2 b (by simp), rfl⟩⟩
theorem allLines_mem {M : Mac} (hM : M.Ok) {l : Ln} : l ∈ allLines M ↔ l.Ok M := by
  unfold allLines
  rw [List.mem_flatMap]
  constructor
  · rintro ⟨c, hc, h⟩
    have hc' : c < M.n := by simpa using hc
    unfold cellLines at h
    rcases List.mem_append.mp h with h | h
    · obtain ⟨⟨r, i⟩, hri, h⟩ := List.mem_flatMap.mp h
      obtain ⟨src, hs, rfl⟩ := List.mem_map.mp h
      have hfi : M.fs[i]? = some r := by
        have := List.mem_zipIdx_iff_getElem?.mp hri; simpa using this
      have hr := hM.rd r (List.mem_of_getElem? hfi)
      have := (rows_mem hr).mp hs
      exact ⟨hc', this.2, .inr ⟨i, rfl, by rw [hfi, this.1]⟩⟩
    · obtain ⟨s, hs, rfl⟩ := List.mem_map.mp h
      have := List.mem_filter.mp hs
      have h2 : s ≠ c := by simpa using this.2
      exact ⟨hc', by simpa using this.1, .inl ⟨rfl, s, rfl, h2⟩⟩
  · rintro ⟨hc, hsrc, hf⟩
    refine ⟨l.c, by simpa using hc, ?_⟩
    unfold cellLines
    obtain ⟨c, f, src⟩ := l
    rcases hf with ⟨rfl, s, rfl, hne⟩ | ⟨i, rfl, hi⟩
    · exact List.mem_append_right _ (List.mem_map.mpr ⟨s, List.mem_filter.mpr ⟨by simpa using hsrc, by simpa using hne⟩, rfl⟩)
    · refine List.mem_append_left _ (List.mem_flatMap.mpr ⟨(src.length, i), ?_, List.mem_map.mpr ⟨src, (rows_mem (hM.rd _ (List.mem_of_getElem? hi))).mpr ⟨rfl, hsrc⟩, rfl⟩⟩)
      exact List.mem_zipIdx_iff_getElem?.mpr hi
theorem moves_mem {M : Mac} (hM : M.Ok) {l : Ln} : l ∈ moves M ↔ l.Ok M ∧ soft l = true := by
  unfold moves; rw [List.mem_filter, allLines_mem hM]
end L2.LL

/-! # LLW9 -/
set_option Elab.async false
set_option linter.all false
set_option maxRecDepth 100000
set_option maxHeartbeats 2000000
namespace L2.LL
open PySem PySem.Spec PyProof.Rows
/-- a value that the search makes -/
theorem bval_wt {M : Mac} {ps : List T} {h : BS} {l : Ln} {t : T} (b : BOk M ps h) (hl : l.Ok M) (hps : ∀ t ∈ ps, WT M t ∧ t.depth ≤ 4) (e : bval h l = some t) : WT M t ∧ t.depth ≤ 5 := by
  unfold bval at e
  rcases hl.fn with ⟨ef, s, e2, e3⟩ | ⟨i, ef, e2⟩
  · rw [ef, e2] at e
    simp only [List.head?_cons, Option.getD_some] at e
    obtain ⟨o, ho, hp⟩ := b.get (hl.src s (by simp [e2]))
    rw [ho] at e
    simp only [Option.getD_some] at e
    have := hps t (hp t e)
    exact ⟨this.1, by omega⟩
  · rw [ef] at e
    simp only at e
    split at e
    · rename_i hall
      cases e
      have hall' : ∀ s ∈ l.src, WT M ((h[s]?.getD none).getD .none) ∧ ((h[s]?.getD none).getD .none).depth ≤ 4 := fun s hs => by
        obtain ⟨o, ho, hp⟩ := b.get (hl.src s hs)
        have h1 := hall s hs
        rw [ho] at h1 ⊢
        obtain ⟨t, ht⟩ := Option.isSome_iff_exists.mp h1
        simp only [Option.getD_some] at ht ⊢
        rw [ht]
        exact hps t (hp t ht)
      refine ⟨.tup (by rw [List.length_map]; exact e2) fun u hu => ?_, arg_depth fun u hu => ?_⟩
      · obtain ⟨s, hs, rfl⟩ := List.mem_map.mp hu; exact (hall' s hs).1
      · obtain ⟨s, hs, rfl⟩ := List.mem_map.mp hu; exact (hall' s hs).2
    · cases e
theorem w_S_behind {g : Gp} : ∀ ds S Q, Sco S → F_S_behind g ds S Q → fb_S_behind g (EndG S Q) (startD N_S_behind ds) S := by
  intro ds S Q hs h
  unfold F_S_behind at h
  split at h
  · rename_i n v u
    obtain ⟨M, W, hd, l, rfl, rfl, sok, sr, b, hl, h⟩ := h
    have hM := sok.m
    have hW := sok.w
    obtain ⟨pa, pb, pc, pd, ep, g0, g1, g2, g3, g4⟩ := sr
    have hps : ∀ t ∈ parts W, WT M t ∧ t.depth ≤ 4 := fun t ht => parts_wt hM hW ht
    have hn3 := hM.n3
    have hlen : hd.length ≤ 3 := by rw [b.len]; exact hn3
    have hcl : l.c < (hd.map (encP (parts W))).length := by rw [List.length_map, b.len]; exact hl.c
    have hsrc : l.src.length ≤ 2 := by
      rcases hl.fn with ⟨_, s, e2, _⟩ | ⟨i, _, e2⟩
      · rw [e2]; simp
      · rcases hM.rd _ (List.mem_of_getElem? e2) with h | h <;> omega
    obtain ⟨oc, hoc, hocp⟩ := b.get hl.c
    unfold fb_S_behind
    generalize hPs : parts W = ps at *
    -- what is handed back at the end
    have last : ∀ (p : Option T) (y6 : Option D), (∀ t, p = some t → t ∈ ps) → bval hd l = p ∨ (p = none ∧ ∀ t, bval hd l = some t → t ∉ ps) →
        bSeq (bIf (xOr (dTest (dOp opEq (dVar 7) (dC (.dat (.num (-1)))))) (dTest (dOp opEq (dVar 7) (dOp (opIx g) (dVar 1) (dVar 3))))) (bSeq (bRet (dC (.dat .none))) bNext) bNext)
          (bSeq (bRet (dOp opAdd (dOp opAdd (dCut (dVar 1) oNo (oAt (dVar 3))) (dTup (dCons (dVar 7) dNil))) (dCut (dVar 1) (oAt (dOp opAdd (dVar 3) (dC (.dat (.num 1))))) oNo))) bNext) (EndG S Q)
          [some (.ref n), some (.dat (encS ps hd)), some (.dat l.t), some (.dat (nT l.c)), some (.dat (fT l.f)), some (.dat (.tup (nTs l.src))), y6, some (.dat (encP ps p))] S := by
      intro p y6 hp hb
      have hcg := enc_get (ps := ps) hoc
      have hshc := encP_shal (ps := ps) (o := oc)
      have hshp := encP_shal (ps := ps) (o := p)
      cases p with
      | none =>
        have hbeh : beh ps hd l = none := by
          unfold beh
          rcases hb with hb | ⟨_, hb⟩
          · rw [hb]
          · cases e : bval hd l with
            | none => rfl
            | some t => simp only; rw [if_neg (fun z => hb t e z.1)]
        rw [hbeh] at h
        simp [encP]
        exact gcd0 hs h
      | some t =>
        have hbv : bval hd l = some t := by
          rcases hb with hb | ⟨e, _⟩
          · exact hb
          · cases e
        have h1 : ¬ encP ps (some t) = .num (-1) := by rw [encP_none]; simp
        by_cases he : oc = some t
        · have hbeh : beh ps hd l = none := by
            unfold beh
            rw [hbv]
            simp only
            rw [if_neg (fun z => z.2 (by rw [hoc, he]))]
          rw [hbeh] at h
          simp [h1, hcg, he, hshp]
          exact gcd0 hs h
        · have hbeh : beh ps hd l = some (hd.set l.c (some t)) := by
            unfold beh
            rw [hbv]
            simp only
            rw [if_pos ⟨hp t rfl, fun z => he (by rw [hoc] at z; exact Option.some.inj z)⟩]
          rw [hbeh] at h
          have h2 : ¬ encP ps (some t) = encP ps oc := by
            rw [encP_inj hp hocp]; exact fun z => he z.symm
          have l1 := cut_len (l := hd.map (encP ps)) (a := none) (b := some (l.c : Int))
          have l2 := cut_len (l := hd.map (encP ps)) (a := some ((l.c : Int) + 1)) (b := none)
          rw [List.length_map] at l1 l2
          have h1' : ¬ (encP ps (some t) = NestedKey.num (-1)) := h1
          simp [h1', hcg, h2, hshp, hshc]
          refine ⟨by omega, by omega, gcd0 hs ?_⟩
          have := set_cut (l := hd.map (encP ps)) (x := encP ps (some t)) hcl
          simp only [List.append_assoc, List.singleton_append] at this
          rw [this, ← List.map_set]
          exact h
    have hbn : (∃ s ∈ l.src, hd[s]? = some none) → bval hd l = none := by
      rintro ⟨s, hs, e⟩
      unfold bval
      rcases hl.fn with ⟨ef, s', e2, e3⟩ | ⟨i, ef, e2⟩
      · rw [ef, e2]
        rw [e2] at hs
        have : s = s' := by simpa using hs
        subst this
        simp [e]
      · rw [ef]
        simp only
        rw [if_neg]
        intro z
        have := z s hs
        rw [e] at this; cases this
    simp only [s_start, s_seq, s_asg, s_if, s_truth, s_gen, s_iT, s_var]
    refine ⟨.dat l.t, rfl, l.t, rfl, ?_⟩
    simp only [s_gT, s_gsCons, s_gsNil, s_gN]
    refine ⟨rfl, trivial, .dat (.tup (nTs l.src)), rfl, nTs l.src, rfl, ?_⟩
    refine gen_pure (fun t => match t with | .num s => decide ((hd.map (encP ps))[s.toNat]? = some (.num (-1))) | _ => false) (by trivial) (fun t R ht hR => ?_) ?_
    · obtain ⟨s, hs2, rfl⟩ := List.mem_map.mp ht
      obtain ⟨o, ho, _⟩ := b.get (hl.src s hs2)
      have hg := enc_get (ps := ps) ho
      have hsh := encP_shal (ps := ps) (o := o)
      simp [ho, hsh] at hR ⊢
      exact hR
    rw [if_neg (by decide)]
    have hany : ((nTs l.src).any fun t => match t with | .num s => decide ((hd.map (encP ps))[s.toNat]? = some (.num (-1))) | _ => false) = decide (∃ s ∈ l.src, hd[s]? = some none) := by
      rw [Bool.eq_iff_iff, List.any_eq_true, decide_eq_true_iff]
      constructor
      · rintro ⟨t, ht, h1⟩
        obtain ⟨s, hs2, rfl⟩ := List.mem_map.mp ht
        obtain ⟨o, ho, _⟩ := b.get (hl.src s hs2)
        have h2 := of_decide_eq_true h1
        rw [Int.toNat_natCast, enc_get ho] at h2
        have := encP_none.mp (Option.some.inj h2)
        subst this
        exact ⟨s, hs2, ho⟩
      · rintro ⟨s, hs2, ho⟩
        refine ⟨nT s, List.mem_map.mpr ⟨s, hs2, rfl⟩, decide_eq_true ?_⟩
        rw [Int.toNat_natCast, enc_get ho]; rfl
    rw [hany]
    by_cases hsome : ∃ s ∈ l.src, hd[s]? = some none
    · rw [decide_eq_true hsome]
      have hbeh : beh ps hd l = none := by unfold beh; rw [hbn hsome]
      rw [hbeh] at h
      simp
      exact gcd0 hs h
    · rw [decide_eq_false hsome]
      have hgot : ∀ s ∈ l.src, ∃ t, hd[s]? = some (some t) ∧ t ∈ ps := fun s hs2 => by
        obtain ⟨o, ho, hp⟩ := b.get (hl.src s hs2)
        cases o with
        | none => exact absurd ⟨s, hs2, ho⟩ hsome
        | some t => exact ⟨t, ho, hp t rfl⟩
      rcases hl.fn with ⟨ef, s, e2, e3⟩ | ⟨i, ef, e2⟩
      · obtain ⟨t, ht, htp⟩ := hgot s (by simp [e2])
        have hbv : bval hd l = some t := by unfold bval; rw [ef, e2]; simp [ht]
        have hg := enc_get (ps := ps) ht
        simp only [s_next, s_if, s_seq, s_test, s_op, s_var, s_C, s_set]
        refine ⟨.dat (fT l.f), rfl, ?_⟩
        rw [s_isN]
        refine ⟨rfl, ?_⟩
        rw [ef]
        simp only [fT, if_neg Bool.false_ne_true, decide_true, s_next, s_if, s_seq, s_op, s_var, s_C, s_set]
        refine ⟨.dat (encS ps hd), rfl, .dat (.tup (nTs l.src)), rfl, ?_⟩
        rw [e2]
        simp only [s_ixT, nTs, List.map_cons, List.map_nil, s_at0]
        refine ⟨_, rfl, ?_⟩
        simp only [s_ixT, s_atN]
        refine ⟨_, hg, ?_⟩
        have := last (some t) none (fun u hu => by cases hu; exact htp) (.inl hbv)
        rw [ef, e2] at this
        exact this
      · have hall : ∀ s ∈ l.src, ((hd[s]?).getD none).isSome = true := fun s hs2 => by
          obtain ⟨t, ht, _⟩ := hgot s hs2
          rw [ht]; rfl
        have hbv : bval hd l = some (.tup (nT i :: l.src.map fun s => ((hd[s]?).getD none).getD .none)) := by
          unfold bval; rw [ef]; simp only; rw [if_pos hall]
        obtain ⟨w1, w2⟩ := bval_wt b hl hps hbv
        simp only [s_next, s_if, s_seq, s_test, s_op, s_var, s_C, s_set]
        refine ⟨.dat (fT l.f), rfl, ?_⟩
        rw [s_isN]
        refine ⟨rfl, ?_⟩
        rw [ef]
        have hni : ¬ (D.dat (nT i) = D.dat .none) := by simp
        simp only [fT, if_neg Bool.false_ne_true, decide_eq_false hni, s_next, s_if, s_seq, s_op, s_var, s_C, s_set, s_mt2, s_fld, s_tup, s_cons, s_nil, s_gc, s_call, s_lc, s_iT]
        refine ⟨.ref n, rfl, n, _, .ref pa, rfl, g0, rfl, pa, rfl, ⟨_, _, g1⟩, .dat (nT i), rfl, [nT i], rfl, by simp, fun hs' => ?_⟩
        refine ⟨.dat (.tup (nTs l.src)), rfl, nTs l.src, rfl, ?_⟩
        refine lc_map (fun t => match t with | .num s => .dat (((hd[s.toNat]?).getD none).getD .none) | _ => .bl true) (by trivial) (by simp; omega) (fun t R1 ht h1 => ?_) ?_
        · obtain ⟨s, hs2, rfl⟩ := List.mem_map.mp ht
          obtain ⟨t, ht, htp⟩ := hgot s hs2
          simp only [s_gN, s_op, s_fld, s_var]
          refine ⟨.ref n, rfl, n, _, .ref pb, rfl, g0, rfl, .dat (encS ps hd), rfl, .dat (nT s), rfl, ?_⟩
          simp only [s_ixT, s_atN]
          refine ⟨_, enc_get ht, ?_⟩
          simp only [encP, s_ixL, s_atN]
          refine ⟨_, .dat t, g2, by rw [List.getElem?_map, idx_get htp]; rfl, ?_⟩
          simp only [Int.toNat_natCast, ht] at h1
          exact h1
        simp only [s_tupleOf]
        refine ⟨l.src.map fun s => ((hd[s]?).getD none).getD .none, by simp [Function.comp_def], ?_⟩
        refine gcd hs' ⟨_, rfl⟩ ?_
        simp only [s_addT]
        refine ⟨by simp; omega, ?_⟩
        refine ⟨_, _, g1, w1.key (by omega), ?_⟩
        rw [getL_parts]
        by_cases hm : NestedKey.tup (nT i :: l.src.map fun s => ((hd[s]?).getD none).getD .none) ∈ ps
        · have := last _ none (fun u hu => by cases hu; exact hm) (.inl hbv)
          rw [ef] at this
          simp only [List.singleton_append]
          rw [if_pos hm]
          exact this
        · have := last none none (fun u hu => by cases hu) (.inr ⟨rfl, fun t e => by rw [hbv] at e; cases e; exact hm⟩)
          rw [ef] at this
          simp only [List.singleton_append]
          rw [if_neg hm]
          exact this
  · exact h.elim
end L2.LL

/-! # LLW10 -/
set_option Elab.async false
set_option linter.all false
set_option maxRecDepth 100000
set_option maxHeartbeats 2000000
namespace L2.LL
open PySem PySem.Spec PyProof.Rows
theorem SrcAt.app {g : Gp} {S r : Sto} {n : Nat} {M : Mac} {W : List Wish} (h : SrcAt g S n M W) : SrcAt g (S ++ r) n M W := by
  obtain ⟨a, b, c, d, ep, h0, h1, h2, h3, h4⟩ := h
  exact ⟨a, b, c, d, ep, pre_get (List.prefix_append _ _) h0, pre_get (List.prefix_append _ _) h1, pre_get (List.prefix_append _ _) h2, pre_get (List.prefix_append _ _) h3, pre_get (List.prefix_append _ _) h4⟩
theorem mid_get {α : Type} {S l : List α} {a : α} {j : Nat} : (S ++ [a] ++ l)[S.length + 1 + j]? = l[j]? := by
  rw [List.getElem?_append_right (by simp)]; congr 1; simp
theorem mid_set {α : Type} {S l : List α} {a x : α} {j : Nat} : (S ++ [a] ++ l).set (S.length + 1 + j) x = S ++ [a] ++ l.set j x := by
  rw [List.set_append_right _ _ (by simp)]; congr 2; simp
def shK (M : Mac) (W : List Wish) (k : Nat) : Nat := 2 * (1331 - (lay M W k).1.length) + (if (lay M W k).2 = [] then 0 else 1)
def shW (M : Mac) (W : List Wish) (S : Sto) (n : Nat) (m : Nat) (σ : SD) (S' : Sto) : Prop := ∃ (k ep : Nat) (l : Sto) (j : Nat) (x3 x4 x5 x6 x7 x8 : Option D), Not0 M W k ∧ S' = S ++ [.dct (encF (parts W) (lay M W k).1) ep] ++ l ∧
  l[j]? = some (.lst ((encB (parts W) (lay M W k).2).map .dat)) ∧ σ = [some (.ref n), some (.ref S.length), some (.ref (S.length + 1 + j)), x3, x4, x5, x6, x7, x8] ∧ m = shK M W k
def shA (M : Mac) (W : List Wish) (L : List BS) (S' : Sto) (n s : Nat) (j : Nat) (i : Nat) (σ : SD) (S2 : Sto) : Prop := S2 = S' ∧ (∀ h ∈ L.take i, ¬ goalB W h) ∧ ∃ (x3 x4 x5 x6 x7 x8 : Option D),
  σ = [some (.ref n), some (.ref s), some (.ref (s + 1 + j)), x3, x4, x5, x6, x7, x8]
def shI (M : Mac) (W : List Wish) (S l : Sto) (n j : Nat) (x : Fd × List BS) (σ : SD) (S2 : Sto) : Prop := ∃ (ep : Nat) (x3 x4 x5 x7 x8 : Option D), S2 = S ++ [.dct (encF (parts W) x.1) ep] ++ (l ++ [.lst ((encB (parts W) x.2).map .dat)]) ∧
  σ = [some (.ref n), some (.ref S.length), some (.ref (S.length + 1 + j)), x3, x4, x5, some (.ref (S.length + 1 + l.length)), x7, x8]
def shJ (M : Mac) (W : List Wish) (S l : Sto) (n j : Nat) (h : BS) (x : Fd × List BS) (σ : SD) (S2 : Sto) : Prop := ∃ (ep : Nat) (x4 x5 x7 x8 : Option D), S2 = S ++ [.dct (encF (parts W) x.1) ep] ++ (l ++ [.lst ((encB (parts W) x.2).map .dat)]) ∧
  σ = [some (.ref n), some (.ref S.length), some (.ref (S.length + 1 + j)), some (.dat (encS (parts W) h)), x4, x5, some (.ref (S.length + 1 + l.length)), x7, x8]
instance {W : List Wish} {h : BS} : Decidable (goalB W h) := by unfold goalB; infer_instance
def gPred (ps : List T) (hd : BS) : T → Bool
  | .tup [.num c, x] => decide ((hd.map (encP ps))[c.toNat]? = some x)
  | _ => false
theorem enc_isEmpty {ps : List T} {L : List BS} : ((encB ps L).map D.dat).isEmpty = L.isEmpty := by cases L <;> rfl
theorem w_S_shortest {g : Gp} : ∀ ds S Q, Sco S → F_S_shortest g ds S Q → fb_S_shortest g (EndG S Q) (startD N_S_shortest ds) S := by
  intro ds S Q hs h
  unfold F_S_shortest at h
  split at h
  · rename_i n
    obtain ⟨M, W, sok, sr, h⟩ := h
    have hM := sok.m
    have hW := sok.w
    have sr' := sr
    obtain ⟨pa, pb, pc, pd, epp, g0, g1, g2, g3, g4⟩ := sr'
    unfold fb_S_shortest
    simp only [s_start, s_seq, s_par, s_dict1, s_fld, s_tup, s_lst, s_cons, s_nil, s_var]
    refine ⟨.ref n, rfl, n, _, _, rfl, g0, rfl, [], rfl, by simp, encS_key, fun ep => ?_⟩
    refine ⟨.ref n, rfl, n, _, _, rfl, pre_get (List.prefix_append _ _) g0, rfl, by simp, _, _, rfl, ?_⟩
    rw [s_while]
    refine ⟨shW M W S n, ⟨_, 0, ep, [.lst [.dat (encS (parts W) (begin0 M (parts W)))]], 0, _, _, _, _, _, _, fun j hj => absurd hj (Nat.not_lt_zero j), rfl, rfl, by simp; exact ⟨rfl, rfl, rfl, rfl, rfl, rfl⟩, rfl⟩, ?_⟩
    rintro m σ S' ⟨k, ep, l, j, x3, x4, x5, x6, x7, x8, hN, rfl, hlay, rfl, rfl⟩
    have LI := lay_inv (M := M) (W := W) k
    have SI := lay_sinv (M := M) (W := W) k
    have LI1 := lay_inv (M := M) (W := W) (k + 1)
    have hF1 := found_le hM sok.sz LI.1
    have hF2 := found_le hM sok.sz LI1.1
    have hlx : lay M W (k + 1) = ((lay M W k).2).foldl (exH (parts W) (moves M)) ((lay M W k).1, []) := rfl
    have hbk := LI.1.bok
    have hg0 : ∀ r : Sto, (S ++ r)[n]? = _ := fun r => pre_get (List.prefix_append _ _) g0
    have hg3 : ∀ r : Sto, (S ++ r)[pc]? = _ := fun r => pre_get (List.prefix_append _ _) g3
    have hg4 : ∀ r : Sto, (S ++ r)[pd]? = _ := fun r => pre_get (List.prefix_append _ _) g4
    simp only [s_truth, s_var]
    refine ⟨.ref (S.length + 1 + j), rfl, _, by rw [mid_get]; exact hlay, ?_⟩
    rw [enc_isEmpty]
    cases hem : ((lay M W k).2).isEmpty with
    | true =>
      have hnil : (lay M W k).2 = [] := List.isEmpty_iff.mp hem
      exact gcd hs ⟨_, by rw [List.append_assoc]⟩ (h none ⟨k, hN, hnil⟩)
    | false =>
      have hne : (lay M W k).2 ≠ [] := fun z => by rw [z] at hem; cases hem
      simp only [s_seq, s_for, s_iL, s_var, Bool.not_false]
      refine ⟨.ref (S.length + 1 + j), rfl, _, _, rfl, by rw [mid_get]; exact hlay, ?_⟩
      refine ⟨fun i => shA M W (lay M W k).2 (S ++ [.dct (encF (parts W) (lay M W k).1) ep] ++ l) n S.length j i, ⟨rfl, by simp, _, _, _, _, _, _, rfl⟩, ?_, ?_, ?_⟩
      · rintro i σ S2 ⟨rfl, _⟩
        rw [mid_get]; exact hlay
      · rintro i t σ S2 ht ⟨rfl, hng, y3, y4, y5, y6, y7, y8, rfl⟩
        unfold encB at ht
        rw [List.getElem?_map, Option.map_eq_some_iff] at ht
        obtain ⟨hd, hhd, rfl⟩ := ht
        have hdm := List.mem_of_getElem? hhd
        have hb := hbk hd (LI.2 hd hdm)
        simp only [s_gN, s_seq, s_if, s_truth, s_gen, s_iL, s_fld, s_var, s_next]
        refine ⟨.ref n, rfl, n, _, .ref pc, rfl, by rw [List.append_assoc]; exact hg0 _, rfl, pc, W.map fun w => .tup [nT w.1, nT ((parts W).idxOf w.2)], rfl, by rw [List.append_assoc, hg3]; simp [Function.comp_def], ?_⟩
        refine gen_pure (gPred (parts W) hd) (by rw [List.append_assoc, hg3]; simp [Function.comp_def]) (fun t R ht hR => ?_) ?_
        · obtain ⟨w, hw, rfl⟩ := List.mem_map.mp ht
          obtain ⟨o, ho, hop⟩ := hb.get (hW.wt w hw).1
          have hg := enc_get (ps := parts W) ho
          have hsh := encP_shal (ps := parts W) (o := o)
          simp only [s_gT, s_gsCons, s_gsNil, s_gN, s_op, s_var]
          refine ⟨rfl, trivial, .dat (encS (parts W) hd), rfl, .dat (nT w.1), rfl, ?_⟩
          simp only [s_ixT, s_atN]
          refine ⟨_, hg, .dat (nT ((parts W).idxOf w.2)), rfl, ?_⟩
          refine (s_eqD (n := false)).mpr ⟨hsh, rfl, ?_⟩
          simpa [hg, gPred] using hR
        rw [if_pos rfl]
        have hall : ((W.map fun w => NestedKey.tup [nT w.1, nT ((parts W).idxOf w.2)]).all (gPred (parts W) hd)) = decide (goalB W hd) := by
          rw [Bool.eq_iff_iff, List.all_eq_true, decide_eq_true_iff]
          constructor
          · intro z w hw
            have := of_decide_eq_true (z _ (List.mem_map.mpr ⟨w, hw, rfl⟩))
            obtain ⟨o, ho, hop⟩ := hb.get (hW.wt w hw).1
            rw [Int.toNat_natCast, enc_get ho] at this
            have e := (encP_inj (u := some w.2) hop (fun t e => by cases e; exact parts_wish hw)).mp (Option.some.inj this)
            rw [ho, e]
          · intro z t ht
            obtain ⟨w, hw, rfl⟩ := List.mem_map.mp ht
            refine decide_eq_true ?_
            rw [Int.toNat_natCast, enc_get (z w hw)]; rfl
        rw [hall]
        by_cases hgl : goalB W hd
        · rw [decide_eq_true hgl]
          simp only [s_seq, s_ret, s_op, s_var]
          refine ⟨.ref S.length, rfl, .dat (encS (parts W) hd), rfl, ?_⟩
          rw [s_ixD]
          refine ⟨_, ep, _, get_mid, encS_key, by rw [getF hbk hb, if_pos (LI.2 hd hdm)], ?_⟩
          exact gcd hs ⟨_, by rw [List.append_assoc]⟩ (h (some _) ⟨k, hd, hN, hdm, hgl, rfl⟩)
        · rw [decide_eq_false hgl]
          refine ⟨rfl, fun y hy => ?_, _, _, _, _, _, _, rfl⟩
          rw [List.take_add_one, hhd] at hy
          rcases List.mem_append.mp hy with hy | hy
          · exact hng y hy
          · have : y = hd := by simpa using hy
            rw [this]; exact hgl
      · rintro σ S2 ⟨rfl, hng, y3, y4, y5, y6, y7, y8, rfl⟩
        have hN1 : Not0 M W (k + 1) := fun j' hj' x hx => by
          by_cases e : j' = k
          · subst e
            refine hng x ?_
            unfold encB
            rw [List.length_map, List.take_length]; exact hx
          · exact hN j' (by omega) x hx
        simp only [s_seq, s_set, s_lst, s_nil, s_for, s_iL, s_var]
        refine ⟨by simp, .ref (S.length + 1 + j), rfl, _, _, rfl, by rw [List.append_assoc, mid_get]; exact pre_get (List.prefix_append _ _) hlay, ?_⟩
        have hjl := (List.getElem?_eq_some_iff.mp hlay).1
        have hlay2 : ∀ r : Sto, (l ++ r)[j]? = some (.lst ((encB (parts W) (lay M W k).2).map .dat)) := fun r => pre_get (List.prefix_append _ _) hlay
        have elen : (S ++ [AO.dct (encF (parts W) (lay M W k).1) ep] ++ l).length = S.length + 1 + l.length := by simp; omega
        rw [elen]
        refine ⟨fun i => shI M W S l n j (((lay M W k).2.take i).foldl (exH (parts W) (moves M)) ((lay M W k).1, [])), ⟨ep, _, _, _, _, _, by rw [List.append_assoc]; rfl, rfl⟩, ?_, ?_, ?_⟩
        · rintro i σ S2 ⟨ep2, z3, z4, z5, z7, z8, rfl, _⟩
          rw [mid_get]; exact hlay2 _
        · rintro i t σ S2 ht ⟨ep2, z3, z4, z5, z7, z8, rfl, rfl⟩
          unfold encB at ht
          rw [List.getElem?_map, Option.map_eq_some_iff] at ht
          obtain ⟨hd, hhd, rfl⟩ := ht
          have hdm := List.mem_of_getElem? hhd
          have hdk := LI.2 hd hdm
          have hb := hbk hd hdk
          have SIi := exHs_inv (mv := moves M) (hs := (lay M W k).2.take i) (sinv_start LI.1) fun y hy => LI.2 y (List.mem_of_mem_take hy)
          generalize hx0 : ((lay M W k).2.take i).foldl (exH (parts W) (moves M)) ((lay M W k).1, []) = x0 at *
          have hx1 : ((lay M W k).2.take (i + 1)).foldl (exH (parts W) (moves M)) ((lay M W k).1, []) = (moves M).foldl (ex1 (parts W) hd) x0 := by
            rw [List.take_add_one, hhd, List.foldl_append, hx0]; rfl
          simp only [s_gN, s_seq, s_for, s_iL, s_fld, s_var, s_next]
          refine ⟨.ref n, rfl, n, _, .ref pd, rfl, by rw [List.append_assoc]; exact hg0 _, rfl, pd, (moves M).map Ln.t, rfl, by rw [List.append_assoc, hg4]; simp [Function.comp_def], ?_⟩
          refine ⟨fun q => shJ M W S l n j hd (((moves M).take q).foldl (ex1 (parts W) hd) x0), ⟨ep2, _, _, _, _, rfl, rfl⟩, ?_, ?_, ?_⟩
          · rintro q σ S2 ⟨ep3, u4, u5, u7, u8, rfl, _⟩
            rw [List.append_assoc, hg4]; simp [Function.comp_def]
          · rintro q t σ S2 ht ⟨ep3, u4, u5, u7, u8, rfl, rfl⟩
            rw [List.getElem?_map, Option.map_eq_some_iff] at ht
            obtain ⟨ln, hln, rfl⟩ := ht
            have hlok := (moves_mem hM).mp (List.mem_of_getElem? hln)
            have SIq : ∀ q, SInv M (parts W) (lay M W k).1 (((moves M).take q).foldl (ex1 (parts W) hd) x0) := fun q => exH_inv ((moves M).take q) SIi hdk
            have SIq1 := SIq (q + 1)
            have SIq0 := SIq q
            have hxq : ((moves M).take (q + 1)).foldl (ex1 (parts W) hd) x0 = ex1 (parts W) hd (((moves M).take q).foldl (ex1 (parts W) hd) x0) ln := by
              rw [List.take_add_one, hln, List.foldl_append]; rfl
            rw [hxq] at SIq1
            generalize hxx : ((moves M).take q).foldl (ex1 (parts W) hd) x0 = x at *
            have hkx := SIq0.key hdk
            have hfx := found_le hM sok.sz SIq0.inv
            have hbe := beh_eq (ps := parts W) (h := hd) (l := ln) (by rw [hb.len]; exact hlok.1.c)
            simp only [s_gN, s_seq, s_set, s_meth, s_cons, s_nil, s_var]
            rw [hxq]
            refine ⟨.ref n, rfl, n, _, rfl, by rw [List.append_assoc]; exact hg0 _, rfl, .dat (encS (parts W) hd), rfl, .dat ln.t, rfl, ?_⟩
            refine ⟨M, W, hd, ln, rfl, rfl, sok, by rw [List.append_assoc]; exact sr.app, hb, hlok.1, ?_⟩
            simp only [s_if, s_xAnd, s_test, s_op, s_var, s_C, s_next]
            cases hbh : beh (parts W) hd ln with
            | none =>
              refine ⟨.dat .none, rfl, ?_⟩
              rw [s_isN]
              refine ⟨rfl, ?_⟩
              simp only [if_true, decide_true, Bool.not_true]
              have e : ex1 (parts W) hd x ln = x := by
                rw [hbh] at hbe
                unfold ex1
                cases hnx : nxt (parts W) hd ln with
                | none => rfl
                | some a =>
                  rw [hnx] at hbe
                  simp only at hbe
                  by_cases ea : a = hd
                  · subst ea
                    simp only
                    rw [if_pos hkx]
                  · rw [if_neg ea] at hbe; cases hbe
              rw [e]
              exact ⟨ep3, _, _, _, _, rfl, rfl⟩
            | some a =>
              have hnx : nxt (parts W) hd ln = some a := by
                rw [hbh] at hbe
                cases hnx : nxt (parts W) hd ln with
                | none => rw [hnx] at hbe; cases hbe
                | some b =>
                  rw [hnx] at hbe
                  simp only at hbe
                  split at hbe
                  · cases hbe
                  · cases hbe; rfl
              have hab := nxt_bok hb hnx
              refine ⟨.dat (encS (parts W) a), rfl, ?_⟩
              rw [s_isN]
              refine ⟨rfl, ?_⟩
              have hnn : ¬ (D.dat (encS (parts W) a) = D.dat .none) := by simp
              simp only [if_true, decide_eq_false hnn, Bool.not_false]
              refine ⟨.dat (encS (parts W) a), rfl, .ref S.length, rfl, ?_⟩
              rw [s_inD]
              refine ⟨_, ep3, get_mid, encS_key, ?_⟩
              rw [getF SIq0.inv.bok hab]
              by_cases hak : a ∈ keysF x.1
              · have e : ex1 (parts W) hd x ln = x := by
                  unfold ex1; rw [hnx]; simp only; rw [if_pos hak]
                rw [e, if_pos hak]
                exact ⟨ep3, _, _, _, _, rfl, rfl⟩
              · have e : ex1 (parts W) hd x ln = (x.1 ++ [(a, pathOf x.1 hd ++ [ln])], x.2 ++ [a]) := by
                  unfold ex1; rw [hnx]; simp only; rw [if_neg hak]
                rw [e, if_neg hak]
                have hpl := path_lt SIq0.inv hkx
                simp only [Option.isSome_none, if_true, Bool.not_false, s_seq, s_setIx, s_op, s_var, s_tup, s_cons, s_nil]
                refine ⟨.ref S.length, rfl, .dat (encS (parts W) hd), rfl, ?_⟩
                rw [s_ixD]
                refine ⟨_, ep3, _, get_mid, encS_key, by rw [getF SIq0.inv.bok hb, if_pos hkx], .dat ln.t, rfl, [ln.t], rfl, by simp, ?_⟩
                rw [s_addT]
                refine ⟨by simp; omega, .ref S.length, rfl, .dat (encS (parts W) a), rfl, S.length, _, _, ep3, rfl, rfl, get_mid, encS_key, by rw [encF_len]; omega, fun ep4 => ?_⟩
                have ep5 : NestedKey.tup ((pathOf x.1 hd).map Ln.t ++ [ln.t]) = prT (pathOf x.1 hd ++ [ln]) := by simp
                rw [ep5, putF SIq0.inv.bok hab hak, set_mid]
                have hll : (l ++ [AO.lst ((encB (parts W) x.2).map .dat)])[l.length]? = some (.lst ((encB (parts W) x.2).map .dat)) := by simp
                simp only [s_seq, s_drop, s_append, s_var, s_next]
                refine ⟨.ref (S.length + 1 + l.length), rfl, _, rfl, ⟨_, by rw [mid_get]; exact hll⟩, .dat (encS (parts W) a), rfl, _, by rw [mid_get]; exact hll, ?_, ?_⟩
                · have := SIq0.eq
                  simp [encB]; omega
                · rw [mid_set]
                  refine ⟨ep4, _, _, _, _, ?_, rfl⟩
                  congr 1
                  rw [List.set_append_right _ _ (Nat.le_refl _)]
                  simp [encB]
          · rintro σ S2 ⟨ep3, u4, u5, u7, u8, rfl, rfl⟩
            rw [hx1]
            rw [List.length_map, List.take_length]
            exact ⟨ep3, _, _, _, _, _, rfl, rfl⟩
        · rintro σ S2 ⟨ep2, z3, z4, z5, z7, z8, rfl, rfl⟩
          have e : ((lay M W k).2.take (encB (parts W) (lay M W k).2).length).foldl (exH (parts W) (moves M)) ((lay M W k).1, []) = lay M W (k + 1) := by
            unfold encB
            rw [List.length_map, List.take_length, hlx]
          rw [e]
          simp only [s_seq, s_set, s_var, s_next]
          refine ⟨.ref (S.length + 1 + l.length), rfl, shK M W (k + 1), ?_, k + 1, ep2, _, l.length, _, _, _, _, _, _, hN1, rfl, by simp, rfl, rfl⟩
          have := SI.eq
          unfold shK
          rw [if_neg hne]
          by_cases he : (lay M W (k + 1)).2 = []
          · rw [if_pos he]
            rw [he] at this
            simp at this
            omega
          · rw [if_neg he]
            have hp := List.length_pos_iff.mpr he
            omega
  · exact h.elim
theorem w_best {g : Gp} : ∀ ds S Q, Sco S → F_best g ds S Q → fb_best g (EndG S Q) (startD N_best ds) S := by
  intro ds S Q hs h
  unfold F_best at h
  split at h
  · obtain ⟨M, W, rfl, rfl, rfl, sok, h⟩ := h
    unfold fb_best
    simp only [s_start, s_seq, s_ret, s_meth, s_make, s_cons, s_nil, s_var]
    refine ⟨.dat M.t, rfl, .dat (wsT W), rfl, .bl true, rfl, M, W, rfl, rfl, rfl, sok, by simp, fun S' hS sr hlen => ⟨rfl, ?_⟩⟩
    have sr' := sr
    obtain ⟨a, b, c, d, ep, h0, h1, h2, h3, h4⟩ := sr'
    refine ⟨S.length, _, rfl, h0, rfl, M, W, sok, sr, fun r hr => ?_⟩
    refine gcd hs ?_ (h r hr)
    have hp : S <+: S' := by
      rw [List.prefix_iff_eq_take]
      apply List.ext_getElem?
      intro i
      rw [List.getElem?_take]
      by_cases hi : i < S.length
      · rw [if_pos hi, hS i (by simp; omega) (by omega), List.getElem?_append_left hi]
      · rw [if_neg hi, List.getElem?_eq_none_iff.mpr (by omega)]
    exact pre_ex hp
  · exact h.elim
end L2.LL

/-! # LLW11 -/
set_option Elab.async false
set_option linter.all false
set_option maxRecDepth 100000
set_option maxHeartbeats 2000000
namespace L2.LL
open PySem PySem.Spec PyProof.Rows
theorem w_need_both {g : Gp} : ∀ ds S Q, Sco S → F_need_both g ds S Q → fb_need_both g (EndG S Q) (startD N_need_both ds) S := by
  intro ds S Q hs h
  unfold F_need_both at h
  split at h
  · obtain ⟨M, W, rfl, rfl, hM, hW, h⟩ := h
    unfold fb_need_both
    simp [s_start]
    refine ⟨M, rfl, hM, ?_⟩
    simp
    exact ⟨M, W, rfl, rfl, hM, hW, gcd0 hs h⟩
  · exact h.elim
theorem w_shortest_gentle {g : Gp} : ∀ ds S Q, Sco S → F_shortest_gentle g ds S Q → fb_shortest_gentle g (EndG S Q) (startD N_shortest_gentle ds) S := by
  intro ds S Q hs h
  unfold F_shortest_gentle at h
  split at h
  · obtain ⟨M, W, rfl, rfl, sok, h⟩ := h
    unfold fb_shortest_gentle
    simp [s_start]
    refine ⟨M, W, rfl, rfl, sok.m, sok.w, ?_⟩
    simp
    exact ⟨M, W, rfl, rfl, rfl, sok, fun r hr => gcd0 hs (h r hr)⟩
  · exact h.elim
theorem w_can_be_proof {g : Gp} : ∀ ds S Q, Sco S → F_can_be_proof g ds S Q → fb_can_be_proof g (EndG S Q) (startD N_can_be_proof ds) S := by
  intro ds S Q hs h
  unfold F_can_be_proof at h
  split at h
  · obtain ⟨M, W, rfl, rfl, sok, h⟩ := h
    unfold fb_can_be_proof
    simp [s_start]
    refine ⟨M, W, rfl, rfl, sok.m, sok.w, ?_⟩
    simp
    refine ⟨M, W, rfl, rfl, rfl, sok, fun r hr => ?_⟩
    have := gcb0 hs (h r hr)
    cases r with
    | none => simpa [resT] using this
    | some p => simpa [resT] using this
  · exact h.elim
theorem dbl_map {P : List Ln} {k : Nat} : ((P.map Ln.t).flatMap fun t => ((List.range k).map nT).map fun _ => D.dat t) = ((dbl P k).map Ln.t).map D.dat := by
  unfold dbl
  rw [List.map_flatMap, List.map_flatMap, List.flatMap_map]
  congr 1
  funext l
  simp [List.map_const', Function.comp_def]
theorem dbl_len {P : List Ln} {k : Nat} : (dbl P k).length = P.length * k := by
  unfold dbl
  induction P with
  | nil => simp
  | cons l P ih => rw [List.flatMap_cons, List.length_append, ih, List.length_replicate, List.length_cons, Nat.succ_mul, Nat.add_comm]
theorem w_written {g : Gp} : ∀ ds S Q, Sco S → F_written g ds S Q → fb_written g (EndG S Q) (startD N_written ds) S := by
  intro ds S Q hs h
  unfold F_written at h
  split at h
  · obtain ⟨P, k, rfl, rfl, hk, hz, h⟩ := h
    unfold fb_written
    have hsm : smallRg 0 (k : Int) := by unfold smallRg; omega
    simp only [s_start, s_seq, s_set, s_gc, s_call, s_cons, s_nil, s_lc2, s_iT, s_var]
    intro hs'
    refine ⟨.dat (prT P), rfl, P.map Ln.t, rfl, ?_⟩
    refine lc2_map (us := (List.range k).map nT) (fun t _ => .dat t) (by trivial) (by simp; omega) (fun t R ht hR => ?_) ?_
    · obtain ⟨l, _, rfl⟩ := List.mem_map.mp ht
      simp
      refine hR _ (fun Qi hQ => ?_) (fun u R1 hu h1 => ?_)
      · simp [hsm, rgT0]; exact hQ
      · obtain ⟨j, _, rfl⟩ := List.mem_map.mp hu
        simpa using h1
    rw [dbl_map]
    simp only [s_tupleOf]
    refine ⟨(dbl P k).map Ln.t, by simp, gcd hs' ⟨_, rfl⟩ ?_⟩
    have h60 : ¬ (60 : Int) < (dbl P k).length := by rw [dbl_len]; omega
    simp [h60]
    exact gcd0 hs h
  · exact h.elim
theorem w_proofed {g : Gp} : ∀ ds S Q, Sco S → F_proofed g ds S Q → fb_proofed g (EndG S Q) (startD N_proofed ds) S := by
  intro ds S Q hs h
  unfold F_proofed at h
  split at h
  · obtain ⟨M, P, k, rfl, rfl, rfl, hM, hP, h1, h2, hz, h⟩ := h
    unfold fb_proofed
    simp [s_start]
    refine ⟨M, rfl, hM, ?_⟩
    simp
    refine ⟨M, P, rfl, rfl, hM, hP, ?_⟩
    simp
    refine ⟨by omega, by omega, ?_⟩
    simp
    exact ⟨P, k + 1, rfl, by omega, by omega, hz, gcd0 hs h⟩
  · exact h.elim
end L2.LL

/-! # LLE2 -/
set_option Elab.async false
set_option linter.all false
set_option maxRecDepth 100000
set_option maxHeartbeats 2000000
namespace L2.LL
open PySem PySem.Spec PyProof.Rows
/-! ## written, proof_program with their errors -/
def FX_written : FX := fun ds S Q X => match ds with
  | [.dat p, .dat (.num k)] => ∃ (P : List Ln) (kk : Nat), p = prT P ∧ k = kk ∧ kk ≤ 4 ∧ P.length ≤ 60 ∧ (P.length * kk ≤ 60 → Q (.dat (prT (dbl P kk))) S) ∧ (60 < P.length * kk → X false S)
  | _ => False
def FX_proof_program : FX := fun ds S Q X => match ds with
  | [.dat m, .dat (.num k), .dat v] => ∃ (M : Mac) (W : List Wish) (kk : Nat), m = M.t ∧ k = kk ∧ v = wsT W ∧ SOk M W ∧ 1 ≤ kk ∧ kk ≤ 3 ∧ (∀ p : List Ln, BRes M W (some p) → p.length ≤ 60) ∧
      (BRes M W none → X true S) ∧ ∀ p, BRes M W (some p) → (p.length * (kk + 1) ≤ 60 → Q (.dat (prT (dbl p (kk + 1)))) S) ∧ (60 < p.length * (kk + 1) → X false S)
  | _ => False
theorem gcx0 {S : Sto} {X0 : XQ} {b : Bool} {S' : Sto} (hs : Sco S) (hp : ∃ l, S' = S ++ l) (h : X0 b S) : gcX S.length X0 b S' := by
  obtain ⟨l, rfl⟩ := hp
  exact ⟨S, List.prefix_append _ _, Nat.le_refl _, hs, h⟩
section
variable {P : Program} {w : World} {K : PySem.W.Frag} {mg : Str → Option Value} {base : Heap} {g : Gp}
theorem okX_written (t : Tx K mg g) (e : TxE K mg) {k : Nat} : FnOk P w K mg base (CX P w) (k + 1 + 1 + 1) t.f_written t.fd_written P_written (spX K w g e FX_written) := by
  refine t.F_written.okX sc_written (fun ds S Q X h => ?_) fun A outer s H E hr => ?_
  · unfold FX_written at h
    split at h
    · rfl
    · exact h.elim
  have scN : N_written.Nodup := sc_written.nd
  refine ⟨_, dssx_cons (dsx_up (ds_set (i := 2) scN (de_gc (de_callTy cr_tupleOf rfl t.n_tuple bt_tuple (da_cons (de_lc2 rfl scN (di_tup (de_var 0)) (blkOk_by (N := N_written) (sc := defScope s_written) (own := [("line", 3), ("_", 4)]) (by decide +kernel)) (vs1 := [4]) (by decide)
      (fun _ _ _ _ _ => (dg_n scN (i := 3))) (fun _ _ _ _ _ => dts_nil) (fun _ _ _ _ _ => (di_rg1 rfl t.n_range (de_var 1))) (fun _ _ _ _ _ => (dg_n scN (i := 4))) (fun _ _ _ _ _ => dts_nil) (fun _ _ _ _ _ => (de_var 3))) da_nil)))))
    (dssx_cons (dsx_if (dx_cmp od_gt (de_callB cr_len rfl t.n_len bt_len (da_cons (de_var 2) da_nil)) (de_const rfl t.c_MOST_LINES))
        (dssx_cons (dsx_raiseT rfl hr (takes_of rfl rfl rfl rfl) rfl (de_const rfl t.c_MOST_LINES)) dssx_nil) dssx_nil)
      (dssx_cons (dsx_up (ds_ret (de_var 2))) dssx_nil)), fun ds S Q X0 hs h => ?_⟩
  unfold FX_written at h
  split at h
  · obtain ⟨P, k, rfl, rfl, hk, hP, h1, h2⟩ := h
    have hsm : smallRg 0 (k : Int) := by unfold smallRg; omega
    have hz : P.length * k ≤ 60 * 4 := Nat.mul_le_mul hP hk
    simp only [xSeq, xUp, xIf, s_start, s_set, s_gc, s_call, s_cons, s_nil, s_lc2, s_iT, s_var]
    intro hs'
    refine ⟨.dat (prT P), rfl, P.map Ln.t, rfl, ?_⟩
    refine lc2_map (us := (List.range k).map nT) (fun t _ => .dat t) (by trivial) (by simp; omega) (fun t R ht hR => ?_) ?_
    · obtain ⟨l, _, rfl⟩ := List.mem_map.mp ht
      simp
      refine hR _ (fun Qi hQ => ?_) (fun u R1 hu h1 => ?_)
      · simp [hsm, rgT0]; exact hQ
      · obtain ⟨j, _, rfl⟩ := List.mem_map.mp hu
        simpa using h1
    rw [dbl_map]
    simp only [s_tupleOf]
    refine ⟨(dbl P k).map Ln.t, by simp, gcd hs' ⟨_, rfl⟩ ?_⟩
    simp only [s_test, s_op, s_call, s_cons, s_nil, s_var, s_C]
    refine ⟨_, rfl, ?_⟩
    simp only [s_lenT, List.length_map, dbl_len]
    show (match decide ((60 : Int) < ((P.length * k : Nat) : Int)) with | true => _ | false => _)
    by_cases h60 : 60 < P.length * k
    · rw [decide_eq_true (show (60 : Int) < ((P.length * k : Nat) : Int) by omega)]
      exact gcx0 hs ⟨[], by simp⟩ (h2 h60)
    · rw [decide_eq_false (show ¬ (60 : Int) < ((P.length * k : Nat) : Int) by omega)]
      simp only [xUp, s_next, xSeq, s_ret, s_var]
      exact ⟨_, rfl, gcd0 hs (h1 (by omega))⟩
  · exact h.elim
theorem okX_proof_program (t : Tx K mg g) (e : TxE K mg) {k : Nat} (G_need_machine : FnOk P w K mg base CX0 (k + 1 + 1 + 1) t.f_need_machine t.fd_need_machine P_need_machine (spD K w g (F_need_machine g))) (G_need_many : FnOk P w K mg base CX0 (k + 1 + 1 + 1) t.f_need_many t.fd_need_many P_need_many (spD K w g (F_need_many g)))
    (G_need_wishes : FnOk P w K mg base CX0 (k + 1 + 1 + 1) t.f_need_wishes t.fd_need_wishes P_need_wishes (spD K w g (F_need_wishes g))) (G_best : FnOk P w K mg base CX0 (k + 1 + 1 + 1) t.f_best t.fd_best P_best (spD K w g (F_best g))) :
    FnOk P w K mg base (CX P w) (k + 1 + 1 + 1 + 1) t.f_proof_program t.fd_proof_program P_proof_program (spX K w g e FX_proof_program) := by
  refine t.F_proof_program.okX sc_proof_program (fun ds S Q X h => ?_) fun A outer s H E hr => ?_
  · unfold FX_proof_program at h
    split at h
    · rfl
    · exact h.elim
  have scN : N_proof_program.Nodup := sc_proof_program.nd
  have tk : Takes (cxOf (CX P w) P w K mg base N_proof_program "proof_program" (defScope s_proof_program) t.f_proof_program t.cd_proof_program A outer s H E) fun cls d _ H => E cls d H := takes_of rfl rfl rfl rfl
  refine ⟨_, dssx_cons (dsx_up (ds_expr (de_call G_need_machine hr rfl t.m_need_machine t.k_need_machine t.b_need_machine (da_cons (de_var 0) da_nil))))
    (dssx_cons (dsx_up (ds_expr (de_call G_need_many hr rfl t.m_need_many t.k_need_many t.b_need_many (da_cons (de_var 1) da_nil))))
    (dssx_cons (dsx_up (ds_expr (de_call G_need_wishes hr rfl t.m_need_wishes t.k_need_wishes t.b_need_wishes (da_cons (de_var 0) (da_cons (de_var 2) da_nil)))))
    (dssx_cons (dsx_up (ds_set (i := 3) scN (de_call G_best hr rfl t.m_best t.k_best t.b_best (da_cons (de_var 0) (da_cons (de_var 2) (da_cons (de_bl) da_nil))))))
    (dssx_cons (dsx_if (dx_cmp od_is (de_var 3) (de_non)) (dssx_cons (dsx_raiseN rfl tk rfl) dssx_nil) dssx_nil)
    (dssx_cons (dsx_ret (okX_written t e) hr tk rfl t.m_written t.k_written t.b_written (da_cons (de_var 3) (da_cons (de_op od_add (de_var 1) (de_int)) da_nil))) dssx_nil))))), fun ds S Q X0 hs h => ?_⟩
  unfold FX_proof_program at h
  split at h
  · obtain ⟨M, W, k, rfl, rfl, rfl, sok, hk1, hk3, h60, hn, hy⟩ := h
    simp only [xSeq, xUp, xIf, s_start, s_drop, s_set, s_call, s_cons, s_nil, s_var, s_C]
    refine ⟨.dat M.t, rfl, M, rfl, sok.m, ?_⟩
    refine ⟨.dat (nT k), rfl, by omega, by omega, ?_⟩
    refine ⟨.dat M.t, rfl, .dat (wsT W), rfl, M, W, rfl, rfl, sok.m, sok.w, ?_⟩
    refine ⟨.dat M.t, rfl, .dat (wsT W), rfl, M, W, rfl, rfl, rfl, sok, fun r hr' => ?_⟩
    simp only [s_test, s_op, s_var, s_C]
    refine ⟨.dat (resT r), rfl, ?_⟩
    rw [s_isN]
    refine ⟨rfl, ?_⟩
    simp only [if_neg Bool.false_ne_true]
    cases r with
    | none =>
      rw [decide_eq_true (show D.dat (resT none) = .dat .none from rfl)]
      exact gcx0 hs ⟨[], by simp⟩ (hn hr')
    | some p =>
      rw [decide_eq_false (show ¬ D.dat (resT (some p)) = .dat .none from fun z => nomatch (D.dat.inj z))]
      simp only [xSeq, xRetC, xUp, s_next, s_cons, s_nil, s_var, s_op, s_C]
      refine ⟨.dat (prT p), rfl, .dat (nT k), rfl, ?_⟩
      simp only [s_addN]
      obtain ⟨y1, y2⟩ := hy p hr'
      exact ⟨p, k + 1, rfl, by omega, by omega, h60 p hr', fun z => gcd0 hs (y1 z), fun z => gcx0 hs ⟨[], by simp⟩ (y2 z)⟩
  · exact h.elim
end
end L2.LL

/-! # LLD6 -/
set_option Elab.async false
set_option linter.all false
set_option maxRecDepth 100000
set_option maxHeartbeats 2000000
namespace L2.LL
open PySem PySem.Spec PyProof.Rows
/-- _law_wishes -/
theorem sc_Lwishes : FnScope N_Lwishes P_Lwishes (defScope s_Lwishes) := ⟨rfl, rfl, rfl, by decide +kernel, rfl, by decide +kernel, by decide +kernel⟩
def fb_Lwishes (g : Gp) : BD :=
  (bSeq (bIf (dTest (dOp opGt (dCall (F_Ltaken g) (dCons (dVar 0) (dCons (dC (.dat (.num 3))) dNil))) (dC (.dat (.num 0))))) (bSeq (bSet 2 (dCall (F_Ltame g) (dCons (dVar 1) (dCons (dCall (F_Lprogram g) (dCons (dVar 0) (dCons (dVar 1) (dCons (dC (.dat (.num 5))) dNil)))) dNil))))
    (bSeq (bSet 3 (dCall (F_Lran g) (dCons (dVar 1) (dCons (dVar 2) (dCons (dTup dNil) dNil)))))
    bNext)) (bSeq (bSet 3 (dGc (dCall fTupleOf (dCons (dLc (iRg (rg1 (dOp (opIx g) (dVar 1) (dC (.dat (.num 0)))))) (gN 4) xYes (dCall (F_Lpick g) (dCons (dVar 0) (dCons (dLst (dCons (dC (.dat (.num 0))) (dCons (dOp opAdd (dTup (dCons (dC (.dat (.num 0))) dNil)) (dOp opMul (dTup (dCons (dC (.dat (.num 0))) dNil)) (dOp (opIx g) (dOp (opIx g) (dVar 1) (dC (.dat (.num 1)))) (dC (.dat (.num 0)))))) dNil))) dNil))) [4]) dNil))))
    bNext))
    (bSeq (bSet 5 (dLc (iRg (rg1 (dOp (opIx g) (dVar 1) (dC (.dat (.num 0)))))) (gN 4) (dTest (dOp opGt (dCall (F_Ltaken g) (dCons (dVar 0) (dCons (dC (.dat (.num 3))) dNil))) (dC (.dat (.num 0))))) (dTup (dCons (dVar 4) (dCons (dOp (opIx g) (dVar 3) (dVar 4)) dNil))) [4]))
    (bSeq (bRet (dIf (xGc (dTest (dOp opNe (dVar 5) (dLst dNil)))) (dCall fTupleOf (dCons (dVar 5) dNil)) (dTup (dCons (dTup (dCons (dC (.dat (.num 0))) (dCons (dOp (opIx g) (dVar 3) (dC (.dat (.num 0)))) dNil))) dNil))))
    bNext)))
theorem dv_Lwishes {P : Program} {w : World} {K : PySem.W.Frag} {mg : Str → Option Value} {base : Heap} {g : Gp} (t : Tx K mg g) {k : Nat} (G_Ltaken : FnOk P w K mg base CX0 k t.f_Ltaken t.fd_Ltaken P_Ltaken (spD K w g (F_Ltaken g))) (G_Lprogram : FnOk P w K mg base CX0 k t.f_Lprogram t.fd_Lprogram P_Lprogram (spD K w g (F_Lprogram g))) (G_Ltame : FnOk P w K mg base CX0 k t.f_Ltame t.fd_Ltame P_Ltame (spD K w g (F_Ltame g))) (G_Lran : FnOk P w K mg base CX0 k t.f_Lran t.fd_Lran P_Lran (spD K w g (F_Lran g))) (G_Lpick : FnOk P w K mg base CX0 k t.f_Lpick t.fd_Lpick P_Lpick (spD K w g (F_Lpick g))) (A : Around) (outer : List Env) (s : Shared) (H : Hp) (E : XK)
    (hr : Room (k) (A.deeper (envOfC "_law_wishes" (defScope s_Lwishes) s.heap.objs.size t.f_Lwishes t.cd_Lwishes))) : DSs g (cxOf CX0 P w K mg base N_Lwishes "_law_wishes" (defScope s_Lwishes) t.f_Lwishes t.cd_Lwishes A outer s H E).nox (defBody s_Lwishes) (fb_Lwishes g) := by
  have scN : N_Lwishes.Nodup := sc_Lwishes.nd
  exact (dss_cons (ds_if (dx_cmp od_gt (de_call G_Ltaken hr rfl t.m_Ltaken t.k_Ltaken t.b_Ltaken (da_cons (de_var 0) (da_cons (de_int) da_nil))) (de_int)) (dss_cons (ds_set (i := 2) scN (de_call G_Ltame hr rfl t.m_Ltame t.k_Ltame t.b_Ltame (da_cons (de_var 1) (da_cons (de_call G_Lprogram hr rfl t.m_Lprogram t.k_Lprogram t.b_Lprogram (da_cons (de_var 0) (da_cons (de_var 1) (da_cons (de_int) da_nil)))) da_nil))))
    (dss_cons (ds_set (i := 3) scN (de_call G_Lran hr rfl t.m_Lran t.k_Lran t.b_Lran (da_cons (de_var 1) (da_cons (de_var 2) (da_cons (de_tup da_nil) da_nil)))))
    dss_nil)) (dss_cons (ds_set (i := 3) scN (de_gc (de_callTy cr_tupleOf rfl t.n_tuple bt_tuple (da_cons (de_lc rfl scN  (di_rg1 rfl t.n_range (de_ix (de_var 1) (de_int) (fun _ _ => rfl))) (blkOk_by (N := N_Lwishes) (sc := defScope s_Lwishes) (own := [("_law_cell", 4)]) (by decide +kernel)) (fun _ _ _ _ _ => (dg_n scN (i := 4))) (fun _ _ _ _ _ => dts_nil) (fun _ _ _ _ _ => (de_call G_Lpick hr rfl t.m_Lpick t.k_Lpick t.b_Lpick (da_cons (de_var 0) (da_cons (de_lst (da_cons (de_int) (da_cons (de_op od_add (de_tup (da_cons (de_int) da_nil)) (de_op od_mul (de_tup (da_cons (de_int) da_nil)) (de_ix (de_ix (de_var 1) (de_int) (fun _ _ => rfl)) (de_int) (fun _ _ => rfl)))) da_nil))) da_nil))))) da_nil))))
    dss_nil))
    (dss_cons (ds_setLc (i := 5) rfl scN rfl rfl rfl (di_rg1 rfl t.n_range (de_ix (de_var 1) (de_int) (fun _ _ => rfl))) (blkOk_by (N := N_Lwishes) (sc := defScope s_Lwishes) (own := [("_law_cell", 4)]) (by decide +kernel)) (fun _ _ _ _ _ => (dg_n scN (i := 4))) (fun _ _ _ _ _ => (dts_one (dx_cmp od_gt (de_call G_Ltaken hr rfl t.m_Ltaken t.k_Ltaken t.b_Ltaken (da_cons (de_var 0) (da_cons (de_int) da_nil))) (de_int)))) (fun _ _ _ _ _ => (de_tup (da_cons (de_var 4) (da_cons (de_ix (de_var 3) (de_var 4) (fun _ _ => rfl)) da_nil)))))
    (dss_cons (ds_ret (de_if (dx_gc (dx_cmp (od_ne (u64 hr)) (de_var 5) (de_lst da_nil))) (de_callTy cr_tupleOf rfl t.n_tuple bt_tuple (da_cons (de_var 5) da_nil)) (de_tup (da_cons (de_tup (da_cons (de_int) (da_cons (de_ix (de_var 3) (de_int) (fun _ _ => rfl)) da_nil))) da_nil))))
    dss_nil)))
/-- _law_parts -/
theorem sc_Lparts : FnScope N_Lparts P_Lparts (defScope s_Lparts) := ⟨rfl, rfl, rfl, by decide +kernel, rfl, by decide +kernel, by decide +kernel⟩
def fb_Lparts (g : Gp) : BD :=
  (bSeq (bPar 1 2 (dCons (dLst dNil) (dCons (dLc (iT (dVar 0)) (gT 2 (gsCons (gN 3) (gsCons (gN 4) gsNil))) xYes (dVar 4) [3, 4]) dNil)))
    (bSeq (bWhile (xGc (dTest (dOp opNe (dVar 2) (dLst dNil)))) (bSeq (bSet 4 (dPop (dVar 2)))
    (bSeq (bIf (dTest (dOp (opInB true) (dVar 4) (dVar 1))) (bSeq (bDrop (dAppend (dVar 1) (dVar 4)))
    (bSeq (bSet 2 (dOp opAdd (dVar 2) (dIf (dTruth (dCall fIsi (dCons (dVar 4) (dCons (dC (.raw (.ty "tuple"))) dNil)))) (dCall fListOf (dCons (dCut (dVar 4) (oAt (dC (.dat (.num 1)))) oNo) dNil)) (dLst dNil))))
    bNext)) bNext)
    bNext)))
    (bSeq (bRet (dVar 1))
    bNext)))
theorem dv_Lparts {P : Program} {w : World} {K : PySem.W.Frag} {mg : Str → Option Value} {base : Heap} {g : Gp} (t : Tx K mg g) {k : Nat} (A : Around) (outer : List Env) (s : Shared) (H : Hp) (E : XK)
    (hr : Room (k) (A.deeper (envOfC "_law_parts" (defScope s_Lparts) s.heap.objs.size t.f_Lparts t.cd_Lparts))) : DSs g (cxOf CX0 P w K mg base N_Lparts "_law_parts" (defScope s_Lparts) t.f_Lparts t.cd_Lparts A outer s H E).nox (defBody s_Lparts) (fb_Lparts g) := by
  have scN : N_Lparts.Nodup := sc_Lparts.nd
  exact (dss_cons (ds_par (i := 1) (j := 2) rfl scN (da_cons (de_lst da_nil) (da_cons (de_lc rfl scN  (di_tup (de_var 0)) (blkOk_by (N := N_Lparts) (sc := defScope s_Lparts) (own := [("_law_cell", 3), ("_law_term", 4)]) (by decide +kernel)) (fun _ _ _ _ _ => (dg_t rfl (dgs_cons (dg_n scN (i := 3)) (dgs_cons (dg_n scN (i := 4)) dgs_nil)))) (fun _ _ _ _ _ => dts_nil) (fun _ _ _ _ _ => (de_var 4))) da_nil)))
    (dss_cons (ds_while PassesOwn.never (dx_gc (dx_cmp (od_ne (u64 hr)) (de_var 2) (de_lst da_nil))) (dss_cons (ds_set (i := 4) scN (de_pop (de_var 2)))
    (dss_cons (ds_if (dx_cmp (od_notin (u65 hr)) (de_var 4) (de_var 1)) (dss_cons (ds_expr (de_append (de_var 1) (de_var 4)))
    (dss_cons (ds_set (i := 2) scN (de_op od_add (de_var 2) (de_if (dx_truth (de_callB cr_isi rfl t.n_isinstance bt_isinstance (da_cons (de_var 4) (da_cons (de_ty rfl t.n_tuple bt_tuple) da_nil)))) (de_callTy cr_listOf rfl t.n_list bt_list (da_cons (de_cut (de_var 4) (do_some (de_int)) do_none) da_nil)) (de_lst da_nil))))
    dss_nil)) dss_nil)
    dss_nil)))
    (dss_cons (ds_ret (de_var 1))
    dss_nil)))
/-- _law_fewest -/
theorem sc_Lfewest : FnScope N_Lfewest P_Lfewest (defScope s_Lfewest) := ⟨rfl, rfl, rfl, by decide +kernel, rfl, by decide +kernel, by decide +kernel⟩
def fb_Lfewest (g : Gp) : BD :=
  (bSeq (bSet 3 (dCall (F_Lparts g) (dCons (dVar 1) dNil)))
    (bSeq (bSet 4 (dGc (dCall fTupleOf (dCons (dLc (iRg (rg1 (dOp (opIx g) (dVar 0) (dC (.dat (.num 0)))))) (gN 5) xYes (dIf (dTest (dOp (opInB false) (dVar 5) (dVar 3))) (dVar 5) (dC (.dat .none))) [5]) dNil))))
    (bSeq (bPar3 6 7 8 (dCons (dDict1 (dVar 4) (dC (.bl true))) (dCons (dLst (dCons (dVar 4) dNil)) (dCons (dC (.dat (.num 0))) dNil))))
    (bSeq (bSet 9 (dLc (iL (dCall (F_Levery_line g) (dCons (dVar 0) dNil))) (gN 10) (xOr (dTest (dOp (opInB true) (dOp (opIx g) (dVar 10) (dC (.dat (.num 0)))) (dOp (opIx g) (dVar 10) (dC (.dat (.num 2)))))) (xNot (dTruth (dVar 2)))) (dVar 10) [10]))
    (bSeq (bWhile (xGc (dTest (dOp opNe (dVar 7) (dLst dNil)))) (bSeq (bSet 11 (dLst dNil))
    (bSeq (bFor (iL (dVar 7)) (gN 12) (bSeq (bIf (xGc (dTest (dOp opEq (dLc (iT (dVar 1)) (gT 2 (gsCons (gN 5) (gsCons (gN 13) gsNil))) (xOr (dTest (dOp (opIs false) (dOp (opIx g) (dVar 12) (dVar 5)) (dC (.dat .none)))) (dTest (dOp opNe (dOp (opIx g) (dVar 12) (dVar 5)) (dVar 13)))) (dC (.dat (.num 1))) [5, 13]) (dLst dNil)))) (bSeq (bRet (dVar 8))
    bNext) bNext)
    (bSeq (bFor (iL (dVar 9)) (gN 10) (bSeq (bIf (xGc (dTest (dOp opEq (dLc (iT (dOp (opIx g) (dVar 10) (dC (.dat (.num 2))))) (gN 14) (dTest (dOp (opIs false) (dOp (opIx g) (dVar 12) (dVar 14)) (dC (.dat .none)))) (dVar 14) [14]) (dLst dNil)))) (bSeq (bSet 15 (dCall (F_Ldid g) (dCons (dVar 12) (dCons (dVar 10) dNil))))
    (bSeq (bIf (xAnd (dTest (dOp (opInB false) (dOp (opIx g) (dVar 15) (dOp (opIx g) (dVar 10) (dC (.dat (.num 0))))) (dVar 3))) (dTest (dOp (opInD true) (dVar 15) (dVar 6)))) (bSeq (bSetIx setIxD (dC (.bl true)) (dVar 6) (dVar 15))
    (bSeq (bDrop (dAppend (dVar 11) (dVar 15)))
    bNext)) bNext)
    bNext)) bNext)
    bNext))
    bNext)))
    (bSeq (bPar 7 8 (dCons (dVar 11) (dCons (dOp opAdd (dVar 8) (dC (.dat (.num 1)))) dNil)))
    bNext))))
    (bSeq (bRet (dC (.dat .none)))
    bNext))))))
theorem dv_Lfewest {P : Program} {w : World} {K : PySem.W.Frag} {mg : Str → Option Value} {base : Heap} {g : Gp} (t : Tx K mg g) {k : Nat} (G_Lparts : FnOk P w K mg base CX0 k t.f_Lparts t.fd_Lparts P_Lparts (spD K w g (F_Lparts g))) (G_Levery_line : FnOk P w K mg base CX0 k t.f_Levery_line t.fd_Levery_line P_Levery_line (spD K w g (F_Levery_line g))) (G_Ldid : FnOk P w K mg base CX0 k t.f_Ldid t.fd_Ldid P_Ldid (spD K w g (F_Ldid g))) (A : Around) (outer : List Env) (s : Shared) (H : Hp) (E : XK)
    (hr : Room (k) (A.deeper (envOfC "_law_fewest" (defScope s_Lfewest) s.heap.objs.size t.f_Lfewest t.cd_Lfewest))) : DSs g (cxOf CX0 P w K mg base N_Lfewest "_law_fewest" (defScope s_Lfewest) t.f_Lfewest t.cd_Lfewest A outer s H E).nox (defBody s_Lfewest) (fb_Lfewest g) := by
  have scN : N_Lfewest.Nodup := sc_Lfewest.nd
  exact (dss_cons (ds_set (i := 3) scN (de_call G_Lparts hr rfl t.m_Lparts t.k_Lparts t.b_Lparts (da_cons (de_var 1) da_nil)))
    (dss_cons (ds_set (i := 4) scN (de_gc (de_callTy cr_tupleOf rfl t.n_tuple bt_tuple (da_cons (de_lc rfl scN  (di_rg1 rfl t.n_range (de_ix (de_var 0) (de_int) (fun _ _ => rfl))) (blkOk_by (N := N_Lfewest) (sc := defScope s_Lfewest) (own := [("_law_cell", 5)]) (by decide +kernel)) (fun _ _ _ _ _ => (dg_n scN (i := 5))) (fun _ _ _ _ _ => dts_nil) (fun _ _ _ _ _ => (de_if (dx_cmp (od_in (u65 hr)) (de_var 5) (de_var 3)) (de_var 5) (de_non)))) da_nil))))
    (dss_cons (ds_par3 (i := 6) (j := 7) (l := 8) rfl scN (da_cons (de_dict1 (u10 hr) (de_var 4) (de_bl)) (da_cons (de_lst (da_cons (de_var 4) da_nil)) (da_cons (de_int) da_nil))))
    (dss_cons (ds_setLc (i := 9) rfl scN rfl rfl rfl (di_list (de_call G_Levery_line hr rfl t.m_Levery_line t.k_Levery_line t.b_Levery_line (da_cons (de_var 0) da_nil))) (blkOk_by (N := N_Lfewest) (sc := defScope s_Lfewest) (own := [("_law_line", 10)]) (by decide +kernel)) (fun _ _ _ _ _ => (dg_n scN (i := 10))) (fun _ _ _ _ _ => (dts_one (dx_bool (dw_or (dx_cmp (od_notin (u65 hr)) (de_ix (de_var 10) (de_int) (fun _ _ => rfl)) (de_ix (de_var 10) (de_int) (fun _ _ => rfl))) (dw_or1 (dx_not (dx_truth (de_var 2)))))))) (fun _ _ _ _ _ => (de_var 10)))
    (dss_cons (ds_while PassesOwn.never (dx_gc (dx_cmp (od_ne (u64 hr)) (de_var 7) (de_lst da_nil))) (dss_cons (ds_set (i := 11) scN (de_lst da_nil))
    (dss_cons (ds_for PassesOwn.never rfl (di_list (de_var 7)) (dg_n scN (i := 12)) (dss_cons (ds_if (dx_gc (dx_cmp (od_eq (u64 hr)) (de_lc rfl scN  (di_tup (de_var 1)) (blkOk_by (N := N_Lfewest) (sc := defScope s_Lfewest) (own := [("_law_cell", 5), ("_law_term", 13)]) (by decide +kernel)) (fun _ _ _ _ _ => (dg_t rfl (dgs_cons (dg_n scN (i := 5)) (dgs_cons (dg_n scN (i := 13)) dgs_nil)))) (fun _ _ _ _ _ => (dts_one (dx_bool (dw_or (dx_cmp od_is (de_ix (de_var 12) (de_var 5) (fun _ _ => rfl)) (de_non)) (dw_or1 (dx_cmp (od_ne (u64 hr)) (de_ix (de_var 12) (de_var 5) (fun _ _ => rfl)) (de_var 13))))))) (fun _ _ _ _ _ => (de_int))) (de_lst da_nil))) (dss_cons (ds_ret (de_var 8))
    dss_nil) dss_nil)
    (dss_cons (ds_for PassesOwn.never rfl (di_list (de_var 9)) (dg_n scN (i := 10)) (dss_cons (ds_if (dx_gc (dx_cmp (od_eq (u64 hr)) (de_lc rfl scN  (di_tup (de_ix (de_var 10) (de_int) (fun _ _ => rfl))) (blkOk_by (N := N_Lfewest) (sc := defScope s_Lfewest) (own := [("_law_one", 14)]) (by decide +kernel)) (fun _ _ _ _ _ => (dg_n scN (i := 14))) (fun _ _ _ _ _ => (dts_one (dx_cmp od_is (de_ix (de_var 12) (de_var 14) (fun _ _ => rfl)) (de_non)))) (fun _ _ _ _ _ => (de_var 14))) (de_lst da_nil))) (dss_cons (ds_set (i := 15) scN (de_call G_Ldid hr rfl t.m_Ldid t.k_Ldid t.b_Ldid (da_cons (de_var 12) (da_cons (de_var 10) da_nil))))
    (dss_cons (ds_if (dx_bool (dw_and (dx_cmp (od_in (u65 hr)) (de_ix (de_var 15) (de_ix (de_var 10) (de_int) (fun _ _ => rfl)) (fun _ _ => rfl)) (de_var 3)) (dw_and1 (dx_cmp (od_notinD (u10 hr)) (de_var 15) (de_var 6))))) (dss_cons (ds_setIx (pset_D (u10 hr)) (de_bl) (de_var 6) (de_var 15))
    (dss_cons (ds_expr (de_append (de_var 11) (de_var 15)))
    dss_nil)) dss_nil)
    dss_nil)) dss_nil)
    dss_nil))
    dss_nil)))
    (dss_cons (ds_par (i := 7) (j := 8) rfl scN (da_cons (de_var 11) (da_cons (de_op od_add (de_var 8) (de_int)) da_nil)))
    dss_nil))))
    (dss_cons (ds_ret (de_non))
    dss_nil))))))
/-- _law_alike -/
theorem sc_Lalike : FnScope N_Lalike P_Lalike (defScope s_Lalike) := ⟨rfl, rfl, rfl, by decide +kernel, rfl, by decide +kernel, by decide +kernel⟩
def fb_Lalike (g : Gp) (FR : FD) : BD :=
  (bSeq (bIf (dTruth (dIsi2 "tuple" "list" (dVar 1))) (bSeq (bIf (xOr (xNot (dTruth (dIsi2 "tuple" "list" (dVar 0)))) (dTest (dOp opNe (dCall fIsi (dCons (dVar 0) (dCons (dC (.raw (.ty "list"))) dNil))) (dCall fIsi (dCons (dVar 1) (dCons (dC (.raw (.ty "list"))) dNil)))))) (bSeq (bRet (dC (.bl false)))
    bNext) bNext)
    (bSeq (bIf (dTest (dOp opNe (dCall (fLen g) (dCons (dVar 0) dNil)) (dCall (fLen g) (dCons (dVar 1) dNil)))) (bSeq (bRet (dC (.bl false)))
    bNext) bNext)
    (bSeq (bRet (dGc (dOp opEq (dLc (iRg (rg1 (dCall (fLen g) (dCons (dVar 1) dNil)))) (gN 2) (xNot (dTruth (dCall FR (dCons (dOp (opIx g) (dVar 0) (dVar 2)) (dCons (dOp (opIx g) (dVar 1) (dVar 2)) dNil))))) (dVar 2) [2]) (dLst dNil))))
    bNext))) bNext)
    (bSeq (bIf (xOr (dTest (dOp (opIs false) (dVar 1) (dC (.dat .none)))) (dTruth (dCall fIsi (dCons (dVar 1) (dCons (dC (.raw (.ty "str"))) dNil))))) (bSeq (bRet (dAnd (dOp opEq (dVar 0) (dVar 1)) (dOp opEq (dCall fIsi (dCons (dVar 0) (dCons (dC (.raw (.ty "str"))) dNil))) (dCall fIsi (dCons (dVar 1) (dCons (dC (.raw (.ty "str"))) dNil))))))
    bNext) bNext)
    (bSeq (bRet (dAnd (dCall fIsi (dCons (dVar 0) (dCons (dC (.raw (.ty "int"))) dNil))) (dAnd (dOp opEq (dCall fIsi (dCons (dVar 0) (dCons (dC (.raw (.ty "bool"))) dNil))) (dCall fIsi (dCons (dVar 1) (dCons (dC (.raw (.ty "bool"))) dNil)))) (dOp opEq (dVar 0) (dVar 1)))))
    bNext)))
theorem dv_Lalike {P : Program} {w : World} {K : PySem.W.Frag} {mg : Str → Option Value} {base : Heap} {g : Gp} {FR : FD} (t : Tx K mg g) {k : Nat} (G_Lalike : FnOk P w K mg base CX0 k t.f_Lalike t.fd_Lalike P_Lalike (spD K w g FR)) (A : Around) (outer : List Env) (s : Shared) (H : Hp) (E : XK)
    (hr : Room (k) (A.deeper (envOfC "_law_alike" (defScope s_Lalike) s.heap.objs.size t.f_Lalike t.cd_Lalike))) : DSs g (cxOf CX0 P w K mg base N_Lalike "_law_alike" (defScope s_Lalike) t.f_Lalike t.cd_Lalike A outer s H E).nox (defBody s_Lalike) (fb_Lalike g FR) := by
  have scN : N_Lalike.Nodup := sc_Lalike.nd
  exact (dss_cons (ds_if (dx_truth (de_isi2 rfl t.n_isinstance bt_isinstance rfl t.n_tuple bt_tuple rfl t.n_list bt_list (de_var 1))) (dss_cons (ds_if (dx_bool (dw_or (dx_not (dx_truth (de_isi2 rfl t.n_isinstance bt_isinstance rfl t.n_tuple bt_tuple rfl t.n_list bt_list (de_var 0)))) (dw_or1 (dx_cmp (od_ne (u64 hr)) (de_callB cr_isi rfl t.n_isinstance bt_isinstance (da_cons (de_var 0) (da_cons (de_ty rfl t.n_list bt_list) da_nil))) (de_callB cr_isi rfl t.n_isinstance bt_isinstance (da_cons (de_var 1) (da_cons (de_ty rfl t.n_list bt_list) da_nil))))))) (dss_cons (ds_ret (de_bl))
    dss_nil) dss_nil)
    (dss_cons (ds_if (dx_cmp (od_ne (u64 hr)) (de_callB cr_len rfl t.n_len bt_len (da_cons (de_var 0) da_nil)) (de_callB cr_len rfl t.n_len bt_len (da_cons (de_var 1) da_nil))) (dss_cons (ds_ret (de_bl))
    dss_nil) dss_nil)
    (dss_cons (ds_ret (de_gc (de_cmp (od_eq (u64 hr)) (de_lc rfl scN  (di_rg1 rfl t.n_range (de_callB cr_len rfl t.n_len bt_len (da_cons (de_var 1) da_nil))) (blkOk_by (N := N_Lalike) (sc := defScope s_Lalike) (own := [("_law_k", 2)]) (by decide +kernel)) (fun _ _ _ _ _ => (dg_n scN (i := 2))) (fun _ _ _ _ _ => (dts_one (dx_not (dx_truth (de_call G_Lalike hr rfl t.m_Lalike t.k_Lalike t.b_Lalike (da_cons (de_ix (de_var 0) (de_var 2) (fun _ _ => rfl)) (da_cons (de_ix (de_var 1) (de_var 2) (fun _ _ => rfl)) da_nil))))))) (fun _ _ _ _ _ => (de_var 2))) (de_lst da_nil))))
    dss_nil))) dss_nil)
    (dss_cons (ds_if (dx_bool (dw_or (dx_cmp od_is (de_var 1) (de_non)) (dw_or1 (dx_truth (de_callB cr_isi rfl t.n_isinstance bt_isinstance (da_cons (de_var 1) (da_cons (de_ty rfl t.n_str bt_str) da_nil))))))) (dss_cons (ds_ret (de_and (de_cmp (od_eq (u64 hr)) (de_var 0) (de_var 1)) (de_one (de_cmp (od_eq (u64 hr)) (de_callB cr_isi rfl t.n_isinstance bt_isinstance (da_cons (de_var 0) (da_cons (de_ty rfl t.n_str bt_str) da_nil))) (de_callB cr_isi rfl t.n_isinstance bt_isinstance (da_cons (de_var 1) (da_cons (de_ty rfl t.n_str bt_str) da_nil)))))))
    dss_nil) dss_nil)
    (dss_cons (ds_ret (de_and (de_callB cr_isi rfl t.n_isinstance bt_isinstance (da_cons (de_var 0) (da_cons (de_ty rfl t.n_int bt_int) da_nil))) (de_and (de_cmp (od_eq (u64 hr)) (de_callB cr_isi rfl t.n_isinstance bt_isinstance (da_cons (de_var 0) (da_cons (de_ty rfl t.n_bool bt_bool) da_nil))) (de_callB cr_isi rfl t.n_isinstance bt_isinstance (da_cons (de_var 1) (da_cons (de_ty rfl t.n_bool bt_bool) da_nil)))) (de_one (de_cmp (od_eq (u64 hr)) (de_var 0) (de_var 1))))))
    dss_nil)))
/-- _law_times -/
theorem sc_Ltimes : FnScope N_Ltimes P_Ltimes (defScope s_Ltimes) := ⟨rfl, rfl, rfl, by decide +kernel, rfl, by decide +kernel, by decide +kernel⟩
def fb_Ltimes (g : Gp) : BD :=
  (bSeq (bSet 2 (dTup dNil))
    (bSeq (bFor (iT (dVar 0)) (gN 3) (bSeq (bSet 2 (dOp opAdd (dVar 2) (dOp opMul (dTup (dCons (dVar 3) dNil)) (dVar 1))))
    bNext))
    (bSeq (bRet (dVar 2))
    bNext)))
theorem dv_Ltimes {P : Program} {w : World} {K : PySem.W.Frag} {mg : Str → Option Value} {base : Heap} {g : Gp} (t : Tx K mg g) {k : Nat} (A : Around) (outer : List Env) (s : Shared) (H : Hp) (E : XK)
    (hr : Room (k) (A.deeper (envOfC "_law_times" (defScope s_Ltimes) s.heap.objs.size t.f_Ltimes t.cd_Ltimes))) : DSs g (cxOf CX0 P w K mg base N_Ltimes "_law_times" (defScope s_Ltimes) t.f_Ltimes t.cd_Ltimes A outer s H E).nox (defBody s_Ltimes) (fb_Ltimes g) := by
  have scN : N_Ltimes.Nodup := sc_Ltimes.nd
  exact (dss_cons (ds_set (i := 2) scN (de_tup da_nil))
    (dss_cons (ds_for PassesOwn.never rfl (di_tup (de_var 0)) (dg_n scN (i := 3)) (dss_cons (ds_set (i := 2) scN (de_op od_add (de_var 2) (de_op od_mul (de_tup (da_cons (de_var 3) da_nil)) (de_var 1))))
    dss_nil))
    (dss_cons (ds_ret (de_var 2))
    dss_nil)))
/-- _law_every_loss -/
theorem sc_Levery_loss : FnScope N_Levery_loss P_Levery_loss (defScope s_Levery_loss) := ⟨rfl, rfl, rfl, by decide +kernel, rfl, by decide +kernel, by decide +kernel⟩
def fb_Levery_loss (g : Gp) : BD :=
  (bSeq (bSet 2 (dLst (dCons (dTup dNil) dNil)))
    (bSeq (bFor (iRg (rg1 (dVar 0))) (gN 3) (bSeq (bSet 4 (dLst dNil))
    (bSeq (bFor (iL (dVar 2)) (gN 5) (bSeq (bIf (dTest (dOp opNe (dCut (dVar 5) (oAt (dUn unNeg (dVar 1))) oNo) (dTupRg (rg2 (dOp opSub (dVar 3) (dVar 1)) (dVar 3))))) (bSeq (bDrop (dAppend (dVar 4) (dOp opAdd (dVar 5) (dTup (dCons (dVar 3) dNil)))))
    bNext) bNext)
    bNext))
    (bSeq (bSet 2 (dOp opAdd (dVar 2) (dVar 4)))
    bNext))))
    (bSeq (bRet (dVar 2))
    bNext)))
theorem dv_Levery_loss {P : Program} {w : World} {K : PySem.W.Frag} {mg : Str → Option Value} {base : Heap} {g : Gp} (t : Tx K mg g) {k : Nat} (A : Around) (outer : List Env) (s : Shared) (H : Hp) (E : XK)
    (hr : Room (k) (A.deeper (envOfC "_law_every_loss" (defScope s_Levery_loss) s.heap.objs.size t.f_Levery_loss t.cd_Levery_loss))) : DSs g (cxOf CX0 P w K mg base N_Levery_loss "_law_every_loss" (defScope s_Levery_loss) t.f_Levery_loss t.cd_Levery_loss A outer s H E).nox (defBody s_Levery_loss) (fb_Levery_loss g) := by
  have scN : N_Levery_loss.Nodup := sc_Levery_loss.nd
  exact (dss_cons (ds_set (i := 2) scN (de_lst (da_cons (de_tup da_nil) da_nil)))
    (dss_cons (ds_for PassesOwn.never rfl (di_rg1 rfl t.n_range (de_var 0)) (dg_n scN (i := 3)) (dss_cons (ds_set (i := 4) scN (de_lst da_nil))
    (dss_cons (ds_for PassesOwn.never rfl (di_list (de_var 2)) (dg_n scN (i := 5)) (dss_cons (ds_if (dx_cmp (od_ne (u64 hr)) (de_cut (de_var 5) (do_some (de_un ud_neg (de_var 1))) do_none) (de_tupRg rfl rfl t.n_tuple (drg_2 rfl t.n_range (de_op od_sub (de_var 3) (de_var 1)) (de_var 3)))) (dss_cons (ds_expr (de_append (de_var 4) (de_op od_add (de_var 5) (de_tup (da_cons (de_var 3) da_nil)))))
    dss_nil) dss_nil)
    dss_nil))
    (dss_cons (ds_set (i := 2) scN (de_op od_add (de_var 2) (de_var 4)))
    dss_nil))))
    (dss_cons (ds_ret (de_var 2))
    dss_nil)))
/-- _law_shown -/
theorem sc_Lshown : FnScope N_Lshown P_Lshown (defScope s_Lshown) := ⟨rfl, rfl, rfl, by decide +kernel, rfl, by decide +kernel, by decide +kernel⟩
def fb_Lshown (g : Gp) : BD :=
  (bSeq (bPar 3 4 (dCons (dLst (dCons (dTup (dCons (dTupRg (rg1 (dOp (opIx g) (dVar 0) (dC (.dat (.num 0)))))) (dCons (dC (.dat (.num 0))) dNil))) dNil)) (dCons (dLst dNil) dNil)))
    (bSeq (bFor (iT (dVar 1)) (gN 5) (bSeq (bSet 6 (dLc (iL (dVar 3)) (gT 2 (gsCons (gN 7) (gsCons (gN 8) gsNil))) xYes (dOp (opIx g) (dVar 7) (dOp (opIx g) (dVar 5) (dC (.dat (.num 0))))) [7, 8]))
    (bSeq (bSet 9 (dDict0))
    (bSeq (bFor (iL (dVar 3)) (gT 2 (gsCons (gN 7) (gsCons (gN 8) gsNil))) (bSeq (bSetIx setIxD (dC (.bl true)) (dVar 9) (dTup (dCons (dCall (F_Ldid g) (dCons (dVar 7) (dCons (dVar 5) dNil))) (dCons (dC (.dat (.num 0))) dNil))))
    (bSeq (bIf (dTest (dOp opEq (dVar 8) (dC (.dat (.num 0))))) (bSeq (bSetIx setIxD (dC (.bl true)) (dVar 9) (dTup (dCons (dVar 7) (dCons (dC (.dat (.num 1))) dNil))))
    bNext) bNext)
    bNext)))
    (bSeq (bSet 3 (dCall fListD (dCons (dVar 9) dNil)))
    (bSeq (bSet 10 (dLc (iL (dVar 3)) (gT 2 (gsCons (gN 7) (gsCons (gN 8) gsNil))) xYes (dOp (opIx g) (dVar 7) (dOp (opIx g) (dVar 5) (dC (.dat (.num 0))))) [7, 8]))
    (bSeq (bIf (xAnd (xGc (dTest (dOp opEq (dVar 10) (dOp opMul (dLst (dCons (dOp (opIx g) (dVar 10) (dC (.dat (.num 0)))) dNil)) (dCall (fLen g) (dCons (dVar 10) dNil)))))) (xGc (dTest (dOp opNe (dVar 6) (dOp opMul (dLst (dCons (dOp (opIx g) (dVar 10) (dC (.dat (.num 0)))) dNil)) (dCall (fLen g) (dCons (dVar 6) dNil))))))) (bSeq (bDrop (dAppend (dVar 4) (dVar 5)))
    bNext) bNext)
    bNext)))))))
    (bSeq (bSet 11 (dLc (iL (dVar 3)) (gT 2 (gsCons (gN 7) (gsCons (gN 8) gsNil))) (xGc (dTest (dOp opNe (dLc (iT (dVar 2)) (gT 2 (gsCons (gN 12) (gsCons (gN 13) gsNil))) (dTest (dOp opNe (dOp (opIx g) (dVar 7) (dVar 12)) (dVar 13))) (dC (.dat (.num 1))) [12, 13]) (dLst dNil)))) (dVar 7) [7, 8]))
    (bSeq (bRet (dIf (xGc (dTest (dOp opEq (dVar 11) (dLst dNil)))) (dVar 4) (dC (.dat .none))))
    bNext))))
theorem dv_Lshown {P : Program} {w : World} {K : PySem.W.Frag} {mg : Str → Option Value} {base : Heap} {g : Gp} (t : Tx K mg g) {k : Nat} (G_Ldid : FnOk P w K mg base CX0 k t.f_Ldid t.fd_Ldid P_Ldid (spD K w g (F_Ldid g))) (A : Around) (outer : List Env) (s : Shared) (H : Hp) (E : XK)
    (hr : Room (k) (A.deeper (envOfC "_law_shown" (defScope s_Lshown) s.heap.objs.size t.f_Lshown t.cd_Lshown))) : DSs g (cxOf CX0 P w K mg base N_Lshown "_law_shown" (defScope s_Lshown) t.f_Lshown t.cd_Lshown A outer s H E).nox (defBody s_Lshown) (fb_Lshown g) := by
  have scN : N_Lshown.Nodup := sc_Lshown.nd
  exact (dss_cons (ds_par (i := 3) (j := 4) rfl scN (da_cons (de_lst (da_cons (de_tup (da_cons (de_tupRg rfl rfl t.n_tuple (drg_1 rfl t.n_range (de_ix (de_var 0) (de_int) (fun _ _ => rfl)))) (da_cons (de_int) da_nil))) da_nil)) (da_cons (de_lst da_nil) da_nil)))
    (dss_cons (ds_for PassesOwn.never rfl (di_tup (de_var 1)) (dg_n scN (i := 5)) (dss_cons (ds_setLc (i := 6) rfl scN rfl rfl rfl (di_list (de_var 3)) (blkOk_by (N := N_Lshown) (sc := defScope s_Lshown) (own := [("_law_held", 7), ("_law_last", 8)]) (by decide +kernel)) (fun _ _ _ _ _ => (dg_t rfl (dgs_cons (dg_n scN (i := 7)) (dgs_cons (dg_n scN (i := 8)) dgs_nil)))) (fun _ _ _ _ _ => dts_nil) (fun _ _ _ _ _ => (de_ix (de_var 7) (de_ix (de_var 5) (de_int) (fun _ _ => rfl)) (fun _ _ => rfl))))
    (dss_cons (ds_set (i := 9) scN (de_dict0))
    (dss_cons (ds_for PassesOwn.never rfl (di_list (de_var 3)) (dg_t rfl (dgs_cons (dg_n scN (i := 7)) (dgs_cons (dg_n scN (i := 8)) dgs_nil))) (dss_cons (ds_setIx (pset_D (u10 hr)) (de_bl) (de_var 9) (de_tup (da_cons (de_call G_Ldid hr rfl t.m_Ldid t.k_Ldid t.b_Ldid (da_cons (de_var 7) (da_cons (de_var 5) da_nil))) (da_cons (de_int) da_nil))))
    (dss_cons (ds_if (dx_cmp (od_eq (u64 hr)) (de_var 8) (de_int)) (dss_cons (ds_setIx (pset_D (u10 hr)) (de_bl) (de_var 9) (de_tup (da_cons (de_var 7) (da_cons (de_int) da_nil))))
    dss_nil) dss_nil)
    dss_nil)))
    (dss_cons (ds_set (i := 3) scN (de_callTy (cr_listD rfl) rfl t.n_list bt_list (da_cons (de_var 9) da_nil)))
    (dss_cons (ds_setLc (i := 10) rfl scN rfl rfl rfl (di_list (de_var 3)) (blkOk_by (N := N_Lshown) (sc := defScope s_Lshown) (own := [("_law_held", 7), ("_law_last", 8)]) (by decide +kernel)) (fun _ _ _ _ _ => (dg_t rfl (dgs_cons (dg_n scN (i := 7)) (dgs_cons (dg_n scN (i := 8)) dgs_nil)))) (fun _ _ _ _ _ => dts_nil) (fun _ _ _ _ _ => (de_ix (de_var 7) (de_ix (de_var 5) (de_int) (fun _ _ => rfl)) (fun _ _ => rfl))))
    (dss_cons (ds_if (dx_bool (dw_and (dx_gc (dx_cmp (od_eq (u64 hr)) (de_var 10) (de_op od_mul (de_lst (da_cons (de_ix (de_var 10) (de_int) (fun _ _ => rfl)) da_nil)) (de_callB cr_len rfl t.n_len bt_len (da_cons (de_var 10) da_nil))))) (dw_and1 (dx_gc (dx_cmp (od_ne (u64 hr)) (de_var 6) (de_op od_mul (de_lst (da_cons (de_ix (de_var 10) (de_int) (fun _ _ => rfl)) da_nil)) (de_callB cr_len rfl t.n_len bt_len (da_cons (de_var 6) da_nil)))))))) (dss_cons (ds_expr (de_append (de_var 4) (de_var 5)))
    dss_nil) dss_nil)
    dss_nil)))))))
    (dss_cons (ds_setLc (i := 11) rfl scN rfl rfl rfl (di_list (de_var 3)) (blkOk_by (N := N_Lshown) (sc := defScope s_Lshown) (own := [("_law_held", 7), ("_law_last", 8)]) (by decide +kernel)) (fun _ _ _ _ _ => (dg_t rfl (dgs_cons (dg_n scN (i := 7)) (dgs_cons (dg_n scN (i := 8)) dgs_nil)))) (fun _ _ _ _ _ => (dts_one (dx_gc (dx_cmp (od_ne (u64 hr)) (de_lc rfl scN  (di_tup (de_var 2)) (blkOk_by (own := [("_law_cell", 12), ("_law_term", 13)]) (by rfl)) (fun _ _ _ _ _ => (dg_t rfl (dgs_cons (dg_n scN (i := 12)) (dgs_cons (dg_n scN (i := 13)) dgs_nil)))) (fun _ _ _ _ _ => (dts_one (dx_cmp (od_ne (u64 hr)) (de_ix (de_var 7) (de_var 12) (fun _ _ => rfl)) (de_var 13)))) (fun _ _ _ _ _ => (de_int))) (de_lst da_nil))))) (fun _ _ _ _ _ => (de_var 7)))
    (dss_cons (ds_ret (de_if (dx_gc (dx_cmp (od_eq (u64 hr)) (de_var 11) (de_lst da_nil))) (de_var 4) (de_non)))
    dss_nil))))
/-- law -/
theorem sc_law : FnScope N_law P_law (defScope s_law) := ⟨rfl, rfl, rfl, by decide +kernel, rfl, by decide +kernel, by decide +kernel⟩
def fb_law (g : Gp) : BD :=
  (bSeq (bSet 1 (dLst (dCons (dVar 0) (dCons (dC (.dat (.num 0))) (dCons (dC (.dat (.num 900))) (dCons (dC (.dat (.num 0))) dNil))))))
    (bSeq (bSet 2 (dCall (F_Lmachine g) (dCons (dVar 1) dNil)))
    (bSeq (bSet 3 (dCall (F_Lwishes g) (dCons (dVar 1) (dCons (dVar 2) dNil))))
    (bSeq (bIf (dTest (dOp opGt (dCall (fLen g) (dCons (dCall (F_Lparts g) (dCons (dVar 3) dNil)) dNil)) (dC (.dat (.num 10))))) (bSeq (bRet (dC (.bl true)))
    bNext) bNext)
    (bSeq (bAsg (dTup (dCons (dCall (F_Lfewest g) (dCons (dVar 2) (dCons (dVar 3) (dCons (dC (.bl true)) dNil)))) (dCons (dOp opAdd (dC (.dat (.num 1))) (dCall (F_Ltaken g) (dCons (dVar 1) (dCons (dC (.dat (.num 3))) dNil)))) dNil))) (gT 2 (gsCons (gN 4) (gsCons (gN 5) gsNil))))
    (bSeq (bSet 6 (dOp (opIs true) (dVar 4) (dC (.dat .none))))
    (bSeq (bIf (xNot (dTruth (dCall (F_Lalike g) (dCons (dCall (F_can_be_proof g) (dCons (dVar 2) (dCons (dVar 3) dNil))) (dCons (dVar 6) dNil))))) (bSeq (bRet (dC (.bl false)))
    bNext) bNext)
    (bSeq (bSet 7 (dCall (F_Ltold g) (dCons (dNever) dNil)))
    (bSeq (bSet 8 (dCall (F_shortest_gentle g) (dCons (dVar 2) (dCons (dVar 3) dNil))))
    (bSeq (bIf (xAnd (dTruth (dVar 6)) (dTest (dOp opGt (dOp opMul (dVar 4) (dOp opAdd (dVar 5) (dC (.dat (.num 1))))) (dC (.dat (.num 60)))))) (bSeq (bRet (dAnd (dOp opEq (dVar 7) (dC (.dat (.text "other")))) (dOp (opIs false) (dCall (F_is_repeat_proof g) (dCons (dVar 2) (dCons (dVar 8) (dCons (dVar 5) (dCons (dVar 3) dNil))))) (dC (.bl true)))))
    bNext) bNext)
    (bSeq (bIf (xAnd (xNot (dTruth (dVar 6))) (xOr (dTest (dOp opNe (dVar 7) (dC (.dat (.text "none"))))) (dTest (dOp (opIs true) (dVar 8) (dC (.dat .none)))))) (bSeq (bRet (dC (.bl false)))
    bNext) bNext)
    (bSeq (bIf (dTruth (dVar 6)) (bSeq (bIf (dTest (dOp (opIs true) (dCall (F_is_proof g) (dCons (dVar 2) (dCons (dVar 7) (dCons (dVar 5) (dCons (dVar 3) dNil))))) (dC (.bl true)))) (bSeq (bRet (dC (.bl false)))
    bNext) bNext)
    (bSeq (bIf (dTest (dOp (opIs true) (dCall (F_is_repeat_proof g) (dCons (dVar 2) (dCons (dVar 8) (dCons (dVar 5) (dCons (dVar 3) dNil))))) (dC (.bl true)))) (bSeq (bRet (dC (.bl false)))
    bNext) bNext)
    (bSeq (bIf (dTest (dOp opNe (dCall (F_proofed g) (dCons (dVar 2) (dCons (dVar 8) (dCons (dVar 5) dNil)))) (dCall (F_Ltimes g) (dCons (dVar 8) (dCons (dOp opAdd (dVar 5) (dC (.dat (.num 1)))) dNil))))) (bSeq (bRet (dC (.bl false)))
    bNext) bNext)
    (bSeq (bIf (dTest (dOp opLt (dCall (fLen g) (dCons (dVar 7) dNil)) (dC (.dat (.num 11))))) (bSeq (bFor (iL (dCall (F_Levery_loss g) (dCons (dCall (fLen g) (dCons (dVar 7) dNil)) (dCons (dVar 5) dNil)))) (gN 9) (bSeq (bSet 10 (dCall (F_Lran g) (dCons (dVar 2) (dCons (dVar 7) (dCons (dVar 9) dNil)))))
    (bSeq (bIf (xGc (dTest (dOp opNe (dLc (iT (dVar 3)) (gT 2 (gsCons (gN 11) (gsCons (gN 12) gsNil))) (dTest (dOp opNe (dOp (opIx g) (dVar 10) (dVar 11)) (dVar 12))) (dC (.dat (.num 1))) [11, 12]) (dLst dNil)))) (bSeq (bRet (dC (.bl false)))
    bNext) bNext)
    bNext)))
    bNext) bNext)
    bNext)))) bNext)
    (bSeq (bSet 13 (dCall (F_Ltame g) (dCons (dVar 2) (dCons (dCall (F_Lprogram g) (dCons (dVar 1) (dCons (dVar 2) (dCons (dC (.dat (.num 7))) dNil)))) dNil))))
    (bSeq (bIf (dTest (dOp opEq (dCall (F_Ltaken g) (dCons (dVar 1) (dCons (dC (.dat (.num 2))) dNil))) (dC (.dat (.num 0))))) (bSeq (bSet 13 (dCall (F_Ltame g) (dCons (dVar 2) (dCons (dCall (F_Ltimes g) (dCons (dCut (dVar 13) oNo (oAt (dC (.dat (.num 3))))) (dCons (dC (.dat (.num 2))) dNil))) dNil))))
    bNext) bNext)
    (bSeq (bSet 14 (dCall (F_Lshown g) (dCons (dVar 2) (dCons (dVar 13) (dCons (dVar 3) dNil)))))
    (bSeq (bIf (dTest (dOp (opIs false) (dVar 14) (dC (.dat .none)))) (bSeq (bRet (dC (.bl true)))
    bNext) bNext)
    (bSeq (bIf (xOr (xGc (dTest (dOp opNe (dLc (iL (dVar 14)) (gN 15) (dTest (dOp (opInB false) (dOp (opIx g) (dVar 15) (dC (.dat (.num 0)))) (dOp (opIx g) (dVar 15) (dC (.dat (.num 2)))))) (dVar 15) [15]) (dLst dNil)))) (xNot (dTruth (dVar 6)))) (bSeq (bRet (dC (.bl false)))
    bNext) bNext)
    (bSeq (bSet 10 (dCall (F_Lran g) (dCons (dVar 2) (dCons (dCall fTupleOf (dCons (dVar 14) dNil)) (dCons (dTup dNil) dNil)))))
    (bSeq (bRet (dGc (dOp opEq (dLc (iT (dVar 3)) (gT 2 (gsCons (gN 11) (gsCons (gN 12) gsNil))) (dTest (dOp opNe (dOp (opIx g) (dVar 10) (dVar 11)) (dVar 12))) (dC (.dat (.num 1))) [11, 12]) (dLst dNil))))
    bNext)))))))))))))))))))
theorem dv_law {P : Program} {w : World} {K : PySem.W.Frag} {mg : Str → Option Value} {base : Heap} {g : Gp} (t : Tx K mg g) (tb : TxB base mg t) {k : Nat} (G_Lmachine : FnOk P w K mg base CX0 k t.f_Lmachine t.fd_Lmachine P_Lmachine (spD K w g (F_Lmachine g))) (G_Lwishes : FnOk P w K mg base CX0 k t.f_Lwishes t.fd_Lwishes P_Lwishes (spD K w g (F_Lwishes g))) (G_Lparts : FnOk P w K mg base CX0 k t.f_Lparts t.fd_Lparts P_Lparts (spD K w g (F_Lparts g))) (G_Lfewest : FnOk P w K mg base CX0 k t.f_Lfewest t.fd_Lfewest P_Lfewest (spD K w g (F_Lfewest g))) (G_Ltaken : FnOk P w K mg base CX0 k t.f_Ltaken t.fd_Ltaken P_Ltaken (spD K w g (F_Ltaken g))) (G_can_be_proof : FnOk P w K mg base CX0 k t.f_can_be_proof t.fd_can_be_proof P_can_be_proof (spD K w g (F_can_be_proof g))) (G_Lalike : FnOk P w K mg base CX0 k t.f_Lalike t.fd_Lalike P_Lalike (spD K w g (F_Lalike g))) (G_Ltold : FnOk P w K mg base CX0 k t.f_Ltold t.fd_Ltold P_Ltold (spD K w g (F_Ltold g))) (G_shortest_gentle : FnOk P w K mg base CX0 k t.f_shortest_gentle t.fd_shortest_gentle P_shortest_gentle (spD K w g (F_shortest_gentle g))) (G_is_repeat_proof : FnOk P w K mg base CX0 k t.f_is_repeat_proof t.fd_is_repeat_proof P_is_repeat_proof (spD K w g (F_is_repeat_proof g))) (G_is_proof : FnOk P w K mg base CX0 k t.f_is_proof t.fd_is_proof P_is_proof (spD K w g (F_is_proof g))) (G_proofed : FnOk P w K mg base CX0 k t.f_proofed t.fd_proofed P_proofed (spD K w g (F_proofed g))) (G_Ltimes : FnOk P w K mg base CX0 k t.f_Ltimes t.fd_Ltimes P_Ltimes (spD K w g (F_Ltimes g))) (G_Levery_loss : FnOk P w K mg base CX0 k t.f_Levery_loss t.fd_Levery_loss P_Levery_loss (spD K w g (F_Levery_loss g))) (G_Lran : FnOk P w K mg base CX0 k t.f_Lran t.fd_Lran P_Lran (spD K w g (F_Lran g))) (G_Lprogram : FnOk P w K mg base CX0 k t.f_Lprogram t.fd_Lprogram P_Lprogram (spD K w g (F_Lprogram g))) (G_Ltame : FnOk P w K mg base CX0 k t.f_Ltame t.fd_Ltame P_Ltame (spD K w g (F_Ltame g))) (G_Lshown : FnOk P w K mg base CX0 k t.f_Lshown t.fd_Lshown P_Lshown (spD K w g (F_Lshown g))) (A : Around) (outer : List Env) (s : Shared) (H : Hp) (E : XK)
    (hr : Room (k + 1) (A.deeper (envOfC "law" (defScope s_law) s.heap.objs.size t.f_law (.ref t.cc_law)))) : DSs g (cxOf CX0 P w K mg base N_law "law" (defScope s_law) t.f_law (.ref t.cc_law) A outer s H E).nox (defBody s_law) (fb_law g) := by
  have scN : N_law.Nodup := sc_law.nd
  have hr1 := hr.mono (Nat.le_succ k)
  exact (dss_cons (ds_set (i := 1) scN (de_lst (da_cons (de_var 0) (da_cons (de_int) (da_cons (de_int) (da_cons (de_int) da_nil))))))
    (dss_cons (ds_set (i := 2) scN (de_call G_Lmachine hr1 rfl t.m_Lmachine t.k_Lmachine t.b_Lmachine (da_cons (de_var 1) da_nil)))
    (dss_cons (ds_set (i := 3) scN (de_call G_Lwishes hr1 rfl t.m_Lwishes t.k_Lwishes t.b_Lwishes (da_cons (de_var 1) (da_cons (de_var 2) da_nil))))
    (dss_cons (ds_if (dx_cmp od_gt (de_callB cr_len rfl t.n_len bt_len (da_cons (de_call G_Lparts hr1 rfl t.m_Lparts t.k_Lparts t.b_Lparts (da_cons (de_var 3) da_nil)) da_nil)) (de_int)) (dss_cons (ds_ret (de_bl))
    dss_nil) dss_nil)
    (dss_cons (ds_asg (de_tup (da_cons (de_call G_Lfewest hr1 rfl t.m_Lfewest t.k_Lfewest t.b_Lfewest (da_cons (de_var 2) (da_cons (de_var 3) (da_cons (de_bl) da_nil)))) (da_cons (de_op od_add (de_int) (de_call G_Ltaken hr1 rfl t.m_Ltaken t.k_Ltaken t.b_Ltaken (da_cons (de_var 1) (da_cons (de_int) da_nil)))) da_nil))) (dg_t rfl (dgs_cons (dg_n scN (i := 4)) (dgs_cons (dg_n scN (i := 5)) dgs_nil))))
    (dss_cons (ds_set (i := 6) scN (de_cmp od_isnot (de_var 4) (de_non)))
    (dss_cons (ds_if (dx_not (dx_truth (de_call G_Lalike hr1 rfl t.m_Lalike t.k_Lalike t.b_Lalike (da_cons (de_call G_can_be_proof hr1 rfl t.m_can_be_proof t.k_can_be_proof t.b_can_be_proof (da_cons (de_var 2) (da_cons (de_var 3) da_nil))) (da_cons (de_var 6) da_nil))))) (dss_cons (ds_ret (de_bl))
    dss_nil) dss_nil)
    (dss_cons (ds_set (i := 7) scN (de_call G_Ltold hr1 rfl t.m_Ltold t.k_Ltold t.b_Ltold (da_cons (de_never) da_nil)))
    (dss_cons (ds_set (i := 8) scN (de_call G_shortest_gentle hr1 rfl t.m_shortest_gentle t.k_shortest_gentle t.b_shortest_gentle (da_cons (de_var 2) (da_cons (de_var 3) da_nil))))
    (dss_cons (ds_if (dx_bool (dw_and (dx_truth (de_var 6)) (dw_and1 (dx_cmp od_gt (de_op od_mul (de_var 4) (de_op od_add (de_var 5) (de_int))) (de_int))))) (dss_cons (ds_ret (de_and (de_cmp (od_eq (u64 hr)) (de_var 7) (de_str)) (de_one (de_cmp od_is (de_call G_is_repeat_proof hr1 rfl t.m_is_repeat_proof t.k_is_repeat_proof t.b_is_repeat_proof (da_cons (de_var 2) (da_cons (de_var 8) (da_cons (de_var 5) (da_cons (de_var 3) da_nil))))) (de_bl)))))
    dss_nil) dss_nil)
    (dss_cons (ds_if (dx_bool (dw_and (dx_not (dx_truth (de_var 6))) (dw_and1 (dx_bool (dw_or (dx_cmp (od_ne (u64 hr)) (de_var 7) (de_str)) (dw_or1 (dx_cmp od_isnot (de_var 8) (de_non)))))))) (dss_cons (ds_ret (de_bl))
    dss_nil) dss_nil)
    (dss_cons (ds_if (dx_truth (de_var 6)) (dss_cons (ds_if (dx_cmp od_isnot (de_call G_is_proof hr1 rfl t.m_is_proof t.k_is_proof t.b_is_proof (da_cons (de_var 2) (da_cons (de_var 7) (da_cons (de_var 5) (da_cons (de_var 3) da_nil))))) (de_bl)) (dss_cons (ds_ret (de_bl))
    dss_nil) dss_nil)
    (dss_cons (ds_if (dx_cmp od_isnot (de_call G_is_repeat_proof hr1 rfl t.m_is_repeat_proof t.k_is_repeat_proof t.b_is_repeat_proof (da_cons (de_var 2) (da_cons (de_var 8) (da_cons (de_var 5) (da_cons (de_var 3) da_nil))))) (de_bl)) (dss_cons (ds_ret (de_bl))
    dss_nil) dss_nil)
    (dss_cons (ds_if (dx_cmp (od_ne (u64 hr)) (de_call G_proofed hr1 rfl t.m_proofed t.k_proofed t.b_proofed (da_cons (de_var 2) (da_cons (de_var 8) (da_cons (de_var 5) da_nil)))) (de_call G_Ltimes hr1 rfl t.m_Ltimes t.k_Ltimes t.b_Ltimes (da_cons (de_var 8) (da_cons (de_op od_add (de_var 5) (de_int)) da_nil)))) (dss_cons (ds_ret (de_bl))
    dss_nil) dss_nil)
    (dss_cons (ds_if (dx_cmp od_lt (de_callB cr_len rfl t.n_len bt_len (da_cons (de_var 7) da_nil)) (de_int)) (dss_cons (ds_for PassesOwn.never rfl (di_list (de_call G_Levery_loss hr1 rfl t.m_Levery_loss t.k_Levery_loss t.b_Levery_loss (da_cons (de_callB cr_len rfl t.n_len bt_len (da_cons (de_var 7) da_nil)) (da_cons (de_var 5) da_nil)))) (dg_n scN (i := 9)) (dss_cons (ds_set (i := 10) scN (de_call G_Lran hr1 rfl t.m_Lran t.k_Lran t.b_Lran (da_cons (de_var 2) (da_cons (de_var 7) (da_cons (de_var 9) da_nil)))))
    (dss_cons (ds_if (dx_gc (dx_cmp (od_ne (u64 hr)) (de_lc rfl scN  (di_tup (de_var 3)) (blkOk_by (N := N_law) (sc := defScope s_law) (own := [("_law_cell", 11), ("_law_term", 12)]) (by decide +kernel)) (fun _ _ _ _ _ => (dg_t rfl (dgs_cons (dg_n scN (i := 11)) (dgs_cons (dg_n scN (i := 12)) dgs_nil)))) (fun _ _ _ _ _ => (dts_one (dx_cmp (od_ne (u64 hr)) (de_ix (de_var 10) (de_var 11) (fun _ _ => rfl)) (de_var 12)))) (fun _ _ _ _ _ => (de_int))) (de_lst da_nil))) (dss_cons (ds_ret (de_bl))
    dss_nil) dss_nil)
    dss_nil)))
    dss_nil) dss_nil)
    dss_nil)))) dss_nil)
    (dss_cons (ds_set (i := 13) scN (de_call G_Ltame hr1 rfl t.m_Ltame t.k_Ltame t.b_Ltame (da_cons (de_var 2) (da_cons (de_call G_Lprogram hr1 rfl t.m_Lprogram t.k_Lprogram t.b_Lprogram (da_cons (de_var 1) (da_cons (de_var 2) (da_cons (de_int) da_nil)))) da_nil))))
    (dss_cons (ds_if (dx_cmp (od_eq (u64 hr)) (de_call G_Ltaken hr1 rfl t.m_Ltaken t.k_Ltaken t.b_Ltaken (da_cons (de_var 1) (da_cons (de_int) da_nil))) (de_int)) (dss_cons (ds_set (i := 13) scN (de_call G_Ltame hr1 rfl t.m_Ltame t.k_Ltame t.b_Ltame (da_cons (de_var 2) (da_cons (de_call G_Ltimes hr1 rfl t.m_Ltimes t.k_Ltimes t.b_Ltimes (da_cons (de_cut (de_var 13) do_none (do_some (de_int))) (da_cons (de_int) da_nil))) da_nil))))
    dss_nil) dss_nil)
    (dss_cons (ds_set (i := 14) scN (de_call G_Lshown hr1 rfl t.m_Lshown t.k_Lshown t.b_Lshown (da_cons (de_var 2) (da_cons (de_var 13) (da_cons (de_var 3) da_nil)))))
    (dss_cons (ds_if (dx_cmp od_is (de_var 14) (de_non)) (dss_cons (ds_ret (de_bl))
    dss_nil) dss_nil)
    (dss_cons (ds_if (dx_bool (dw_or (dx_gc (dx_cmp (od_ne (u64 hr)) (de_lc rfl scN  (di_list (de_var 14)) (blkOk_by (N := N_law) (sc := defScope s_law) (own := [("_law_line", 15)]) (by decide +kernel)) (fun _ _ _ _ _ => (dg_n scN (i := 15))) (fun _ _ _ _ _ => (dts_one (dx_cmp (od_in (u65 hr)) (de_ix (de_var 15) (de_int) (fun _ _ => rfl)) (de_ix (de_var 15) (de_int) (fun _ _ => rfl))))) (fun _ _ _ _ _ => (de_var 15))) (de_lst da_nil))) (dw_or1 (dx_not (dx_truth (de_var 6)))))) (dss_cons (ds_ret (de_bl))
    dss_nil) dss_nil)
    (dss_cons (ds_set (i := 10) scN (de_call G_Lran hr1 rfl t.m_Lran t.k_Lran t.b_Lran (da_cons (de_var 2) (da_cons (de_callTy cr_tupleOf rfl t.n_tuple bt_tuple (da_cons (de_var 14) da_nil)) (da_cons (de_tup da_nil) da_nil)))))
    (dss_cons (ds_ret (de_gc (de_cmp (od_eq (u64 hr)) (de_lc rfl scN  (di_tup (de_var 3)) (blkOk_by (N := N_law) (sc := defScope s_law) (own := [("_law_cell", 11), ("_law_term", 12)]) (by decide +kernel)) (fun _ _ _ _ _ => (dg_t rfl (dgs_cons (dg_n scN (i := 11)) (dgs_cons (dg_n scN (i := 12)) dgs_nil)))) (fun _ _ _ _ _ => (dts_one (dx_cmp (od_ne (u64 hr)) (de_ix (de_var 10) (de_var 11) (fun _ _ => rfl)) (de_var 12)))) (fun _ _ _ _ _ => (de_int))) (de_lst da_nil))))
    dss_nil)))))))))))))))))))
end L2.LL

/-! # LLE3 -/
set_option Elab.async false
set_option linter.all false
set_option maxRecDepth 100000
set_option maxHeartbeats 2000000
namespace L2.LL
open PySem PySem.Spec PyProof.Rows
/-! ## the law's lambda, _law_told -/
section
variable {X : Cx} {pins : List (Addr × Obj)} {σ : L2.St} {H : Hp} {s : Shared}
abbrev lamNm (X : Cx) : Str := X.env.qual ++ "<lambda>"
abbrev lamOb (X : Cx) (params : Arguments) (body : Expr) (scope : Scope) (pm : Value) (c' : Addr) (ctv : Value) : Obj := PySem.W.kla_obj "<lambda>" (lamNm X) params body scope (cloFrom X.env.cells scope.names []) pm c' ctv
/-- a lambda is made, the first time: the maker's table stands empty -/
theorem lam_first {c P : Addr} {params : Arguments} {body : Expr} {scope : Scope} {pos : Pos} {E Q : Value → Shared → Prop} (I : Inv X pins σ H s) (TB : LamX.TabB X.base X.mg c P) (hcode : X.env.code = .ref c) (hP : H P = some (.tbl #[]))
    (hdef : defaultsOf params X.env = ([], [])) (hfree : ∀ y ∈ scope.names, y.2 = .free → ∃ c, X.env.cells.lookup y.1 = some c)
    (h : ∀ (f c' : Addr) (pm ctv : Value) (H1 : Hp) (s' : Shared) (ps : Array Value), Inv X pins σ H1 s' → H1 P = some (.tbl ps) → H c' = none → (∀ b, b ≠ P → b ≠ c' → H1 b = H b) →
      s'.heap.get? f = some (lamOb X params body scope pm c' ctv) → H1 f = none → f ∉ frs X.stack → H1 c' = some (LamX.CodeO c' (lamNm X)) → Q (.ref f) s') :
    wpAny (model X.prog X.w) X.A (eval (.Lambda params body scope pos) X.env) Q E s := by
  have gP : s.heap.get? P = some { cls := .none, data := .fields #[] } := I.hok P _ hP
  have nf : codeAmong pos (#[] : Array Value).toList = none := by simp [codeAmong]
  refine PySem.W.kla_eval hdef (PySem.W.kla_makeFunction (mg := X.mg) (c := c) (P := P) (ps := #[]) (closure_ok hfree) I.ok.glob (I.mod.glob.keeps I.bk) hcode (TB.code.keeps I.bk) gP True.intro nf TB.gP (TB.bm.keeps I.bk) ?_)
  intro c' ctv h' tk hx hge hlt hrec htb
  obtain ⟨_, oc, vs, tq, eq, hoc, hd, hv⟩ := hrec
  cases eq
  have nC : H c' = none := I.hok.fresh hge
  have PC : P ≠ c' := fun z => by rw [z, nC] at hP; cases hP
  have szl : s.heap.objs.size ≤ h'.objs.size := Nat.le_of_lt (Nat.lt_of_le_of_lt hge hlt)
  have up : ∀ {ob : Obj} (b : Addr) (o : Obj), h'.get? b = some o → (h'.push ob).get? b = some o := fun b o q => Heap.get?_push_of_some _ q
  have J := LamX.inv_table (t' := tk) (h' := h'.push (lamOb X params body scope ((X.mg "__name__").getD .none) c' ctv)) I hP (fun b o hb q => up b o (hx b o hb q)) (up _ _ htb) hge ⟨oc, vs, tq, up _ _ hoc, hd, hv⟩
  have nF : H h'.objs.size = none := I.hok.fresh szl
  refine h h'.objs.size c' _ ctv _ _ _ J ((upd_ne PC).trans upd_same) nC (fun b h1 h2 => (upd_ne h2).trans (upd_ne h1)) (Heap.get?_push_size _ rfl) ?_ (fun z => ?_) upd_same
  · rw [upd_ne (Nat.ne_of_gt hlt), upd_ne (fun z => by rw [z, hP] at nF; cases nF)]; exact nF
  · rcases List.mem_cons.mp (I.stkSub _ z) with q | q
    · exact Nat.lt_irrefl _ (Nat.lt_of_lt_of_le (q ▸ I.lt) szl)
    · exact I.nofs szl q
end
/-- isinstance of an error that has a dict -/
theorem call_isD {X : Cx} {a D dd : Addr} {oe : Obj} {pn : List (Addr × Obj)} (C : ExcC X.K D) (hz : Zc (.ref D) (some dd) oe) (hf : ∃ vs, oe.data = .fields vs) :
    CallR (X.suite a ((a, oe) :: pn)) (.builtin "isinstance") (fun xs H Q => rIsE X.K D a xs H Q ∧ ∃ fs, H dd = some (.xd fs)) := by
  intro pins s σ H xs us Q I r h
  obtain ⟨⟨c, cv, b, rfl, hcv, q1, q⟩, fs, hx⟩ := h
  obtain ⟨u1, u2, rfl, r1, r2⟩ := vals2 r
  cases r1
  have ec := hcv _ r2
  subst ec
  obtain ⟨hget, _⟩ := I.pin (a, oe) (List.mem_append.mpr (.inl List.mem_cons_self))
  obtain ⟨vs, hv⟩ := hf
  obtain ⟨mA, hns, _⟩ := (show ObjOk X.prog X.w H s.heap dd (.xd fs) from I.hok dd _ hx)
  obtain ⟨od, ho, _⟩ := lookIn_ns hns
  have J : PySem.W.InstAt s.heap a oe D (some od) := ⟨hget, hz.1, by unfold PySem.W.notCls; rw [hv] <;> rfl, by rw [hz.2]; exact ho⟩
  have hcl : (PySem.W.clsIn X.K D).isSome = true := by
    have hd := C.hd
    unfold PySem.W.hasDictIn at hd
    cases z : PySem.W.clsIn X.K D with
    | none => rw [z] at hd; cases hd
    | some _ => rfl
  exact PySem.W.kia_one (PySem.W.kitx_exc hcl C.hg C.hk C.hs C.ha C.hn C.ht C.hm) I.kIn J q1 (fun z => nomatch z) fun tk => ⟨.bl b, H, I.kept (t' := tk) fun _ _ z => z, rfl, q⟩

/-! ## _law_told(lambda: ..) -/
section
variable {X : Cx} {g : Gp}
/-- what it hands back: the value, or the word -/
def TTo {K : PySem.W.Frag} {mg : Str → Option Value} (e : TxE K mg) (tl : XK → Hp → VK → Prop) (H : Hp) (Q : VK) : Prop :=
  tl (fun cls d H' => (cls = .ref e.cN ∧ d = none ∧ Q (.str "none") H') ∨ (cls = .ref e.cT ∧ ∃ dd fs, d = some dd ∧ H' dd = some (.xd fs) ∧ Q (.str "other") H')) H (fun v H2 => ∃ u, some (some v) = some (some u) ∧ Q u H2)
def tLam1 {K : PySem.W.Frag} {mg : Str → Option Value} (e : TxE K mg) (P : Addr) (t : XK → TE) : TE := fun σ H Q => H P = some (.tbl #[]) ∧ ∀ H1 c' ps, H1 P = some (.tbl ps) → H c' = none → (∀ b, b ≠ P → b ≠ c' → H1 b = H b) → TTo e (fun E H' Q' => t E σ H' Q') H1 Q
theorem kit_self {K : PySem.W.Frag} {C : Addr} : PySem.W.kitOne K (.ref C) (.ref C) = some true := by
  unfold PySem.W.kitOne
  rw [if_pos (beq_self_eq_true _)]
theorem sc_Ltold : FnScope N_Ltold P_Ltold (defScope s_Ltold) := ⟨rfl, rfl, rfl, by decide +kernel, rfl, by decide +kernel, by decide +kernel⟩
/-- the suite: the word by the error's class -/
def tWord {K : PySem.W.Frag} {mg : Str → Option Value} (e : TxE K mg) (a : Addr) (cls : Value) (d : Option Addr) : TS := fun D σ H => σ[2]? = some (some (.ref a)) ∧
  ((cls = .ref e.cN ∧ d = none ∧ D.nx (σ.set 1 (some (.str "none"))) H) ∨ (cls = .ref e.cT ∧ ∃ dd fs, d = some dd ∧ H dd = some (.xd fs) ∧ D.nx (σ.set 1 (some (.str "other"))) H))
abbrev toldX (X : Cx) {g : Gp} (t : Tx X.K X.mg g) (s : Shared) (H : Hp) : Cx := cxOf CX0 X.prog X.w X.K X.mg X.base N_Ltold "_law_told" (defScope s_Ltold) t.f_Ltold t.cd_Ltold X.A X.stack s H E0
theorem told_word {Y : Cx} (t : Tx Y.K Y.mg g) (e : TxE Y.K Y.mg) {a : Addr} {oe : Obj} {cls : Value} {d : Option Addr} {pn : List (Addr × Obj)} {ca cb : Pos} {j1 j2 : Nat} {p1 p2 p3 p4 p5 p6 p7 : Pos} (hN : Y.N = N_Ltold) (hsc : Y.env.scope = defScope s_Ltold) (hz : Zc cls d oe) (hf : ∃ vs, oe.data = .fields vs)
    (hs : swapsWith (.IfExp (.Call (.Name "isinstance" p1) [.Name "e" p2, .Name "NoProgram" p3] [] p4) (.Constant (.str "none") j1 p5) (.Constant (.str "other") j2 p6) p7) (some (.Name "_law_found" ca)) cb.line (Y.suite a ((a, oe) :: pn)).env = pure false) :
    PSs (Y.suite a ((a, oe) :: pn)) [.Assign [.Name "_law_found" ca] (.IfExp (.Call (.Name "isinstance" p1) [.Name "e" p2, .Name "NoProgram" p3] [] p4) (.Constant (.str "none") j1 p5) (.Constant (.str "other") j2 p6) p7) cb] (tWord e a cls d) := by
  have nd : (Y.suite a ((a, oe) :: pn)).N.Nodup := by show Y.N.Nodup; rw [hN]; exact sc_Ltold.nd
  have g1 : (Y.suite a ((a, oe) :: pn)).N[1]? = some ("_law_found" : Str) := by show Y.N[1]? = _; rw [hN]; rfl
  have g2 : (Y.suite a ((a, oe) :: pn)).N[2]? = some ("e" : Str) := by show Y.N[2]? = _; rw [hN]; rfl
  have l1 : Loc (Y.suite a ((a, oe) :: pn)).env.scope "_law_found" := by show Loc Y.env.scope _; rw [hsc]; exact .inl rfl
  have l2 : Vis (Y.suite a ((a, oe) :: pn)).env.scope "e" := by show Vis Y.env.scope _; rw [hsc]; exact .inl rfl
  have l3 : Gl (Y.suite a ((a, oe) :: pn)) "NoProgram" := by show Y.env.scope.names.lookup ("NoProgram" : Str) = _; rw [hsc]; rfl
  have l4 : Gl (Y.suite a ((a, oe) :: pn)) "isinstance" := by show Y.env.scope.names.lookup ("isinstance" : Str) = _; rw [hsc]; rfl
  have l5 : (Y.suite a ((a, oe) :: pn)).env.scope.names.lookup ("_law_found" : Str) = some .local := by show Y.env.scope.names.lookup _ = _; rw [hsc]; rfl
  refine ⟨fun pins s σ H D I h => ?_⟩
  obtain ⟨h0, ⟨rfl, rfl, h1⟩ | ⟨rfl, dd, fs, rfl, h1, h2⟩⟩ := h
  · have hp := pss_one (ps_set (i := 1) nd g1 l1 (pe_ifExp (pt_val (pe_callB (call_isE e.cxN hz hf) l4 t.n_isinstance bt_isinstance (pa_cons (pe_var (i := 2) g2 l2) (pa_cons (pe_glob (v := .ref e.cN) l3 e.gN rfl) pa_nil)))) (pe_str (x := "none")) (pe_str (x := "other"))) hs (.inr l5))
    refine hp.run pins s σ H D I ?_
    refine ⟨_, h0, .ref e.cN, .ref e.cN, true, rfl, fun u q => q, kit_self, ?_⟩
    exact ⟨true, rfl, by dsimp only; rw [if_pos rfl]; exact h1⟩
  · have hp := pss_one (ps_set (i := 1) nd g1 l1 (pe_ifExp (pt_val (pe_callB (call_isD e.cxT hz hf) l4 t.n_isinstance bt_isinstance (pa_cons (pe_var (i := 2) g2 l2) (pa_cons (pe_glob (v := .ref e.cN) l3 e.gN rfl) pa_nil)))) (pe_str (x := "none")) (pe_str (x := "other"))) hs (.inr l5))
    refine hp.run pins s σ H D I ?_
    refine ⟨_, h0, ⟨.ref e.cN, .ref e.cN, false, rfl, fun u q => q, e.kT, ?_⟩, fs, h1⟩
    exact ⟨false, rfl, by dsimp only; rw [if_neg Bool.false_ne_true]; exact h2⟩
theorem takes_len {Y : Cx} {W : WX} {n : Nat} (tk : Takes Y W) (hn : Y.N.length = n := by rfl) : Takes Y (fun cls d σ H => σ.length = n → W cls d σ H) := fun u s' ⟨a, B, sI, pins, σ, H, cls, d, e, I, r1, r2, r3, r4, r5, r6, w⟩ =>
  tk u s' ⟨a, B, sI, pins, σ, H, cls, d, e, I, r1, r2, r3, r4, r5, r6, w (I.len.trans hn)⟩
/-- _law_told(lambda: body) -/
theorem pe_told (t : Tx X.K X.mg g) (e : TxE X.K X.mg) {c P : Addr} {k : Nat} {params : Arguments} {body : Expr} {scope : Scope} {tt : XK → TE} {p lpos pos : Pos} (TB : LamX.TabB X.base X.mg c P) (hcode : X.env.code = .ref c) (hg : Gl X "_law_told") (hr : Room (k + 2) X.A) (L : LamX.LamS X.env.scope scope) (hdef : defaultsOf params X.env = ([], []))
    (hbind : ∀ (q : Str) (cl : List (Str × Addr)) (pm cv ctv : Value), bindArgs (PySem.W.kla_fn "<lambda>" q params body scope cl pm cv ctv) ⟨[], []⟩ = pure [])
    (hbody : ∀ (A : Around) (outer : List Env) (s : Shared) (H : Hp) (E : XK) (f c' : Addr), Room k (A.deeper (LamX.lamEnv X scope s.heap.objs.size f c')) → PE (LamX.lamCx X A outer s H E scope f c') body (tt E)) :
    PE X (.Call (.Name "_law_told" p) [.Lambda params body scope lpos] [] pos) (tLam1 e P tt) := by
  refine ⟨fun pins s σ H Q I h => ?_⟩
  obtain ⟨hP, h⟩ := h
  refine wpAny_Call_Name_kw (ld_glob I hg t.m_Ltold ?_ (by decide))
  refine PySem.W.callWith_K (h₀ := X.base) I.ok.mod.kin t.k_Ltold ?_ (by rfl) (by rfl)
  show wpAny _ _ (spliced ((false, eval (.Lambda params body scope lpos) X.env) :: backTo pos (starEach [] X.env))) _ _ s
  refine Calls.spliced_cons (lam_first I TB hcode hP hdef (L.has I.ok) fun f c' pm' ctv H1 s' ps I1 h1 h2 h3 hf hfn hfr hco => ?_)
  refine Calls.spliced_nil ⟨I1.kIn, ?_⟩
  obtain ⟨oc, od, kV, doc, pm, an, ct, osl, dV, hfd, lk, hcd⟩ := t.F_Ltold.ex
  have hb := t.b_Ltold
  rw [hfd] at lk hb
  have rc : codeAny (model X.prog X.w) X.A (.call (.ref t.f_Ltold) ⟨[.ref f], []⟩) (CR CX0 X.stack X.prog X.w H1 s' Q E0) s' := by
    refine LamX.run_ofS (N := N_Ltold) (ps := P_Ltold) (us := [.ref f]) (vs := [.ref f]) lk hcd sc_Ltold hr I1.env0 (hb s' [.ref f] I1.kIn rfl) (.cons rfl .nil) rfl fun hr' => ?_
    have hTT := h H1 c' ps h1 h2 h3
    have hact : ∀ (W : WX) (pn : List (Addr × Obj)) (xe : Value → Shared → Prop) (E : XK) (p1 p2 : Pos), Takes ((toldX X t s' H1).nox.tr pn xe) W → (∀ cls d σ' H', E cls d H' → W cls d σ' H') →
        PE ((toldX X t s' H1).nox.tr pn xe) (.Call (.Name "_law_work" p1) [] [] p2) (fun σZ HZ Q => σZ[0]? = some (some (.ref f)) ∧ HZ c' = some (LamX.CodeO c' (lamNm X)) ∧ tt E σ HZ Q) := fun W pn xe E p1 p2 tk hW =>
      LamX.pe_act (CXg := CX0) (Eg := E0) (i := 0) I1 L hf hfn hfr (hbind _ _ _ _ _) tk hW hr' (fun A outer s H hr2 => hbody A outer s H E f c' hr2) rfl (.inl rfl)
    have hnd : (toldX X t s' H1).nox.N.Nodup := sc_Ltold.nd
    refine ⟨_, (pss_cons (ps_try_as (X := (toldX X t s' H1).nox) (i := 2) (x := ("LinesError" : Str)) (n := ("e" : Str)) (c := .ref e.cL) (Wout := fun _ _ _ _ => False) (ts := fun a cls d => tWord e a cls d)
        (tb := fun W D σ' H' => ∃ Ech : XK, (∀ cls d (σ : L2.St) H, σ.length = 3 → Ech cls d H → W cls d σ H) ∧ σ'[0]? = some (some (.ref f)) ∧ H' c' = some (LamX.CodeO c' (lamNm X)) ∧ tt Ech σ H' (fun v H2 => D.nx (σ'.set 1 (some v)) H2))
        rfl rfl hnd rfl rfl ⟨rfl, by decide, .inl e.gL⟩ LamX.takes0 (fun W pn xe tk _ => ?_) (fun a oe cls d pn hz hf => ?_)) (pss_one (ps_ret (pe_var (i := 1) rfl (.inl rfl))))).nox, ?_⟩
    · refine ⟨fun pins s'' σ' H' D I' h' => ?_⟩
      obtain ⟨Ech, hW, q1, q2, q3⟩ := h'
      exact (pss_one (ps_set (X := (toldX X t s' H1).nox.tr pn xe) (i := 1) hnd rfl (.inl rfl) (hact _ pn xe Ech _ _ (takes_len tk) (fun cls d σ H z (hl : σ.length = 3) => hW cls d σ H hl z)))).run pins s'' σ' H' D I' ⟨q1, q2, q3⟩
    · exact told_word (Y := (toldX X t s' H1).nox) t e rfl rfl hz hf rfl
    · refine ⟨fun cls d H' => (cls = .ref e.cN ∧ d = none ∧ Q (.str "none") H') ∨ (cls = .ref e.cT ∧ ∃ dd fs, d = some dd ∧ H' dd = some (.xd fs) ∧ Q (.str "other") H'), fun cls d σ' H' hl z => ?_, rfl, hco, hTT⟩
      have h2 : ∀ a : Addr, (σ'.set 2 (some (V.ref a)))[2]? = some (some (V.ref a)) := fun a => List.getElem?_set_self (by omega)
      have h1 : ∀ (a : Addr) (v : V), (((σ'.set 2 (some (V.ref a))).set 1 (some v)).set 2 none)[1]? = some (some v) := fun a v => by
        rw [List.getElem?_set_ne (by decide), List.getElem?_set_self (by simp; omega)]
      rcases z with ⟨rfl, rfl, q⟩ | ⟨rfl, dd, fs, rfl, hd, q⟩
      · exact ⟨true, e.eN, fun _ a _ => ⟨h2 a, .inl ⟨rfl, rfl, _, h1 a _, q⟩⟩, fun z => by cases z⟩
      · exact ⟨true, e.eT, fun _ a _ => ⟨h2 a, .inr ⟨rfl, dd, fs, rfl, hd, _, h1 a _, q⟩⟩, fun z => by cases z⟩
  refine wpAny_call (codeAny_mono rc fun r s2 hq => ?_)
  cases r with
  | error e => exact (show False from hq).elim
  | ok fl =>
    cases fl with
    | ret u => exact I1.after hq
    | next => exact False.elim hq
    | brk => exact False.elim hq
    | cont => exact False.elim hq
end
end L2.LL

/-! # LLE4 -/
set_option Elab.async false
set_option linter.all false
set_option maxRecDepth 100000
set_option maxHeartbeats 2000000
namespace L2.LL
open PySem PySem.Spec PyProof.Rows
/-! ## the law's body -/
/-- .. of whose end nothing is asked but that it is True -/
def tSq (K : PySem.W.Frag) (w : World) (g : Gp) (f : BD) : TS := fun D σv H => (∀ H', D.rt (.bl true) H') ∧ tS K w g f D σv H
theorem dssq_cons {g : Gp} {X : Cx} {st : Stmt} {rest : List Stmt} {t u : BD} (h1 : DS g X st t) (h2 : PSs X rest (tSq X.K X.w g u)) : PSs X (st :: rest) (tSq X.K X.w g (bSeq t u)) :=
  (pss_cons h1 h2).imp fun D σv H ⟨hq, m, σ, S, D0, R, Rl, h, k⟩ => ⟨m, σ, S, { D0 with nx := u D0 }, R, Rl, h, fun σ1 S1 m1 H1 σv1 q L R1 Rl1 => ⟨hq, m1, σ1, S1, D0, R1, Rl1, q, k.le L⟩, k.rt, k.bk, k.ct⟩
def fb_lawD (g : Gp) : BD :=
  (bSeq (bSet 14 (dCall (F_Lshown g) (dCons (dVar 2) (dCons (dVar 13) (dCons (dVar 3) dNil)))))
    (bSeq (bIf (dTest (dOp (opIs false) (dVar 14) (dC (.dat .none)))) (bSeq (bRet (dC (.bl true)))
    bNext) bNext)
    (bSeq (bIf (xOr (xGc (dTest (dOp opNe (dLc (iL (dVar 14)) (gN 15) (dTest (dOp (opInB false) (dOp (opIx g) (dVar 15) (dC (.dat (.num 0)))) (dOp (opIx g) (dVar 15) (dC (.dat (.num 2)))))) (dVar 15) [15]) (dLst dNil)))) (xNot (dTruth (dVar 6)))) (bSeq (bRet (dC (.bl false)))
    bNext) bNext)
    (bSeq (bSet 10 (dCall (F_Lran g) (dCons (dVar 2) (dCons (dCall fTupleOf (dCons (dVar 14) dNil)) (dCons (dTup dNil) dNil)))))
    (bSeq (bRet (dGc (dOp opEq (dLc (iT (dVar 3)) (gT 2 (gsCons (gN 11) (gsCons (gN 12) gsNil))) (dTest (dOp opNe (dOp (opIx g) (dVar 10) (dVar 11)) (dVar 12))) (dC (.dat (.num 1))) [11, 12]) (dLst dNil))))
    bNext)))))
def fb_lawC (g : Gp) : BD :=
  (bSeq (bSet 13 (dCall (F_Ltame g) (dCons (dVar 2) (dCons (dCall (F_Lprogram g) (dCons (dVar 1) (dCons (dVar 2) (dCons (dC (.dat (.num 7))) dNil)))) dNil))))
    (bSeq (bIf (dTest (dOp opEq (dCall (F_Ltaken g) (dCons (dVar 1) (dCons (dC (.dat (.num 2))) dNil))) (dC (.dat (.num 0))))) (bSeq (bSet 13 (dCall (F_Ltame g) (dCons (dVar 2) (dCons (dCall (F_Ltimes g) (dCons (dCut (dVar 13) oNo (oAt (dC (.dat (.num 3))))) (dCons (dC (.dat (.num 2))) dNil))) dNil))))
    bNext) bNext)
    (fb_lawD g)))
def fb_lawB (g : Gp) : BD :=
  (bSeq (bSet 8 (dCall (F_shortest_gentle g) (dCons (dVar 2) (dCons (dVar 3) dNil))))
    (bSeq (bIf (xAnd (dTruth (dVar 6)) (dTest (dOp opGt (dOp opMul (dVar 4) (dOp opAdd (dVar 5) (dC (.dat (.num 1))))) (dC (.dat (.num 60)))))) (bSeq (bRet (dAnd (dOp opEq (dVar 7) (dC (.dat (.text "other")))) (dOp (opIs false) (dCall (F_is_repeat_proof g) (dCons (dVar 2) (dCons (dVar 8) (dCons (dVar 5) (dCons (dVar 3) dNil))))) (dC (.bl true)))))
    bNext) bNext)
    (bSeq (bIf (xAnd (xNot (dTruth (dVar 6))) (xOr (dTest (dOp opNe (dVar 7) (dC (.dat (.text "none"))))) (dTest (dOp (opIs true) (dVar 8) (dC (.dat .none)))))) (bSeq (bRet (dC (.bl false)))
    bNext) bNext)
    (bSeq (bIf (dTruth (dVar 6)) (bSeq (bIf (dTest (dOp (opIs true) (dCall (F_is_proof g) (dCons (dVar 2) (dCons (dVar 7) (dCons (dVar 5) (dCons (dVar 3) dNil))))) (dC (.bl true)))) (bSeq (bRet (dC (.bl false)))
    bNext) bNext)
    (bSeq (bIf (dTest (dOp (opIs true) (dCall (F_is_repeat_proof g) (dCons (dVar 2) (dCons (dVar 8) (dCons (dVar 5) (dCons (dVar 3) dNil))))) (dC (.bl true)))) (bSeq (bRet (dC (.bl false)))
    bNext) bNext)
    (bSeq (bIf (dTest (dOp opNe (dCall (F_proofed g) (dCons (dVar 2) (dCons (dVar 8) (dCons (dVar 5) dNil)))) (dCall (F_Ltimes g) (dCons (dVar 8) (dCons (dOp opAdd (dVar 5) (dC (.dat (.num 1)))) dNil))))) (bSeq (bRet (dC (.bl false)))
    bNext) bNext)
    (bSeq (bIf (dTest (dOp opLt (dCall (fLen g) (dCons (dVar 7) dNil)) (dC (.dat (.num 11))))) (bSeq (bFor (iL (dCall (F_Levery_loss g) (dCons (dCall (fLen g) (dCons (dVar 7) dNil)) (dCons (dVar 5) dNil)))) (gN 9) (bSeq (bSet 10 (dCall (F_Lran g) (dCons (dVar 2) (dCons (dVar 7) (dCons (dVar 9) dNil)))))
    (bSeq (bIf (xGc (dTest (dOp opNe (dLc (iT (dVar 3)) (gT 2 (gsCons (gN 11) (gsCons (gN 12) gsNil))) (dTest (dOp opNe (dOp (opIx g) (dVar 10) (dVar 11)) (dVar 12))) (dC (.dat (.num 1))) [11, 12]) (dLst dNil)))) (bSeq (bRet (dC (.bl false)))
    bNext) bNext)
    bNext)))
    bNext) bNext)
    bNext)))) bNext)
    (fb_lawC g)))))
theorem dv_lawB {P : Program} {w : World} {K : PySem.W.Frag} {mg : Str → Option Value} {base : Heap} {g : Gp} (t : Tx K mg g) (tb : TxB base mg t) {k : Nat} (G_Lshown : FnOk P w K mg base CX0 k t.f_Lshown t.fd_Lshown P_Lshown (spD K w g (F_Lshown g))) (G_Lran : FnOk P w K mg base CX0 k t.f_Lran t.fd_Lran P_Lran (spD K w g (F_Lran g))) (G_Ltaken : FnOk P w K mg base CX0 k t.f_Ltaken t.fd_Ltaken P_Ltaken (spD K w g (F_Ltaken g))) (G_Ltimes : FnOk P w K mg base CX0 k t.f_Ltimes t.fd_Ltimes P_Ltimes (spD K w g (F_Ltimes g))) (G_Ltame : FnOk P w K mg base CX0 k t.f_Ltame t.fd_Ltame P_Ltame (spD K w g (F_Ltame g))) (G_Lprogram : FnOk P w K mg base CX0 k t.f_Lprogram t.fd_Lprogram P_Lprogram (spD K w g (F_Lprogram g))) (G_is_proof : FnOk P w K mg base CX0 k t.f_is_proof t.fd_is_proof P_is_proof (spD K w g (F_is_proof g))) (G_is_repeat_proof : FnOk P w K mg base CX0 k t.f_is_repeat_proof t.fd_is_repeat_proof P_is_repeat_proof (spD K w g (F_is_repeat_proof g))) (G_proofed : FnOk P w K mg base CX0 k t.f_proofed t.fd_proofed P_proofed (spD K w g (F_proofed g))) (G_Levery_loss : FnOk P w K mg base CX0 k t.f_Levery_loss t.fd_Levery_loss P_Levery_loss (spD K w g (F_Levery_loss g))) (G_shortest_gentle : FnOk P w K mg base CX0 k t.f_shortest_gentle t.fd_shortest_gentle P_shortest_gentle (spD K w g (F_shortest_gentle g))) (A : Around) (outer : List Env) (s : Shared) (H : Hp) (E : XK) (hr : Room (k + 1) (A.deeper (envOfC "law" (defScope s_law) s.heap.objs.size t.f_law (.ref t.cc_law)))) : DSs g (cxOf CX0 P w K mg base N_law "law" (defScope s_law) t.f_law (.ref t.cc_law) A outer s H E).nox ((defBody s_law).drop 8) (fb_lawB g) := by
  have scN : N_law.Nodup := sc_law.nd
  have hr1 := hr.mono (Nat.le_succ k)
  exact (dss_cons (ds_set (i := 8) scN (de_call G_shortest_gentle hr1 rfl t.m_shortest_gentle t.k_shortest_gentle t.b_shortest_gentle (da_cons (de_var 2) (da_cons (de_var 3) da_nil))))
    (dss_cons (ds_if (dx_bool (dw_and (dx_truth (de_var 6)) (dw_and1 (dx_cmp od_gt (de_op od_mul (de_var 4) (de_op od_add (de_var 5) (de_int))) (de_int))))) (dss_cons (ds_ret (de_and (de_cmp (od_eq (u64 hr)) (de_var 7) (de_str)) (de_one (de_cmp od_is (de_call G_is_repeat_proof hr1 rfl t.m_is_repeat_proof t.k_is_repeat_proof t.b_is_repeat_proof (da_cons (de_var 2) (da_cons (de_var 8) (da_cons (de_var 5) (da_cons (de_var 3) da_nil))))) (de_bl)))))
    dss_nil) dss_nil)
    (dss_cons (ds_if (dx_bool (dw_and (dx_not (dx_truth (de_var 6))) (dw_and1 (dx_bool (dw_or (dx_cmp (od_ne (u64 hr)) (de_var 7) (de_str)) (dw_or1 (dx_cmp od_isnot (de_var 8) (de_non)))))))) (dss_cons (ds_ret (de_bl))
    dss_nil) dss_nil)
    (dss_cons (ds_if (dx_truth (de_var 6)) (dss_cons (ds_if (dx_cmp od_isnot (de_call G_is_proof hr1 rfl t.m_is_proof t.k_is_proof t.b_is_proof (da_cons (de_var 2) (da_cons (de_var 7) (da_cons (de_var 5) (da_cons (de_var 3) da_nil))))) (de_bl)) (dss_cons (ds_ret (de_bl))
    dss_nil) dss_nil)
    (dss_cons (ds_if (dx_cmp od_isnot (de_call G_is_repeat_proof hr1 rfl t.m_is_repeat_proof t.k_is_repeat_proof t.b_is_repeat_proof (da_cons (de_var 2) (da_cons (de_var 8) (da_cons (de_var 5) (da_cons (de_var 3) da_nil))))) (de_bl)) (dss_cons (ds_ret (de_bl))
    dss_nil) dss_nil)
    (dss_cons (ds_if (dx_cmp (od_ne (u64 hr)) (de_call G_proofed hr1 rfl t.m_proofed t.k_proofed t.b_proofed (da_cons (de_var 2) (da_cons (de_var 8) (da_cons (de_var 5) da_nil)))) (de_call G_Ltimes hr1 rfl t.m_Ltimes t.k_Ltimes t.b_Ltimes (da_cons (de_var 8) (da_cons (de_op od_add (de_var 5) (de_int)) da_nil)))) (dss_cons (ds_ret (de_bl))
    dss_nil) dss_nil)
    (dss_cons (ds_if (dx_cmp od_lt (de_callB cr_len rfl t.n_len bt_len (da_cons (de_var 7) da_nil)) (de_int)) (dss_cons (ds_for PassesOwn.never rfl (di_list (de_call G_Levery_loss hr1 rfl t.m_Levery_loss t.k_Levery_loss t.b_Levery_loss (da_cons (de_callB cr_len rfl t.n_len bt_len (da_cons (de_var 7) da_nil)) (da_cons (de_var 5) da_nil)))) (dg_n scN (i := 9)) (dss_cons (ds_set (i := 10) scN (de_call G_Lran hr1 rfl t.m_Lran t.k_Lran t.b_Lran (da_cons (de_var 2) (da_cons (de_var 7) (da_cons (de_var 9) da_nil)))))
    (dss_cons (ds_if (dx_gc (dx_cmp (od_ne (u64 hr)) (de_lc rfl scN  (di_tup (de_var 3)) (blkOk_by (N := N_law) (sc := defScope s_law) (own := [("_law_cell", 11), ("_law_term", 12)]) (by decide +kernel)) (fun _ _ _ _ _ => (dg_t rfl (dgs_cons (dg_n scN (i := 11)) (dgs_cons (dg_n scN (i := 12)) dgs_nil)))) (fun _ _ _ _ _ => (dts_one (dx_cmp (od_ne (u64 hr)) (de_ix (de_var 10) (de_var 11) (fun _ _ => rfl)) (de_var 12)))) (fun _ _ _ _ _ => (de_int))) (de_lst da_nil))) (dss_cons (ds_ret (de_bl))
    dss_nil) dss_nil)
    dss_nil)))
    dss_nil) dss_nil)
    dss_nil)))) dss_nil)
    (dss_cons (ds_set (i := 13) scN (de_call G_Ltame hr1 rfl t.m_Ltame t.k_Ltame t.b_Ltame (da_cons (de_var 2) (da_cons (de_call G_Lprogram hr1 rfl t.m_Lprogram t.k_Lprogram t.b_Lprogram (da_cons (de_var 1) (da_cons (de_var 2) (da_cons (de_int) da_nil)))) da_nil))))
    (dss_cons (ds_if (dx_cmp (od_eq (u64 hr)) (de_call G_Ltaken hr1 rfl t.m_Ltaken t.k_Ltaken t.b_Ltaken (da_cons (de_var 1) (da_cons (de_int) da_nil))) (de_int)) (dss_cons (ds_set (i := 13) scN (de_call G_Ltame hr1 rfl t.m_Ltame t.k_Ltame t.b_Ltame (da_cons (de_var 2) (da_cons (de_call G_Ltimes hr1 rfl t.m_Ltimes t.k_Ltimes t.b_Ltimes (da_cons (de_cut (de_var 13) do_none (do_some (de_int))) (da_cons (de_int) da_nil))) da_nil))))
    dss_nil) dss_nil)
    (dss_cons (ds_set (i := 14) scN (de_call G_Lshown hr1 rfl t.m_Lshown t.k_Lshown t.b_Lshown (da_cons (de_var 2) (da_cons (de_var 13) (da_cons (de_var 3) da_nil)))))
    (dss_cons (ds_if (dx_cmp od_is (de_var 14) (de_non)) (dss_cons (ds_ret (de_bl))
    dss_nil) dss_nil)
    (dss_cons (ds_if (dx_bool (dw_or (dx_gc (dx_cmp (od_ne (u64 hr)) (de_lc rfl scN  (di_list (de_var 14)) (blkOk_by (N := N_law) (sc := defScope s_law) (own := [("_law_line", 15)]) (by decide +kernel)) (fun _ _ _ _ _ => (dg_n scN (i := 15))) (fun _ _ _ _ _ => (dts_one (dx_cmp (od_in (u65 hr)) (de_ix (de_var 15) (de_int) (fun _ _ => rfl)) (de_ix (de_var 15) (de_int) (fun _ _ => rfl))))) (fun _ _ _ _ _ => (de_var 15))) (de_lst da_nil))) (dw_or1 (dx_not (dx_truth (de_var 6)))))) (dss_cons (ds_ret (de_bl))
    dss_nil) dss_nil)
    (dss_cons (ds_set (i := 10) scN (de_call G_Lran hr1 rfl t.m_Lran t.k_Lran t.b_Lran (da_cons (de_var 2) (da_cons (de_callTy cr_tupleOf rfl t.n_tuple bt_tuple (da_cons (de_var 14) da_nil)) (da_cons (de_tup da_nil) da_nil)))))
    (dss_cons (ds_ret (de_gc (de_cmp (od_eq (u64 hr)) (de_lc rfl scN  (di_tup (de_var 3)) (blkOk_by (N := N_law) (sc := defScope s_law) (own := [("_law_cell", 11), ("_law_term", 12)]) (by decide +kernel)) (fun _ _ _ _ _ => (dg_t rfl (dgs_cons (dg_n scN (i := 11)) (dgs_cons (dg_n scN (i := 12)) dgs_nil)))) (fun _ _ _ _ _ => (dts_one (dx_cmp (od_ne (u64 hr)) (de_ix (de_var 10) (de_var 11) (fun _ _ => rfl)) (de_var 12)))) (fun _ _ _ _ _ => (de_int))) (de_lst da_nil))))
    dss_nil)))))))))))
def fb_lawA (g : Gp) (mid : BD) : BD :=
  (bSeq (bSet 1 (dLst (dCons (dVar 0) (dCons (dC (.dat (.num 0))) (dCons (dC (.dat (.num 900))) (dCons (dC (.dat (.num 0))) dNil))))))
    (bSeq (bSet 2 (dCall (F_Lmachine g) (dCons (dVar 1) dNil)))
    (bSeq (bSet 3 (dCall (F_Lwishes g) (dCons (dVar 1) (dCons (dVar 2) dNil))))
    (bSeq (bIf (dTest (dOp opGt (dCall (fLen g) (dCons (dCall (F_Lparts g) (dCons (dVar 3) dNil)) dNil)) (dC (.dat (.num 10))))) (bSeq (bRet (dC (.bl true)))
    bNext) bNext)
    (bSeq (bAsg (dTup (dCons (dCall (F_Lfewest g) (dCons (dVar 2) (dCons (dVar 3) (dCons (dC (.bl true)) dNil)))) (dCons (dOp opAdd (dC (.dat (.num 1))) (dCall (F_Ltaken g) (dCons (dVar 1) (dCons (dC (.dat (.num 3))) dNil)))) dNil))) (gT 2 (gsCons (gN 4) (gsCons (gN 5) gsNil))))
    (bSeq (bSet 6 (dOp (opIs true) (dVar 4) (dC (.dat .none))))
    (bSeq (bIf (xNot (dTruth (dCall (F_Lalike g) (dCons (dCall (F_can_be_proof g) (dCons (dVar 2) (dCons (dVar 3) dNil))) (dCons (dVar 6) dNil))))) (bSeq (bRet (dC (.bl false)))
    bNext) bNext)
    mid)))))))
theorem dv_lawA {P : Program} {w : World} {K : PySem.W.Frag} {mg : Str → Option Value} {base : Heap} {g : Gp} (t : Tx K mg g) (tb : TxB base mg t) {k : Nat} (G_Lmachine : FnOk P w K mg base CX0 k t.f_Lmachine t.fd_Lmachine P_Lmachine (spD K w g (F_Lmachine g))) (G_Lwishes : FnOk P w K mg base CX0 k t.f_Lwishes t.fd_Lwishes P_Lwishes (spD K w g (F_Lwishes g))) (G_Lparts : FnOk P w K mg base CX0 k t.f_Lparts t.fd_Lparts P_Lparts (spD K w g (F_Lparts g))) (G_Lfewest : FnOk P w K mg base CX0 k t.f_Lfewest t.fd_Lfewest P_Lfewest (spD K w g (F_Lfewest g))) (G_Ltaken : FnOk P w K mg base CX0 k t.f_Ltaken t.fd_Ltaken P_Ltaken (spD K w g (F_Ltaken g))) (G_can_be_proof : FnOk P w K mg base CX0 k t.f_can_be_proof t.fd_can_be_proof P_can_be_proof (spD K w g (F_can_be_proof g))) (G_Lalike : FnOk P w K mg base CX0 k t.f_Lalike t.fd_Lalike P_Lalike (spD K w g (F_Lalike g))) (A : Around) (outer : List Env) (s : Shared) (H : Hp) (E : XK) (hr : Room (k + 1) (A.deeper (envOfC "law" (defScope s_law) s.heap.objs.size t.f_law (.ref t.cc_law)))) {mid : BD} (tail : PSs (cxOf CX0 P w K mg base N_law "law" (defScope s_law) t.f_law (.ref t.cc_law) A outer s H E).nox ((defBody s_law).drop 7) (tSq K w g mid)) : PSs (cxOf CX0 P w K mg base N_law "law" (defScope s_law) t.f_law (.ref t.cc_law) A outer s H E).nox (defBody s_law) (tSq K w g (fb_lawA g mid)) := by
  have scN : N_law.Nodup := sc_law.nd
  have hr1 := hr.mono (Nat.le_succ k)
  exact (dssq_cons (ds_set (i := 1) scN (de_lst (da_cons (de_var 0) (da_cons (de_int) (da_cons (de_int) (da_cons (de_int) da_nil))))))
    (dssq_cons (ds_set (i := 2) scN (de_call G_Lmachine hr1 rfl t.m_Lmachine t.k_Lmachine t.b_Lmachine (da_cons (de_var 1) da_nil)))
    (dssq_cons (ds_set (i := 3) scN (de_call G_Lwishes hr1 rfl t.m_Lwishes t.k_Lwishes t.b_Lwishes (da_cons (de_var 1) (da_cons (de_var 2) da_nil))))
    (dssq_cons (ds_if (dx_cmp od_gt (de_callB cr_len rfl t.n_len bt_len (da_cons (de_call G_Lparts hr1 rfl t.m_Lparts t.k_Lparts t.b_Lparts (da_cons (de_var 3) da_nil)) da_nil)) (de_int)) (dss_cons (ds_ret (de_bl))
    dss_nil) dss_nil)
    (dssq_cons (ds_asg (de_tup (da_cons (de_call G_Lfewest hr1 rfl t.m_Lfewest t.k_Lfewest t.b_Lfewest (da_cons (de_var 2) (da_cons (de_var 3) (da_cons (de_bl) da_nil)))) (da_cons (de_op od_add (de_int) (de_call G_Ltaken hr1 rfl t.m_Ltaken t.k_Ltaken t.b_Ltaken (da_cons (de_var 1) (da_cons (de_int) da_nil)))) da_nil))) (dg_t rfl (dgs_cons (dg_n scN (i := 4)) (dgs_cons (dg_n scN (i := 5)) dgs_nil))))
    (dssq_cons (ds_set (i := 6) scN (de_cmp od_isnot (de_var 4) (de_non)))
    (dssq_cons (ds_if (dx_not (dx_truth (de_call G_Lalike hr1 rfl t.m_Lalike t.k_Lalike t.b_Lalike (da_cons (de_call G_can_be_proof hr1 rfl t.m_can_be_proof t.k_can_be_proof t.b_can_be_proof (da_cons (de_var 2) (da_cons (de_var 3) da_nil))) (da_cons (de_var 6) da_nil))))) (dss_cons (ds_ret (de_bl))
    dss_nil) dss_nil)
    tail)))))))
-- A: Lmachine Lwishes Lparts Lfewest Ltaken can_be_proof Lalike
-- B: Lshown Lran Ltaken Ltimes Ltame Lprogram is_proof is_repeat_proof proofed Levery_loss shortest_gentle
/-- behind the lambda: the law's table is no more told of -/
abbrev g1 (g : Gp) : Gp := { g with L := [] }
theorem RS.lam {K : PySem.W.Frag} {w : World} {g : Gp} {m : List Addr} {S : Sto} {H H1 : Hp} {P c' : Addr} {ps : Array Value} (R : RS K w g m S H) (hP : H P = some (.tbl #[])) (hZ : P ∉ g.Z) (h1 : H1 P = some (.tbl ps)) (h2 : H c' = none) (h3 : ∀ b, b ≠ P → b ≠ c' → H1 b = H b) :
    RS K w (g1 g) m S H1 ∧ Le m H m H1 := by
  have at_ : ∀ {b : Addr} {o : HO}, H b = some o → (∀ q, o ≠ .tbl q) → H1 b = some o := fun {b o} e n => by
    rw [h3 b (fun z => by subst z; rw [hP] at e; exact n _ (Option.some.inj e).symm) (fun z => by subst z; rw [h2] at e; cases e)]; exact e
  have Lm : Le m H m H1 := ⟨List.prefix_refl m, fun b xs e => at_ e (fun q z => by cases z), fun b o hb e => by
    by_cases hb : b = P
    · subst hb
      rw [hP] at e; cases e
      exact ⟨_, h1, fun z => absurd rfl (z #[])⟩
    · exact ⟨o, (h3 b hb (fun z => by subst z; rw [h2] at e; cases e)).trans e, fun _ => rfl⟩, fun b hb => .inl hb⟩
  refine ⟨⟨R.len, R.nd, fun n a o e1 e2 => ?_, fun Q hQ => ?_, fun Q hQ => (nomatch hQ), ?_⟩, Lm⟩
  · have ro := R.obj n a o e1 e2
    obtain ⟨u, hu, ku⟩ := ro.kind
    exact ro.mono Lm ((at_ hu fun q z => by subst z; exact ku).trans hu.symm)
  · obtain ⟨qs, e, t⟩ := R.tz Q hQ
    exact ⟨qs, (h3 Q (fun z => hZ (z ▸ hQ)) (fun z => by rw [z, h2] at e; cases e)).trans e, t⟩
  · rcases R.sc with ⟨u, e, k, n⟩ | q
    · exact .inl ⟨u, at_ e (fun q z => by rcases k with rfl | ⟨o, rfl⟩ <;> cases z), k, n⟩
    · exact .inr q
abbrev endT : EndsD := { nx := fun _ _ => False, rt := fun d _ => d = .bl true }
theorem endT_ok {K : PySem.W.Frag} {w : World} {g : Gp} {m : List Addr} {H : Hp} {D : Ends} (hq : ∀ H', D.rt (.bl true) H') : EndsOk K w g m H endT D :=
  ⟨fun _ _ _ _ _ q => q.elim, fun d S m' H' v q _ _ rd => by subst q; cases (show v = .bl true from rd); exact hq H', fun _ _ _ _ _ q => q.elim, fun _ _ _ _ _ q => q.elim⟩
/-- what is asked of the call of proof_program -/
def TolD (fB : BD) (σ : SD) (S : Sto) : Prop := dCons (dVar 2) (dCons (dVar 5) (dCons (dVar 3) dNil)) σ S fun ds S1 => FX_proof_program ds S1 (fun d S2 => fB endT (σ.set 7 (some d)) S2)
  fun b S2 => fB endT (σ.set 7 (some (.dat (.text (match b with | true => "none" | false => "other"))))) S2
theorem law_tail {P : Program} {w : World} {K : PySem.W.Frag} {mg : Str → Option Value} {base : Heap} {g : Gp} (t : Tx K mg g) (tb : TxB base mg t) (e : TxE K mg) {k : Nat} (hL : t.pt_law ∈ g.L) (hZ : t.pt_law ∉ g.Z)
    (G : FnOk P w K mg base (CX P w) k t.f_proof_program t.fd_proof_program P_proof_program (spX K w (g1 g) e FX_proof_program)) (A : Around) (outer : List Env) (s : Shared) (H : Hp) (E : XK) (hr : Room (k + 2) (A.deeper (envOfC "law" (defScope s_law) s.heap.objs.size t.f_law (.ref t.cc_law)))) {fB : BD}
    (hB : PSs (cxOf CX0 P w K mg base N_law "law" (defScope s_law) t.f_law (.ref t.cc_law) A outer s H E).nox ((defBody s_law).drop 8) (tS K w (g1 g) fB)) :
    PSs (cxOf CX0 P w K mg base N_law "law" (defScope s_law) t.f_law (.ref t.cc_law) A outer s H E).nox ((defBody s_law).drop 7) (tSq K w g fun _ σ S => TolD fB σ S) := by
  have scN : N_law.Nodup := sc_law.nd
  have tB : LamX.TabB base mg t.cc_law t.pt_law := ⟨tb.tb_law.code, tb.tb_law.bm, tb.tb_law.gP⟩
  refine (pss_cons (ps_set (X := (cxOf CX0 P w K mg base N_law "law" (defScope s_law) t.f_law (.ref t.cc_law) A outer s H E).nox) (i := 7) scN rfl (.inl rfl)
    (pe_told (X := (cxOf CX0 P w K mg base N_law "law" (defScope s_law) t.f_law (.ref t.cc_law) A outer s H E).nox) t e tB rfl rfl hr (LamX.lamS_by (sc := defScope s_law) (by decide +kernel)) rfl (fun _ _ _ _ _ => rfl)
      (tt := fun E => tCallS (spX K w (g1 g) e FX_proof_program) (fun _ => E) (tA K w (g1 g) (dCons (dVar 2) (dCons (dVar 5) (dCons (dVar 3) dNil))))) (fun A' outer' s' H' E' f c' hr' => ?_))) hB).imp ?_
  · exact pe_callS G hr' rfl t.m_proof_program t.k_proof_program t.b_proof_program (fun σ => passAt (W := fun cls d _ H => E' cls d H) (takes_of rfl rfl rfl rfl) σ) (da_cons (g := g1 g) (de_var 2) (da_cons (de_var 5) (da_cons (de_var 3) da_nil)))
  · intro D σv H0 ⟨hq, m, σ, S, D0, R, Rl, hm, _⟩
    refine ⟨R.tl _ hL, fun H1 c' ps h1 h2 h3 => ?_⟩
    obtain ⟨R1, L1⟩ := R.lam (R.tl _ hL) hZ h1 h2 h3
    refine ⟨m, σ, S, _, R1, Rl.mono L1, hm, fun ds S2 m2 H2 vs q L2 R2 rs => ⟨m2, S2, ds, _, _, R2, rs, q, ⟨fun d S' m' H' v q' L R' rd => ?_⟩, ⟨fun S' m' H' q' L R' => ?_, fun S' m' H' d fs q' L R' hx => ?_⟩⟩⟩
    · exact ⟨v, rfl, m', _, S', endT, R', ((Rl.mono L1).mono (L2.trans L)).set 7 rd, q', endT_ok hq⟩
    · exact .inl ⟨rfl, rfl, m', _, S', endT, R', ((Rl.mono L1).mono (L2.trans L)).set 7 (show RD _ _ (.dat (.text _)) (.str _) from RT.text _), q', endT_ok hq⟩
    · exact .inr ⟨rfl, d, fs, rfl, hx, m', _, S', endT, R', ((Rl.mono L1).mono (L2.trans L)).set 7 (show RD _ _ (.dat (.text _)) (.str _) from RT.text _), q', endT_ok hq⟩
end L2.LL

/-! # LLD5 -/
set_option Elab.async false
set_option linter.all false
set_option maxRecDepth 100000
set_option maxHeartbeats 2000000
namespace L2.LL
open PySem PySem.Spec PyProof.Rows
/-- _law_taken -/
theorem sc_Ltaken : FnScope N_Ltaken P_Ltaken (defScope s_Ltaken) := ⟨rfl, rfl, rfl, by decide +kernel, rfl, by decide +kernel, by decide +kernel⟩
def fb_Ltaken (g : Gp) : BD :=
  (bSeq (bIf (dTest (dOp opGt (dOp (opIx g) (dVar 0) (dC (.dat (.num 3)))) (dC (.dat (.num 0))))) (bSeq (bSet 2 (dOp opMod (dCall fInt (dCons (dOp (opIx g) (dVar 0) (dC (.dat (.num 3)))) dNil)) (dVar 1)))
    (bSeq (bSetIx setIx (dOp opFdiv (dOp (opIx g) (dVar 0) (dC (.dat (.num 3)))) (dVar 1)) (dVar 0) (dC (.dat (.num 3))))
    (bSeq (bRet (dVar 2))
    bNext))) bNext)
    (bSeq (bSetIx setIx (dOp opAdd (dOp (opIx g) (dVar 0) (dC (.dat (.num 1)))) (dC (.dat (.num 1)))) (dVar 0) (dC (.dat (.num 1))))
    (bSeq (bIf (dTest (dOp opGt (dOp (opIx g) (dVar 0) (dC (.dat (.num 1)))) (dCall (fLen g) (dCons (dOp (opIx g) (dVar 0) (dC (.dat (.num 0)))) dNil)))) (bSeq (bSetIx setIx (dOp opMod (dCall fInt (dCons (dOp opAdd (dOp opMul (dOp (opIx g) (dVar 0) (dC (.dat (.num 2)))) (dC (.dat (.num 48271)))) (dC (.dat (.num 11)))) dNil)) (dC (.dat (.num 2147483647)))) (dVar 0) (dC (.dat (.num 2))))
    (bSeq (bRet (dOp opMod (dCall fInt (dCons (dOp opFdiv (dOp (opIx g) (dVar 0) (dC (.dat (.num 2)))) (dC (.dat (.num 7)))) dNil)) (dVar 1)))
    bNext)) bNext)
    (bSeq (bSet 3 (dOp (opIx g) (dOp (opIx g) (dVar 0) (dC (.dat (.num 0)))) (dOp opSub (dOp (opIx g) (dVar 0) (dC (.dat (.num 1)))) (dC (.dat (.num 1))))))
    (bSeq (bSetIx setIx (dOp opMod (dCall fInt (dCons (dOp opAdd (dOp opAdd (dOp opMul (dOp (opIx g) (dVar 0) (dC (.dat (.num 2)))) (dC (.dat (.num 48271)))) (dVar 3)) (dC (.dat (.num 11)))) dNil)) (dC (.dat (.num 2147483647)))) (dVar 0) (dC (.dat (.num 2))))
    (bSeq (bIf (dTest (dOp opGe (dVar 3) (dOp opPow (dC (.dat (.num 10))) (dC (.dat (.num 18)))))) (bSeq (bSetIx setIx (dOp opFdiv (dVar 3) (dVar 1)) (dVar 0) (dC (.dat (.num 3))))
    bNext) bNext)
    (bSeq (bRet (dOp opMod (dCall fInt (dCons (dVar 3) dNil)) (dVar 1)))
    bNext)))))))
theorem dv_Ltaken {P : Program} {w : World} {K : PySem.W.Frag} {mg : Str → Option Value} {base : Heap} {g : Gp} (t : Tx K mg g) {k : Nat} (A : Around) (outer : List Env) (s : Shared) (H : Hp) (E : XK)
    (hr : Room (k) (A.deeper (envOfC "_law_taken" (defScope s_Ltaken) s.heap.objs.size t.f_Ltaken t.cd_Ltaken))) : DSs g (cxOf CX0 P w K mg base N_Ltaken "_law_taken" (defScope s_Ltaken) t.f_Ltaken t.cd_Ltaken A outer s H E).nox (defBody s_Ltaken) (fb_Ltaken g) := by
  have scN : N_Ltaken.Nodup := sc_Ltaken.nd
  exact (dss_cons (ds_if (dx_cmp od_gt (de_ix (de_var 0) (de_int) (fun _ _ => rfl)) (de_int)) (dss_cons (ds_set (i := 2) scN (de_op od_mod (de_callTy cr_int rfl t.n_int bt_int (da_cons (de_ix (de_var 0) (de_int) (fun _ _ => rfl)) da_nil)) (de_var 1)))
    (dss_cons (ds_setIx pset_L (de_op od_fdiv (de_ix (de_var 0) (de_int) (fun _ _ => rfl)) (de_var 1)) (de_var 0) (de_int))
    (dss_cons (ds_ret (de_var 2))
    dss_nil))) dss_nil)
    (dss_cons (ds_setIx pset_L (de_op od_add (de_ix (de_var 0) (de_int) (fun _ _ => rfl)) (de_int)) (de_var 0) (de_int))
    (dss_cons (ds_if (dx_cmp od_gt (de_ix (de_var 0) (de_int) (fun _ _ => rfl)) (de_callB cr_len rfl t.n_len bt_len (da_cons (de_ix (de_var 0) (de_int) (fun _ _ => rfl)) da_nil))) (dss_cons (ds_setIx pset_L (de_op od_mod (de_callTy cr_int rfl t.n_int bt_int (da_cons (de_op od_add (de_op od_mul (de_ix (de_var 0) (de_int) (fun _ _ => rfl)) (de_int)) (de_int)) da_nil)) (de_int)) (de_var 0) (de_int))
    (dss_cons (ds_ret (de_op od_mod (de_callTy cr_int rfl t.n_int bt_int (da_cons (de_op od_fdiv (de_ix (de_var 0) (de_int) (fun _ _ => rfl)) (de_int)) da_nil)) (de_var 1)))
    dss_nil)) dss_nil)
    (dss_cons (ds_set (i := 3) scN (de_ix (de_ix (de_var 0) (de_int) (fun _ _ => rfl)) (de_op od_sub (de_ix (de_var 0) (de_int) (fun _ _ => rfl)) (de_int)) (fun _ _ => rfl)))
    (dss_cons (ds_setIx pset_L (de_op od_mod (de_callTy cr_int rfl t.n_int bt_int (da_cons (de_op od_add (de_op od_add (de_op od_mul (de_ix (de_var 0) (de_int) (fun _ _ => rfl)) (de_int)) (de_var 3)) (de_int)) da_nil)) (de_int)) (de_var 0) (de_int))
    (dss_cons (ds_if (dx_cmp od_ge (de_var 3) (de_op od_pow (de_int) (de_int))) (dss_cons (ds_setIx pset_L (de_op od_fdiv (de_var 3) (de_var 1)) (de_var 0) (de_int))
    dss_nil) dss_nil)
    (dss_cons (ds_ret (de_op od_mod (de_callTy cr_int rfl t.n_int bt_int (da_cons (de_var 3) da_nil)) (de_var 1)))
    dss_nil)))))))
/-- _law_machine -/
theorem sc_Lmachine : FnScope N_Lmachine P_Lmachine (defScope s_Lmachine) := ⟨rfl, rfl, rfl, by decide +kernel, rfl, by decide +kernel, by decide +kernel⟩
def fb_Lmachine (g : Gp) : BD :=
  (bSeq (bPar 1 2 (dCons (dOp opAdd (dC (.dat (.num 1))) (dCall (F_Ltaken g) (dCons (dVar 0) (dCons (dC (.dat (.num 3))) dNil)))) (dCons (dOp opAdd (dC (.dat (.num 1))) (dCall (F_Ltaken g) (dCons (dVar 0) (dCons (dC (.dat (.num 2))) dNil)))) dNil)))
    (bSeq (bRet (dTup (dCons (dVar 1) (dCons (dGc (dCall fTupleOf (dCons (dLc (iRg (rg1 (dVar 2))) (gN 3) xYes (dOp opAdd (dC (.dat (.num 1))) (dCall (F_Ltaken g) (dCons (dVar 0) (dCons (dC (.dat (.num 2))) dNil)))) [3]) dNil))) dNil))))
    bNext))
theorem dv_Lmachine {P : Program} {w : World} {K : PySem.W.Frag} {mg : Str → Option Value} {base : Heap} {g : Gp} (t : Tx K mg g) {k : Nat} (G_Ltaken : FnOk P w K mg base CX0 k t.f_Ltaken t.fd_Ltaken P_Ltaken (spD K w g (F_Ltaken g))) (A : Around) (outer : List Env) (s : Shared) (H : Hp) (E : XK)
    (hr : Room (k) (A.deeper (envOfC "_law_machine" (defScope s_Lmachine) s.heap.objs.size t.f_Lmachine t.cd_Lmachine))) : DSs g (cxOf CX0 P w K mg base N_Lmachine "_law_machine" (defScope s_Lmachine) t.f_Lmachine t.cd_Lmachine A outer s H E).nox (defBody s_Lmachine) (fb_Lmachine g) := by
  have scN : N_Lmachine.Nodup := sc_Lmachine.nd
  exact (dss_cons (ds_par (i := 1) (j := 2) rfl scN (da_cons (de_op od_add (de_int) (de_call G_Ltaken hr rfl t.m_Ltaken t.k_Ltaken t.b_Ltaken (da_cons (de_var 0) (da_cons (de_int) da_nil)))) (da_cons (de_op od_add (de_int) (de_call G_Ltaken hr rfl t.m_Ltaken t.k_Ltaken t.b_Ltaken (da_cons (de_var 0) (da_cons (de_int) da_nil)))) da_nil)))
    (dss_cons (ds_ret (de_tup (da_cons (de_var 1) (da_cons (de_gc (de_callTy cr_tupleOf rfl t.n_tuple bt_tuple (da_cons (de_lc rfl scN  (di_rg1 rfl t.n_range (de_var 2)) (blkOk_by (N := N_Lmachine) (sc := defScope s_Lmachine) (own := [("_law_function", 3)]) (by decide +kernel)) (fun _ _ _ _ _ => (dg_n scN (i := 3))) (fun _ _ _ _ _ => dts_nil) (fun _ _ _ _ _ => (de_op od_add (de_int) (de_call G_Ltaken hr rfl t.m_Ltaken t.k_Ltaken t.b_Ltaken (da_cons (de_var 0) (da_cons (de_int) da_nil)))))) da_nil))) da_nil))))
    dss_nil))
/-- _law_did -/
theorem sc_Ldid : FnScope N_Ldid P_Ldid (defScope s_Ldid) := ⟨rfl, rfl, rfl, by decide +kernel, rfl, by decide +kernel, by decide +kernel⟩
def fb_Ldid (g : Gp) : BD :=
  (bSeq (bAsg (dVar 1) (gT 3 (gsCons (gN 2) (gsCons (gN 3) (gsCons (gN 4) gsNil)))))
    (bSeq (bSet 5 (dIf (dTest (dOp (opIs false) (dVar 3) (dC (.dat .none)))) (dOp (opIx g) (dVar 0) (dOp (opIx g) (dVar 4) (dC (.dat (.num 0))))) (dOp opAdd (dTup (dCons (dVar 3) dNil)) (dGc (dCall fTupleOf (dCons (dLc (iT (dVar 4)) (gN 6) xYes (dOp (opIx g) (dVar 0) (dVar 6)) [6]) dNil))))))
    (bSeq (bRet (dOp opAdd (dOp opAdd (dCut (dVar 0) oNo (oAt (dVar 2))) (dTup (dCons (dVar 5) dNil))) (dCut (dVar 0) (oAt (dOp opAdd (dVar 2) (dC (.dat (.num 1))))) oNo)))
    bNext)))
theorem dv_Ldid {P : Program} {w : World} {K : PySem.W.Frag} {mg : Str → Option Value} {base : Heap} {g : Gp} (t : Tx K mg g) {k : Nat} (A : Around) (outer : List Env) (s : Shared) (H : Hp) (E : XK)
    (hr : Room (k) (A.deeper (envOfC "_law_did" (defScope s_Ldid) s.heap.objs.size t.f_Ldid t.cd_Ldid))) : DSs g (cxOf CX0 P w K mg base N_Ldid "_law_did" (defScope s_Ldid) t.f_Ldid t.cd_Ldid A outer s H E).nox (defBody s_Ldid) (fb_Ldid g) := by
  have scN : N_Ldid.Nodup := sc_Ldid.nd
  exact (dss_cons (ds_asg (de_var 1) (dg_t rfl (dgs_cons (dg_n scN (i := 2)) (dgs_cons (dg_n scN (i := 3)) (dgs_cons (dg_n scN (i := 4)) dgs_nil)))))
    (dss_cons (ds_set (i := 5) scN (de_if (dx_cmp od_is (de_var 3) (de_non)) (de_ix (de_var 0) (de_ix (de_var 4) (de_int) (fun _ _ => rfl)) (fun _ _ => rfl)) (de_op od_add (de_tup (da_cons (de_var 3) da_nil)) (de_gc (de_callTy cr_tupleOf rfl t.n_tuple bt_tuple (da_cons (de_lc rfl scN  (di_tup (de_var 4)) (blkOk_by (N := N_Ldid) (sc := defScope s_Ldid) (own := [("_law_one", 6)]) (by decide +kernel)) (fun _ _ _ _ _ => (dg_n scN (i := 6))) (fun _ _ _ _ _ => dts_nil) (fun _ _ _ _ _ => (de_ix (de_var 0) (de_var 6) (fun _ _ => rfl)))) da_nil))))))
    (dss_cons (ds_ret (de_op od_add (de_op od_add (de_cut (de_var 0) do_none (do_some (de_var 2))) (de_tup (da_cons (de_var 5) da_nil))) (de_cut (de_var 0) (do_some (de_op od_add (de_var 2) (de_int))) do_none)))
    dss_nil)))
/-- _law_deep -/
theorem sc_Ldeep : FnScope N_Ldeep P_Ldeep (defScope s_Ldeep) := ⟨rfl, rfl, rfl, by decide +kernel, rfl, by decide +kernel, by decide +kernel⟩
def fb_Ldeep (g : Gp) (FR : FD) : BD :=
  (bSeq (bIf (xNot (dTruth (dCall fIsi (dCons (dVar 0) (dCons (dC (.raw (.ty "tuple"))) dNil))))) (bSeq (bRet (dC (.dat (.num 1))))
    bNext) bNext)
    (bSeq (bRet (dOp opAdd (dC (.dat (.num 1))) (dGc (dCall fMax (dCons (dLc (iT (dCut (dVar 0) (oAt (dC (.dat (.num 1)))) oNo)) (gN 1) xYes (dCall FR (dCons (dVar 1) dNil)) [1]) dNil)))))
    bNext))
theorem dv_Ldeep {P : Program} {w : World} {K : PySem.W.Frag} {mg : Str → Option Value} {base : Heap} {g : Gp} {FR : FD} (t : Tx K mg g) {k : Nat} (G_Ldeep : FnOk P w K mg base CX0 k t.f_Ldeep t.fd_Ldeep P_Ldeep (spD K w g FR)) (A : Around) (outer : List Env) (s : Shared) (H : Hp) (E : XK)
    (hr : Room (k) (A.deeper (envOfC "_law_deep" (defScope s_Ldeep) s.heap.objs.size t.f_Ldeep t.cd_Ldeep))) : DSs g (cxOf CX0 P w K mg base N_Ldeep "_law_deep" (defScope s_Ldeep) t.f_Ldeep t.cd_Ldeep A outer s H E).nox (defBody s_Ldeep) (fb_Ldeep g FR) := by
  have scN : N_Ldeep.Nodup := sc_Ldeep.nd
  exact (dss_cons (ds_if (dx_not (dx_truth (de_callB cr_isi rfl t.n_isinstance bt_isinstance (da_cons (de_var 0) (da_cons (de_ty rfl t.n_tuple bt_tuple) da_nil))))) (dss_cons (ds_ret (de_int))
    dss_nil) dss_nil)
    (dss_cons (ds_ret (de_op od_add (de_int) (de_gc (de_callB (cr_maxD' rfl) rfl t.n_max bt_max (da_cons (de_lc rfl scN  (di_tup (de_cut (de_var 0) (do_some (de_int)) do_none)) (blkOk_by (N := N_Ldeep) (sc := defScope s_Ldeep) (own := [("_law_part", 1)]) (by decide +kernel)) (fun _ _ _ _ _ => (dg_n scN (i := 1))) (fun _ _ _ _ _ => dts_nil) (fun _ _ _ _ _ => (de_call G_Ldeep hr rfl t.m_Ldeep t.k_Ldeep t.b_Ldeep (da_cons (de_var 1) da_nil)))) da_nil)))))
    dss_nil))
/-- _law_tame -/
theorem sc_Ltame : FnScope N_Ltame P_Ltame (defScope s_Ltame) := ⟨rfl, rfl, rfl, by decide +kernel, rfl, by decide +kernel, by decide +kernel⟩
def fb_Ltame (g : Gp) : BD :=
  (bSeq (bPar 2 3 (dCons (dTupRg (rg1 (dOp (opIx g) (dVar 0) (dC (.dat (.num 0)))))) (dCons (dTup dNil) dNil)))
    (bSeq (bFor (iT (dVar 1)) (gN 4) (bSeq (bSet 5 (dCall (F_Ldid g) (dCons (dVar 2) (dCons (dVar 4) dNil))))
    (bSeq (bIf (xGc (dTest (dOp opLt (dGc (dCall fMax (dCons (dLc (iT (dVar 5)) (gN 6) xYes (dCall (F_Ldeep g) (dCons (dVar 6) dNil)) [6]) dNil))) (dC (.dat (.num 6)))))) (bSeq (bPar 2 3 (dCons (dVar 5) (dCons (dOp opAdd (dVar 3) (dTup (dCons (dVar 4) dNil))) dNil)))
    bNext) bNext)
    bNext)))
    (bSeq (bRet (dVar 3))
    bNext)))
theorem dv_Ltame {P : Program} {w : World} {K : PySem.W.Frag} {mg : Str → Option Value} {base : Heap} {g : Gp} (t : Tx K mg g) {k : Nat} (G_Ldid : FnOk P w K mg base CX0 k t.f_Ldid t.fd_Ldid P_Ldid (spD K w g (F_Ldid g))) (G_Ldeep : FnOk P w K mg base CX0 k t.f_Ldeep t.fd_Ldeep P_Ldeep (spD K w g (F_Ldeep g))) (A : Around) (outer : List Env) (s : Shared) (H : Hp) (E : XK)
    (hr : Room (k) (A.deeper (envOfC "_law_tame" (defScope s_Ltame) s.heap.objs.size t.f_Ltame t.cd_Ltame))) : DSs g (cxOf CX0 P w K mg base N_Ltame "_law_tame" (defScope s_Ltame) t.f_Ltame t.cd_Ltame A outer s H E).nox (defBody s_Ltame) (fb_Ltame g) := by
  have scN : N_Ltame.Nodup := sc_Ltame.nd
  exact (dss_cons (ds_par (i := 2) (j := 3) rfl scN (da_cons (de_tupRg rfl rfl t.n_tuple (drg_1 rfl t.n_range (de_ix (de_var 0) (de_int) (fun _ _ => rfl)))) (da_cons (de_tup da_nil) da_nil)))
    (dss_cons (ds_for PassesOwn.never rfl (di_tup (de_var 1)) (dg_n scN (i := 4)) (dss_cons (ds_set (i := 5) scN (de_call G_Ldid hr rfl t.m_Ldid t.k_Ldid t.b_Ldid (da_cons (de_var 2) (da_cons (de_var 4) da_nil))))
    (dss_cons (ds_if (dx_gc (dx_cmp od_lt (de_gc (de_callB (cr_maxD' rfl) rfl t.n_max bt_max (da_cons (de_lc rfl scN  (di_tup (de_var 5)) (blkOk_by (N := N_Ltame) (sc := defScope s_Ltame) (own := [("_law_term", 6)]) (by decide +kernel)) (fun _ _ _ _ _ => (dg_n scN (i := 6))) (fun _ _ _ _ _ => dts_nil) (fun _ _ _ _ _ => (de_call G_Ldeep hr rfl t.m_Ldeep t.k_Ldeep t.b_Ldeep (da_cons (de_var 6) da_nil)))) da_nil))) (de_int))) (dss_cons (ds_par (i := 2) (j := 3) rfl scN (da_cons (de_var 5) (da_cons (de_op od_add (de_var 3) (de_tup (da_cons (de_var 4) da_nil))) da_nil)))
    dss_nil) dss_nil)
    dss_nil)))
    (dss_cons (ds_ret (de_var 3))
    dss_nil)))
/-- _law_every_line -/
theorem sc_Levery_line : FnScope N_Levery_line P_Levery_line (defScope s_Levery_line) := ⟨rfl, rfl, rfl, by decide +kernel, rfl, by decide +kernel, by decide +kernel⟩
def fb_Levery_line (g : Gp) : BD :=
  (bSeq (bAsg (dVar 0) (gT 2 (gsCons (gN 1) (gsCons (gN 2) gsNil))))
    (bSeq (bSet 3 (dLst dNil))
    (bSeq (bFor (iRg (rg1 (dVar 1))) (gN 4) (bSeq (bFor (iE (dVar 2)) (gT 2 (gsCons (gN 5) (gsCons (gN 6) gsNil))) (bSeq (bFor (iRg (rg1 (dVar 1))) (gN 7) (bSeq (bIf (dTest (dOp opEq (dVar 6) (dC (.dat (.num 1))))) (bSeq (bDrop (dAppend (dVar 3) (dTup (dCons (dVar 4) (dCons (dVar 5) (dCons (dTup (dCons (dVar 7) dNil)) dNil))))))
    bNext) (bSeq (bSet 3 (dOp opAdd (dVar 3) (dLc (iRg (rg1 (dVar 1))) (gN 8) xYes (dTup (dCons (dVar 4) (dCons (dVar 5) (dCons (dTup (dCons (dVar 7) (dCons (dVar 8) dNil))) dNil)))) [8])))
    bNext))
    bNext))
    bNext))
    (bSeq (bSet 3 (dOp opAdd (dVar 3) (dLc (iRg (rg1 (dVar 1))) (gN 7) (dTest (dOp opNe (dVar 7) (dVar 4))) (dTup (dCons (dVar 4) (dCons (dC (.dat .none)) (dCons (dTup (dCons (dVar 7) dNil)) dNil)))) [7])))
    bNext)))
    (bSeq (bRet (dVar 3))
    bNext))))
theorem dv_Levery_line {P : Program} {w : World} {K : PySem.W.Frag} {mg : Str → Option Value} {base : Heap} {g : Gp} (t : Tx K mg g) {k : Nat} (A : Around) (outer : List Env) (s : Shared) (H : Hp) (E : XK)
    (hr : Room (k) (A.deeper (envOfC "_law_every_line" (defScope s_Levery_line) s.heap.objs.size t.f_Levery_line t.cd_Levery_line))) : DSs g (cxOf CX0 P w K mg base N_Levery_line "_law_every_line" (defScope s_Levery_line) t.f_Levery_line t.cd_Levery_line A outer s H E).nox (defBody s_Levery_line) (fb_Levery_line g) := by
  have scN : N_Levery_line.Nodup := sc_Levery_line.nd
  exact (dss_cons (ds_asg (de_var 0) (dg_t rfl (dgs_cons (dg_n scN (i := 1)) (dgs_cons (dg_n scN (i := 2)) dgs_nil))))
    (dss_cons (ds_set (i := 3) scN (de_lst da_nil))
    (dss_cons (ds_for PassesOwn.never rfl (di_rg1 rfl t.n_range (de_var 1)) (dg_n scN (i := 4)) (dss_cons (ds_for PassesOwn.never rfl (di_enum rfl t.n_enumerate (de_var 2)) (dg_t rfl (dgs_cons (dg_n scN (i := 5)) (dgs_cons (dg_n scN (i := 6)) dgs_nil))) (dss_cons (ds_for PassesOwn.never rfl (di_rg1 rfl t.n_range (de_var 1)) (dg_n scN (i := 7)) (dss_cons (ds_if (dx_cmp (od_eq (u64 hr)) (de_var 6) (de_int)) (dss_cons (ds_expr (de_append (de_var 3) (de_tup (da_cons (de_var 4) (da_cons (de_var 5) (da_cons (de_tup (da_cons (de_var 7) da_nil)) da_nil))))))
    dss_nil) (dss_cons (ds_set (i := 3) scN (de_op od_add (de_var 3) (de_lc rfl scN  (di_rg1 rfl t.n_range (de_var 1)) (blkOk_by (N := N_Levery_line) (sc := defScope s_Levery_line) (own := [("_law_other", 8)]) (by decide +kernel)) (fun _ _ _ _ _ => (dg_n scN (i := 8))) (fun _ _ _ _ _ => dts_nil) (fun _ _ _ _ _ => (de_tup (da_cons (de_var 4) (da_cons (de_var 5) (da_cons (de_tup (da_cons (de_var 7) (da_cons (de_var 8) da_nil))) da_nil))))))))
    dss_nil))
    dss_nil))
    dss_nil))
    (dss_cons (ds_set (i := 3) scN (de_op od_add (de_var 3) (de_lc rfl scN  (di_rg1 rfl t.n_range (de_var 1)) (blkOk_by (N := N_Levery_line) (sc := defScope s_Levery_line) (own := [("_law_one", 7)]) (by decide +kernel)) (fun _ _ _ _ _ => (dg_n scN (i := 7))) (fun _ _ _ _ _ => (dts_one (dx_cmp (od_ne (u64 hr)) (de_var 7) (de_var 4)))) (fun _ _ _ _ _ => (de_tup (da_cons (de_var 4) (da_cons (de_non) (da_cons (de_tup (da_cons (de_var 7) da_nil)) da_nil))))))))
    dss_nil)))
    (dss_cons (ds_ret (de_var 3))
    dss_nil))))
/-- _law_pick -/
theorem sc_Lpick : FnScope N_Lpick P_Lpick (defScope s_Lpick) := ⟨rfl, rfl, rfl, by decide +kernel, rfl, by decide +kernel, by decide +kernel⟩
def fb_Lpick (g : Gp) : BD :=
  (bSeq (bRet (dOp (opIx g) (dVar 1) (dCall (F_Ltaken g) (dCons (dVar 0) (dCons (dCall (fLen g) (dCons (dVar 1) dNil)) dNil)))))
    bNext)
theorem dv_Lpick {P : Program} {w : World} {K : PySem.W.Frag} {mg : Str → Option Value} {base : Heap} {g : Gp} (t : Tx K mg g) {k : Nat} (G_Ltaken : FnOk P w K mg base CX0 k t.f_Ltaken t.fd_Ltaken P_Ltaken (spD K w g (F_Ltaken g))) (A : Around) (outer : List Env) (s : Shared) (H : Hp) (E : XK)
    (hr : Room (k) (A.deeper (envOfC "_law_pick" (defScope s_Lpick) s.heap.objs.size t.f_Lpick t.cd_Lpick))) : DSs g (cxOf CX0 P w K mg base N_Lpick "_law_pick" (defScope s_Lpick) t.f_Lpick t.cd_Lpick A outer s H E).nox (defBody s_Lpick) (fb_Lpick g) := by
  have scN : N_Lpick.Nodup := sc_Lpick.nd
  exact (dss_cons (ds_ret (de_ix (de_var 1) (de_call G_Ltaken hr rfl t.m_Ltaken t.k_Ltaken t.b_Ltaken (da_cons (de_var 0) (da_cons (de_callB cr_len rfl t.n_len bt_len (da_cons (de_var 1) da_nil)) da_nil))) (fun _ _ => rfl)))
    dss_nil)
/-- _law_program -/
theorem sc_Lprogram : FnScope N_Lprogram P_Lprogram (defScope s_Lprogram) := ⟨rfl, rfl, rfl, by decide +kernel, rfl, by decide +kernel, by decide +kernel⟩
def fb_Lprogram (g : Gp) : BD :=
  (bSeq (bSet 3 (dCall (F_Levery_line g) (dCons (dVar 1) dNil)))
    (bSeq (bRet (dGc (dCall fTupleOf (dCons (dLc (iRg (rg1 (dCall (F_Ltaken g) (dCons (dVar 0) (dCons (dOp opAdd (dVar 2) (dC (.dat (.num 1)))) dNil))))) (gN 4) xYes (dCall (F_Lpick g) (dCons (dVar 0) (dCons (dVar 3) dNil))) [4]) dNil))))
    bNext))
theorem dv_Lprogram {P : Program} {w : World} {K : PySem.W.Frag} {mg : Str → Option Value} {base : Heap} {g : Gp} (t : Tx K mg g) {k : Nat} (G_Levery_line : FnOk P w K mg base CX0 k t.f_Levery_line t.fd_Levery_line P_Levery_line (spD K w g (F_Levery_line g))) (G_Ltaken : FnOk P w K mg base CX0 k t.f_Ltaken t.fd_Ltaken P_Ltaken (spD K w g (F_Ltaken g))) (G_Lpick : FnOk P w K mg base CX0 k t.f_Lpick t.fd_Lpick P_Lpick (spD K w g (F_Lpick g))) (A : Around) (outer : List Env) (s : Shared) (H : Hp) (E : XK)
    (hr : Room (k) (A.deeper (envOfC "_law_program" (defScope s_Lprogram) s.heap.objs.size t.f_Lprogram t.cd_Lprogram))) : DSs g (cxOf CX0 P w K mg base N_Lprogram "_law_program" (defScope s_Lprogram) t.f_Lprogram t.cd_Lprogram A outer s H E).nox (defBody s_Lprogram) (fb_Lprogram g) := by
  have scN : N_Lprogram.Nodup := sc_Lprogram.nd
  exact (dss_cons (ds_set (i := 3) scN (de_call G_Levery_line hr rfl t.m_Levery_line t.k_Levery_line t.b_Levery_line (da_cons (de_var 1) da_nil)))
    (dss_cons (ds_ret (de_gc (de_callTy cr_tupleOf rfl t.n_tuple bt_tuple (da_cons (de_lc rfl scN  (di_rg1 rfl t.n_range (de_call G_Ltaken hr rfl t.m_Ltaken t.k_Ltaken t.b_Ltaken (da_cons (de_var 0) (da_cons (de_op od_add (de_var 2) (de_int)) da_nil)))) (blkOk_by (N := N_Lprogram) (sc := defScope s_Lprogram) (own := [("_law_turn", 4)]) (by decide +kernel)) (fun _ _ _ _ _ => (dg_n scN (i := 4))) (fun _ _ _ _ _ => dts_nil) (fun _ _ _ _ _ => (de_call G_Lpick hr rfl t.m_Lpick t.k_Lpick t.b_Lpick (da_cons (de_var 0) (da_cons (de_var 3) da_nil))))) da_nil))))
    dss_nil))
/-- _law_ran -/
theorem sc_Lran : FnScope N_Lran P_Lran (defScope s_Lran) := ⟨rfl, rfl, rfl, by decide +kernel, rfl, by decide +kernel, by decide +kernel⟩
def fb_Lran (g : Gp) : BD :=
  (bSeq (bSet 3 (dTupRg (rg1 (dOp (opIx g) (dVar 0) (dC (.dat (.num 0)))))))
    (bSeq (bFor (iE (dVar 1)) (gT 2 (gsCons (gN 4) (gsCons (gN 5) gsNil))) (bSeq (bIf (dTest (dOp (opInB true) (dVar 4) (dVar 2))) (bSeq (bSet 3 (dCall (F_Ldid g) (dCons (dVar 3) (dCons (dVar 5) dNil))))
    (bSeq (bIf (xGc (dTest (dOp opGt (dGc (dCall fMax (dCons (dLc (iT (dVar 3)) (gN 6) xYes (dCall (F_Ldeep g) (dCons (dVar 6) dNil)) [6]) dNil))) (dC (.dat (.num 8)))))) (bSeq (bRet (dC (.dat .none)))
    bNext) bNext)
    bNext)) bNext)
    bNext))
    (bSeq (bRet (dVar 3))
    bNext)))
theorem dv_Lran {P : Program} {w : World} {K : PySem.W.Frag} {mg : Str → Option Value} {base : Heap} {g : Gp} (t : Tx K mg g) {k : Nat} (G_Ldid : FnOk P w K mg base CX0 k t.f_Ldid t.fd_Ldid P_Ldid (spD K w g (F_Ldid g))) (G_Ldeep : FnOk P w K mg base CX0 k t.f_Ldeep t.fd_Ldeep P_Ldeep (spD K w g (F_Ldeep g))) (A : Around) (outer : List Env) (s : Shared) (H : Hp) (E : XK)
    (hr : Room (k) (A.deeper (envOfC "_law_ran" (defScope s_Lran) s.heap.objs.size t.f_Lran t.cd_Lran))) : DSs g (cxOf CX0 P w K mg base N_Lran "_law_ran" (defScope s_Lran) t.f_Lran t.cd_Lran A outer s H E).nox (defBody s_Lran) (fb_Lran g) := by
  have scN : N_Lran.Nodup := sc_Lran.nd
  exact (dss_cons (ds_set (i := 3) scN (de_tupRg rfl rfl t.n_tuple (drg_1 rfl t.n_range (de_ix (de_var 0) (de_int) (fun _ _ => rfl)))))
    (dss_cons (ds_for PassesOwn.never rfl (di_enum rfl t.n_enumerate (de_var 1)) (dg_t rfl (dgs_cons (dg_n scN (i := 4)) (dgs_cons (dg_n scN (i := 5)) dgs_nil))) (dss_cons (ds_if (dx_cmp (od_notin (u65 hr)) (de_var 4) (de_var 2)) (dss_cons (ds_set (i := 3) scN (de_call G_Ldid hr rfl t.m_Ldid t.k_Ldid t.b_Ldid (da_cons (de_var 3) (da_cons (de_var 5) da_nil))))
    (dss_cons (ds_if (dx_gc (dx_cmp od_gt (de_gc (de_callB (cr_maxD' rfl) rfl t.n_max bt_max (da_cons (de_lc rfl scN  (di_tup (de_var 3)) (blkOk_by (N := N_Lran) (sc := defScope s_Lran) (own := [("_law_term", 6)]) (by decide +kernel)) (fun _ _ _ _ _ => (dg_n scN (i := 6))) (fun _ _ _ _ _ => dts_nil) (fun _ _ _ _ _ => (de_call G_Ldeep hr rfl t.m_Ldeep t.k_Ldeep t.b_Ldeep (da_cons (de_var 6) da_nil)))) da_nil))) (de_int))) (dss_cons (ds_ret (de_non))
    dss_nil) dss_nil)
    dss_nil)) dss_nil)
    dss_nil))
    (dss_cons (ds_ret (de_var 3))
    dss_nil)))
end L2.LL

/-! # LLW12 -/
set_option Elab.async false
set_option linter.all false
set_option maxRecDepth 100000
set_option maxHeartbeats 2000000
namespace L2.LL
open PySem PySem.Spec PyProof.Rows
def rowO (g : Gp) (a b c : Int) : AO := .lst [.raw (.ref g.sa), .dat (.num a), .dat (.num b), .dat (.num c)]
theorem Row.mk' {g : Gp} {a b c : Int} (h1 : 0 ≤ a) (h2 : 0 ≤ b) (h3 : b < 2147483647) : Row g (rowO g a b c) := ⟨a, b, c, rfl, h1, h2, h3⟩
theorem row_sco {g : Gp} {o : AO} {n : Nat} (h : Row g o) : scoO n o := by
  obtain ⟨a, b, c, rfl, _⟩ := h
  intro d hd
  simp at hd
  rcases hd with rfl | rfl | rfl | rfl <;> trivial
theorem ixN4 (i : Nat) (h : i < 4) : ixN 4 (i : Int) = some i := by
  unfold ixN
  rw [if_pos (by omega), if_pos (by omega)]; simp
@[simp] theorem ixN40 : ixN 4 0 = some 0 := ixN4 0 (by decide)
@[simp] theorem ixN41 : ixN 4 1 = some 1 := ixN4 1 (by decide)
@[simp] theorem ixN42 : ixN 4 2 = some 2 := ixN4 2 (by decide)
@[simp] theorem ixN43 : ixN 4 3 = some 3 := ixN4 3 (by decide)
theorem w_Ltaken {g : Gp} : ∀ ds S Q, Sco S → F_Ltaken g ds S Q → fb_Ltaken g (EndG S Q) (startD N_Ltaken ds) S := by
  intro ds S Q hs h
  unfold F_Ltaken at h
  split at h
  · rename_i n k
    obtain ⟨o, h0, ⟨a, b, c, rfl, ha, hb, hb2⟩, hk1, hk2, h⟩ := h
    have hn := (List.getElem?_eq_some_iff.mp h0).1
    have fin : ∀ (v a' b' c' : Int), 0 ≤ v → v < k → 0 ≤ a' → 0 ≤ b' → b' < 2147483647 → gcR S.length Q (.dat (.num v)) (S.set n (rowO g a' b' c')) := fun v a' b' c' h1 h2 h3 h4 h5 =>
      gc_same (hs.set (row_sco (Row.mk' h3 h4 h5))) (by simp) trivial (h v _ h1 h2 (Row.mk' h3 h4 h5))
    have hr : ∀ (a' b' c' : Int), (S.set n (rowO g a' b' c'))[n]? = some (rowO g a' b' c') := fun a' b' c' => List.getElem?_set_self hn
    have cm : ∀ (b' : Int), 0 ≤ b' → b' < 2147483647 → CMul b' 48271 := fun b' _ _ => .inr ⟨by decide, by decide⟩
    have hk0 : 0 < k := by omega
    have md : ∀ i : Int, 0 ≤ i % k ∧ i % k < k := fun i => ⟨Int.emod_nonneg i (by omega), Int.emod_lt_of_pos i hk0⟩
    have md2 : ∀ i : Int, 0 ≤ i % 2147483647 ∧ i % 2147483647 < 2147483647 := fun i => ⟨Int.emod_nonneg i (by decide), Int.emod_lt_of_pos i (by decide)⟩
    unfold fb_Ltaken
    simp [s_start, h0]
    by_cases hc : 0 < c
    · simp [hc, hk0, hk2, setIx, h0]
      exact fin _ a b (c / k) (md c).1 (md c).2 ha hb hb2
    · have hr2 : ∀ x : AO, (S.set n x)[n]? = some x := fun x => List.getElem?_set_self hn
      simp only [hc, decide_false, s_seq, s_setIx]
      simp [setIx, h0, hr2]
      by_cases hl : (g.ns.length : Int) < a + 1
      · simp [hl, hr2, cm b hb hb2]
        have h7 := md2 (b * 48271 + 11)
        refine ⟨hk0, fin _ (a + 1) _ c (md _).1 (md _).2 (by omega) h7.1 h7.2⟩
      · obtain ⟨x, hcell⟩ : ∃ x, atI g.ns a = some x := by
          obtain ⟨j, rfl⟩ : ∃ j : Nat, a = (j : Int) := ⟨a.toNat, by omega⟩
          exact ⟨g.ns[j]'(by omega), by rw [s_atN]; exact List.getElem?_eq_getElem _⟩
        simp [hl, hr2, cm b hb hb2, hcell]
        have h7 := md2 (b * 48271 + x + 11)
        by_cases hx : (1000000000000000000 : Int) ≤ x
        · simp [hx, hr2, hk0, hk2]
          exact fin _ (a + 1) _ _ (md _).1 (md _).2 (by omega) h7.1 h7.2
        · simp [hx, hk0]
          exact fin _ (a + 1) _ c (md _).1 (md _).2 (by omega) h7.1 h7.2
  · exact h.elim
end L2.LL

/-! # LLW13 -/
set_option Elab.async false
set_option linter.all false
set_option maxRecDepth 100000
set_option maxHeartbeats 2000000
namespace L2.LL
open PySem PySem.Spec PyProof.Rows
theorem w_Lpick {g : Gp} : ∀ ds S Q, Sco S → F_Lpick g ds S Q → fb_Lpick g (EndG S Q) (startD N_Lpick ds) S := by
  intro ds S Q hs h
  unfold F_Lpick at h
  split at h
  · rename_i n k
    obtain ⟨o, l, hnk, h0, hr, h1, hl1, hl2, h⟩ := h
    unfold fb_Lpick
    simp [s_start, h1]
    refine ⟨o, h0, hr, by omega, by omega, fun v o' hv1 hv2 hr' => ?_⟩
    have hk' : (S.set n o')[k]? = some (.lst l) := by rw [List.getElem?_set_ne hnk]; exact h1
    simp
    obtain ⟨j, rfl⟩ : ∃ j : Nat, v = (j : Int) := ⟨v.toNat, by omega⟩
    refine ⟨l, hk', l[j]'(by omega), by rw [s_atN]; exact List.getElem?_eq_getElem _, ?_⟩
    have hm : l[j]'(by omega) ∈ l := List.getElem_mem _
    refine gc_same (hs.set (row_sco hr')) (by simp) ?_ (h _ o' hm hr')
    have := hs (.lst l) (List.mem_of_getElem? h1)
    have := this _ hm
    rw [List.length_set]; exact this
  · exact h.elim
theorem w_Ldid {g : Gp} : ∀ ds S Q, Sco S → F_Ldid g ds S Q → fb_Ldid g (EndG S Q) (startD N_Ldid ds) S := by
  intro ds S Q hs h
  unfold F_Ldid at h
  split at h
  · rename_i hd v
    obtain ⟨M, l, rfl, hM, hl, hlen0, h⟩ := h
    unfold fb_Ldid
    have hc : l.c < hd.length := by rw [hlen0]; exact hl.c
    have hlen : hd.length ≤ 3 := by rw [hlen0]; exact hM.n3
    have hget : ∀ s ∈ l.src, ∃ t, hd[s]? = some t := fun s hs => ⟨hd[s]'(by rw [hlen0]; exact hl.src s hs), List.getElem?_eq_getElem _⟩
    have l1 := cut_len (l := hd) (a := none) (b := some (l.c : Int))
    have l2 := cut_len (l := hd) (a := some ((l.c : Int) + 1)) (b := none)
    have fin : ∀ x, did hd l = hd.set l.c x → (cutA hd none (some (l.c : Int)) ++ [x] ++ cutA hd (some ((l.c : Int) + 1)) none) = did hd l := fun x e => by rw [e, set_cut hc]
    rcases hl.fn with ⟨e, s, e2, e3⟩ | ⟨i, e, e2⟩
    · obtain ⟨t, ht⟩ := hget s (by simp [e2])
      have ev : val hd l = t := by unfold val; rw [e, e2]; simp [ht]
      simp [s_start, e, e2, fT, ht]
      refine ⟨by omega, by omega, ?_⟩
      have := fin t (by unfold did; rw [ev])
      simp only [List.append_assoc, List.singleton_append] at this
      rw [this]
      exact gcd0 hs h
    · have ev : val hd l = .tup (nT i :: l.src.map fun s => hd[s]?.getD .none) := by unfold val; rw [e]
      have hsl : l.src.length ≤ 2 := by
        rcases hM.rd _ (List.mem_of_getElem? e2) with h | h <;> omega
      simp [s_start, e, fT]
      intro hs'
      refine lc_map (fun t => match t with | .num s => .dat (hd[s.toNat]?.getD .none) | _ => .bl true) (by trivial) (by simp; omega) (fun t R1 ht h1 => ?_) ?_
      · obtain ⟨s, hs2, rfl⟩ := List.mem_map.mp ht
        obtain ⟨u, hu⟩ := hget s hs2
        simp [hu] at h1 ⊢
        exact h1
      · simp
        refine ⟨l.src.map fun s => hd[s]?.getD .none, by simp [Function.comp_def], gcd hs' (by simp) ?_⟩
        simp
        refine ⟨by omega, by omega, by omega, ?_⟩
        have := fin _ (by unfold did; rw [ev])
        simp only [List.append_assoc, List.singleton_append] at this
        rw [this]
        exact gcd0 hs h
  · exact h.elim
theorem w_Ldeep {g : Gp} {d : Nat} : ∀ ds S Q, Sco S → F_LdeepN (d + 1) g ds S Q → fb_Ldeep g (F_LdeepN d g) (EndG S Q) (startD N_Ldeep ds) S := by
  intro ds S Q hs h
  unfold F_LdeepN at h
  split at h
  · rename_i v
    obtain ⟨M, hM, hv, hd, h⟩ := h
    unfold fb_Ldeep
    rcases hv.cases hM with ⟨i, rfl, hi⟩ | ⟨f, ts, rfl, hf, hts, hne⟩
    · simp [s_start]
      have e : (nT i).depth + 1 = 1 := by simp
      rw [e] at h
      exact gcd0 hs h
    · have e : (NestedKey.tup (nT f :: ts)).depth = NestedKey.depthAll ts + 1 := by rw [depth_tup]; simp
      rw [e] at h hd
      have hts2 := depthAll_le.mp (show NestedKey.depthAll ts ≤ d by omega)
      simp [s_start]
      intro hs'
      refine lc_map (fun t => .dat (nT (t.depth + 1))) (by trivial) ?_ (fun t R1 ht h1 => ?_) ?_
      · have := hM.rd _ (List.mem_of_getElem? hf); omega
      · simp
        exact ⟨M, hM, hts t ht, hts2 t ht, h1⟩
      · simp
        refine ⟨ts.map fun t => ((t.depth + 1 : Nat) : Int), by simp, List.length_pos_iff.mpr (by simpa using hne), fun m hm hm2 => ?_⟩
        have em : m = ((NestedKey.depthAll ts + 1 : Nat) : Int) := by
          obtain ⟨t, ht, rfl⟩ := List.mem_map.mp hm
          have h1 := depthAll_le.mp (Nat.le_refl _) t ht
          have h2 : NestedKey.depthAll ts ≤ t.depth := depthAll_le.mpr fun u hu => by
            have := hm2 _ (List.mem_map.mpr ⟨u, hu, rfl⟩); omega
          omega
        subst em
        refine gcd hs' (by simp) (gcd0 hs ?_)
        have e2 : (1 : Int) + ((NestedKey.depthAll ts + 1 : Nat) : Int) = ((NestedKey.depthAll ts + 1 + 1 : Nat) : Int) := by omega
        rw [e2]; exact h
  · exact h.elim
/-- max([_law_deep(t) for t in held]) -/
theorem max_deep {g : Gp} {M : Mac} {h : List T} {d j : Nat} {σ : SD} {S : Sto} {Q : DQ} {N : Nat} (hM : M.Ok) (H : HT M d h) (hd : d ≤ 9) (hσ : σ[j]? = some (some (.dat (.tup h)))) (hN : N < σ.length)
    (q : ∀ m : Nat, (∀ t ∈ h, t.depth + 1 ≤ m) → (∃ t ∈ h, m = t.depth + 1) → Q (.dat (nT m)) S) :
    dGc (dCall fMax (dCons (dLc (iT (dVar j)) (gN N) xYes (dCall (F_Ldeep g) (dCons (dVar N) dNil)) [N]) dNil)) σ S Q := by
  simp only [s_gc, s_call, s_cons, s_nil, s_lc, s_iT, s_var]
  intro hs
  refine ⟨_, hσ, h, rfl, ?_⟩
  refine lc_map (fun t => .dat (nT (t.depth + 1))) (by trivial) (by have := H.len; have := hM.n3; omega) (fun t R1 ht h1 => ?_) ?_
  · simp only [s_gN, s_w1, s_w0, s_call, s_cons, s_nil, s_var]
    refine ⟨.dat t, by rw [List.getElem?_set_self (by simpa using hN)], M, hM, (H.wt t ht).1, by have := (H.wt t ht).2; omega, h1⟩
  · rw [s_max]
    have hne : h ≠ [] := fun e => by
      have := H.len; have := hM.n1
      subst e; simp at *; omega
    refine ⟨h.map fun t => ((t.depth + 1 : Nat) : Int), by simp [Function.comp_def], by simpa using List.length_pos_iff.mpr hne, fun m hm hm2 => ?_⟩
    obtain ⟨t, ht, rfl⟩ := List.mem_map.mp hm
    refine gcd hs ⟨_, rfl⟩ (q _ (fun u hu => ?_) ⟨t, ht, rfl⟩)
    have := hm2 _ (List.mem_map.mpr ⟨u, hu, rfl⟩)
    omega
end L2.LL

/-! # LLW14 -/
set_option Elab.async false
set_option linter.all false
set_option maxRecDepth 100000
set_option maxHeartbeats 2000000
namespace L2.LL
open PySem PySem.Spec PyProof.Rows
theorem gcm {S1 S' : Sto} {Q : DQ} {t : T} {k : Nat} (hs : Sco S1) (hp : S1 <+: S') (hk : k ≤ S1.length) (h : Q (.dat t) S1) : gcR k Q (.dat t) S' := ⟨S1, hp, hk, hs, trivial, h⟩
/-- elements that take from the row -/
theorem lc_row {g : Gp} {S : Sto} {Q : DQ} {n : Nat} {o : AO} {ts : List T} {ok : Sto → Prop} {tg : TgD} {te : ED} {vs : List Nat} {σ : SD} (P : D → Prop) (h0 : S[n]? = some o) (hr : Row g o) (hz : ts.length ≤ 100000)
    (hs : ∀ (t : T) (o1 : AO) (R : DQ), t ∈ ts → Row g o1 → (∀ d o2, P d → Row g o2 → R d (S.set n o2)) → tg t (wipeD σ vs) fun σ2 => te σ2 (S.set n o1) R) (hok : ∀ o', ok (S.set n o'))
    (h : ∀ acc o', (∀ d ∈ acc, P d) → acc.length = ts.length → Row g o' → Q (.ref (S.set n o').length) (S.set n o' ++ [.lst acc])) : LcOk ts ok tg xYes te vs σ S Q := by
  refine ⟨fun i acc S' => ∃ o', S' = S.set n o' ∧ Row g o' ∧ (∀ d ∈ acc, P d) ∧ acc.length = i, ⟨o, (set_same h0).symm, hr, (fun _ h => nomatch h), rfl⟩, fun i acc S' ⟨o', e, _⟩ => by rw [e]; exact hok o', ?_, ?_⟩
  · rintro i t acc S' ht ⟨o1, rfl, r1, ha, hl⟩
    have hi := (List.getElem?_eq_some_iff.mp ht).1
    refine hs t o1 _ (List.mem_of_getElem? ht) r1 fun d o2 hd r2 => ⟨by omega, o2, rfl, r2, fun x hx => ?_, by simp [hl]⟩
    rcases List.mem_append.mp hx with hx | hx
    · exact ha x hx
    · have : x = d := by simpa using hx
      rw [this]; exact hd
  · rintro acc S' ⟨o', rfl, r', ha, hl⟩
    exact h acc o' ha hl r'
theorem list_of {α : Type} {f : α → D} {p : α → Prop} : ∀ {acc : List D}, (∀ d ∈ acc, ∃ x, d = f x ∧ p x) → ∃ l : List α, acc = l.map f ∧ ∀ x ∈ l, p x
  | [], _ => ⟨[], rfl, fun _ h => nomatch h⟩
  | d :: acc, h => by
    obtain ⟨x, e, hx⟩ := h d (by simp)
    obtain ⟨l, e2, hl⟩ := list_of (acc := acc) fun y hy => h y (by simp [hy])
    refine ⟨x :: l, by rw [List.map_cons, e, e2], fun y hy => ?_⟩
    rcases List.mem_cons.mp hy with rfl | hy
    · exact hx
    · exact hl y hy
theorem w_Lmachine {g : Gp} : ∀ ds S Q, Sco S → F_Lmachine g ds S Q → fb_Lmachine g (EndG S Q) (startD N_Lmachine ds) S := by
  intro ds S Q hs h
  unfold F_Lmachine at h
  split at h
  · rename_i n
    obtain ⟨o, h0, hr, h⟩ := h
    have hn := (List.getElem?_eq_some_iff.mp h0).1
    have hg : ∀ o', (S.set n o')[n]? = some o' := fun o' => List.getElem?_set_self hn
    unfold fb_Lmachine
    simp only [s_start, s_seq, s_par, s_op, s_call, s_cons, s_nil, s_var, s_C]
    refine ⟨.ref n, rfl, o, h0, hr, by decide, by decide, fun v1 o1 a1 b1 r1 => ?_⟩
    simp only [s_addN]
    refine ⟨.ref n, rfl, o1, hg o1, r1, by decide, by decide, fun v2 o2 a2 b2 r2 => ?_⟩
    simp only [s_addN, List.set_set]
    refine ⟨_, _, rfl, ?_⟩
    obtain ⟨c, hc, hc2⟩ : ∃ c : Nat, 1 + v1 = (c : Int) ∧ 1 ≤ c ∧ c ≤ 3 := ⟨(1 + v1).toNat, by omega, by omega, by omega⟩
    obtain ⟨m, hm, hm2⟩ : ∃ m : Nat, 1 + v2 = (m : Int) ∧ 1 ≤ m ∧ m ≤ 2 := ⟨(1 + v2).toNat, by omega, by omega, by omega⟩
    rw [hc, hm]
    have hsm : smallRg 0 (m : Int) := by unfold smallRg; omega
    simp only [s_seq, s_ret, s_tup, s_op, s_call, s_cons, s_nil, s_var, s_C, s_gc, s_lc, s_iRg, s_rg1]
    refine ⟨.dat (nT c), rfl, fun hs' => ⟨.dat (nT m), rfl, hsm, ?_⟩⟩
    rw [rgT0]
    refine lc_row (fun d => ∃ r : Nat, d = .dat (nT r) ∧ (r = 1 ∨ r = 2)) (hg o2) r2 (by simp; omega) (fun t o3 R ht r3 hR => ?_) (fun _ => trivial) (fun acc o3 hacc hal r3 => ?_)
    · simp only [s_gN, s_op, s_C, s_call, s_cons, s_nil, s_var]
      refine ⟨.ref n, rfl, o3, by rw [List.set_set]; exact hg o3, r3, by decide, by decide, fun v4 o4 a4 b4 r4 => ?_⟩
      simp only [s_addN, List.set_set]
      obtain ⟨r, hr1, hr2⟩ : ∃ r : Nat, 1 + v4 = (r : Int) ∧ (r = 1 ∨ r = 2) := ⟨(1 + v4).toNat, by omega, by omega⟩
      rw [hr1]
      have := hR (.dat (nT r)) o4 ⟨r, rfl, hr2⟩ r4
      rw [List.set_set] at this
      exact this
    · obtain ⟨rs, rfl, hrs⟩ := list_of hacc
      rw [List.set_set]
      simp only [s_tupleOf]
      refine ⟨nTs rs, by simp [Function.comp_def], gcm (hs.set (row_sco r3)) (List.prefix_append _ _) (by simp) ?_⟩
      refine ⟨[nT c, .tup (nTs rs)], rfl, by simp, ?_⟩
      have hM : (Mac.mk c rs).Ok := ⟨hc2.1, hc2.2, by simp at hal; show 1 ≤ rs.length; omega, by simp at hal; show rs.length ≤ 2; omega, hrs⟩
      exact gcm (hs.set (row_sco r3)) (List.prefix_refl _) (by simp) (h _ o3 hM r3)
  · exact h.elim
theorem run_snoc {h : List T} {P : List Ln} {l : Ln} : run h (P ++ [l]) = did (run h P) l := by unfold run; rw [List.foldl_append]; rfl
theorem tame_snoc {M : Mac} {d : Nat} {P : List Ln} {l : Ln} (ht : Tame M d P) (h : HT M d (did (run (firsts M.n) P) l)) : Tame M d (P ++ [l]) := by
  intro i
  by_cases hi : i ≤ P.length
  · rw [List.take_append_of_le_length hi]; exact ht i
  · rw [List.take_of_length_le (by simp; omega), run_snoc]; exact h
theorem Tame.all {M : Mac} {d : Nat} {P : List Ln} (ht : Tame M d P) : HT M d (run (firsts M.n) P) := by have := ht P.length; rwa [List.take_length] at this
theorem did_ht1 {M : Mac} {d : Nat} {h : List T} {l : Ln} (H : HT M d h) (hl : l.Ok M) : HT M (d + 1) (did h l) := did_ht (H.mono (Nat.le_succ d)) hl (val_wt H hl).2
theorem prT_snoc {P : List Ln} {l : Ln} : NestedKey.tup (P.map Ln.t ++ [l.t]) = prT (P ++ [l]) := by simp
theorem w_Ltame {g : Gp} : ∀ ds S Q, Sco S → F_Ltame g ds S Q → fb_Ltame g (EndG S Q) (startD N_Ltame ds) S := by
  intro ds S Q hs h
  unfold F_Ltame at h
  split at h
  · obtain ⟨M, P, rfl, rfl, hM, hP, hPl, h⟩ := h
    unfold fb_Ltame
    have hsm : smallRg 0 (M.n : Int) := by have := hM.n3; unfold smallRg; omega
    simp only [s_start, s_seq, s_par, s_cons, s_nil, s_tupRg, s_rg1, s_op, s_tup, s_var, s_C]
    refine ⟨.dat M.t, rfl, ?_⟩
    simp only [s_ixT, s_at0]
    refine ⟨_, rfl, hsm, [], rfl, by simp, _, _, rfl, ?_⟩
    rw [rg_firsts]
    simp only [s_seq, s_for, s_iT, s_var]
    refine ⟨.dat (prT P), rfl, _, rfl, ?_⟩
    refine ⟨fun i σ S' => S' = S ∧ ∃ P' x4 x5 x6, LnsOk M P' ∧ P'.length ≤ i ∧ Tame M 4 P' ∧ σ = [some (.dat M.t), some (.dat (prT P)), some (.dat (.tup (run (firsts M.n) P'))), some (.dat (prT P')), x4, x5, x6],
      ⟨rfl, [], _, _, _, (fun _ h => nomatch h), Nat.le_refl _, (fun i => by simp [run]; exact firsts_ht.mono (Nat.zero_le 4)), rfl⟩, fun _ _ _ _ => trivial, ?_, ?_⟩
    · rintro i t σ S' ht ⟨rfl, P', x4, x5, x6, hP', hl', ht', rfl⟩
      rw [List.getElem?_map, Option.map_eq_some_iff] at ht
      obtain ⟨l, hl, rfl⟩ := ht
      have hi := (List.getElem?_eq_some_iff.mp hl).1
      have hlok := hP l (List.mem_of_getElem? hl)
      have H := ht'.all
      have H5 := did_ht1 H hlok
      simp only [s_gN, s_seq, s_set, s_call, s_cons, s_nil, s_var]
      refine ⟨_, rfl, .dat l.t, rfl, M, l, rfl, hM, hlok, H.len, ?_⟩
      simp only [s_if, s_xgc, s_test, s_op, s_C]
      intro hs'
      refine max_deep hM H5 (by omega) rfl (by simp) fun m hm1 hm2 => ?_
      simp only [s_cmp]
      refine ⟨S', List.prefix_refl _, Nat.le_refl _, hs', ?_⟩
      by_cases hm6 : (m : Int) < 6
      · rw [decide_eq_true hm6]
        have H4 : HT M 4 (did (run (firsts M.n) P') l) := ⟨H5.len, fun t ht => ⟨(H5.wt t ht).1, by have := hm1 t ht; omega⟩⟩
        simp only [s_seq, s_par, s_op, s_tup, s_cons, s_nil, s_var, s_next]
        refine ⟨_, rfl, .dat (prT P'), rfl, .dat l.t, rfl, [l.t], rfl, by simp, ?_⟩
        rw [s_addT, prT_snoc]
        refine ⟨by simp; omega, _, _, rfl, rfl, P' ++ [l], _, _, _, fun x hx => ?_, by simp; omega, tame_snoc ht' H4, by rw [run_snoc]; rfl⟩
        rcases List.mem_append.mp hx with hx | hx
        · exact hP' x hx
        · have : x = l := by simpa using hx
          rw [this]; exact hlok
      · rw [decide_eq_false hm6]
        exact ⟨rfl, P', _, _, _, hP', by omega, ht', rfl⟩
    · rintro σ S' ⟨rfl, P', x4, x5, x6, hP', hl', ht', rfl⟩
      simp
      exact gcd0 hs (h P' hP' (by simpa using hl') ht')
  · exact h.elim
theorem w_Lran {g : Gp} : ∀ ds S Q, Sco S → F_Lran g ds S Q → fb_Lran g (EndG S Q) (startD N_Lran ds) S := by
  intro ds S Q hs h
  unfold F_Lran at h
  split at h
  · obtain ⟨M, P, Ls, rfl, rfl, rfl, hM, hP, hPl, hH, h⟩ := h
    unfold fb_Lran
    have hsm : smallRg 0 (M.n : Int) := by have := hM.n3; unfold smallRg; omega
    simp [s_start, hsm, rg_firsts]
    refine ⟨fun i σ S' => S' = S ∧ ∃ x4 x5 x6, σ = [some (.dat M.t), some (.dat (prT P)), some (.dat (.tup (nTs Ls))), some (.dat (.tup (stL P Ls (firsts M.n) i))), x4, x5, x6],
      ⟨rfl, _, _, _, rfl⟩, fun _ _ _ _ => trivial, ?_, ?_⟩
    · rintro i t σ S' ht ⟨rfl, x4, x5, x6, rfl⟩
      obtain ⟨u, hu, rfl⟩ := enumT_get ht
      rw [List.getElem?_map, Option.map_eq_some_iff] at hu
      obtain ⟨l, hl, rfl⟩ := hu
      have hlok := hP l (List.mem_of_getElem? hl)
      have H1 := hH (i + 1)
      have es : stL P Ls (firsts M.n) (i + 1) = if i ∈ Ls then stL P Ls (firsts M.n) i else did (stL P Ls (firsts M.n) i) l := by rw [stL, hl]
      simp only [s_gT, s_gsCons, s_gsNil, s_gN, s_seq, s_if, s_test, s_op, s_var]
      refine ⟨rfl, trivial, .dat (nT i), rfl, .dat (.tup (nTs Ls)), rfl, ?_⟩
      rw [s_inT]
      refine ⟨rfl, nTs_noTx, ?_⟩
      have hin : (nT i ∈ nTs Ls) ↔ i ∈ Ls := by
        rw [List.mem_map]
        constructor
        · rintro ⟨a, ha, e⟩; have : a = i := by simp at e; omega
          exact this ▸ ha
        · exact fun h => ⟨i, h, rfl⟩
      by_cases hi : i ∈ Ls
      · rw [decide_eq_true (hin.mpr hi)]
        rw [if_pos hi] at es
        show (_ = _ ∧ _)
        exact ⟨rfl, _, _, _, by rw [es]; rfl⟩
      · rw [decide_eq_false (fun z => hi (hin.mp z))]
        rw [if_neg hi] at es
        rw [es] at H1
        simp only [if_true, Bool.not_false, s_seq, s_set, s_call, s_cons, s_nil, s_var]
        refine ⟨_, rfl, .dat l.t, rfl, M, l, rfl, hM, hlok, (hH i).len, ?_⟩
        simp only [s_if, s_xgc, s_test, s_op, s_C]
        intro hs'
        refine max_deep hM H1 (by omega) rfl (by simp) fun m hm1 hm2 => ?_
        simp only [s_cmp]
        refine ⟨S', List.prefix_refl _, Nat.le_refl _, hs', ?_⟩
        have h8 : ¬ ((8 : Int) < (m : Int)) := by
          obtain ⟨t, ht, e⟩ := hm2
          have := (H1.wt t ht).2
          omega
        rw [decide_eq_false h8]
        exact ⟨rfl, _, _, _, by rw [es]; rfl⟩
    · rintro σ S' ⟨rfl, x4, x5, x6, rfl⟩
      simp
      exact gcd0 hs h
  · exact h.elim
end L2.LL

/-! # LLW15 -/
set_option Elab.async false
set_option linter.all false
set_option maxRecDepth 100000
set_option maxHeartbeats 2000000
namespace L2.LL
open PySem PySem.Spec PyProof.Rows
/-- a list of lines that is found, anew each time -/
def elI (M : Mac) (S : Sto) (acc : List Ln) (x4 x5 x6 : Option D) (σ : SD) (S' : Sto) : Prop := S <+: S' ∧ ∃ (n : Nat) (x7 x8 : Option D), S.length ≤ n ∧ S'[n]? = some (.lst (lnD acc)) ∧
  σ = [some (.dat M.t), some (.dat (nT M.n)), some (.dat (.tup (nTs M.fs))), some (.ref n), x4, x5, x6, x7, x8]
def oneLines (M : Mac) (c i r a : Nat) : List Ln := if r = 1 then [⟨c, some i, [a]⟩] else (List.range M.n).map fun b => ⟨c, some i, [a, b]⟩
theorem oneLines_eq {M : Mac} {c i r : Nat} (hr : r = 1 ∨ r = 2) : (List.range M.n).flatMap (oneLines M c i r) = fnLines M c i r := by
  unfold fnLines rows oneLines
  rcases hr with rfl | rfl
  · simp only [if_true]
    rw [List.map_map]
    generalize List.range M.n = l
    induction l with
    | nil => rfl
    | cons a l ih => rw [List.flatMap_cons, ih]; rfl
  · simp only [if_neg (show ¬ (2 : Nat) = 1 by decide)]
    rw [List.map_flatMap]
    congr 1
    funext a
    rw [List.map_map]; rfl
theorem one_len {M : Mac} (hM : M.Ok) {c i r : Nat} {l : List Nat} : (l.flatMap (oneLines M c i r)).length ≤ l.length * 3 := by
  induction l with
  | nil => simp
  | cons a l ih =>
    have : (oneLines M c i r a).length ≤ 3 := by
      unfold oneLines; have := hM.n3
      split <;> simp; omega
    simp only [List.flatMap_cons, List.length_append, List.length_cons]; omega
theorem w_Levery_line {g : Gp} : ∀ ds S Q, F_Levery_line g ds S Q → fb_Levery_line g (EndN Q) (startD N_Levery_line ds) S := by
  intro ds S Q h
  unfold F_Levery_line at h
  split at h
  · obtain ⟨M, rfl, hM, h⟩ := h
    unfold fb_Levery_line
    have hn3 := hM.n3
    have hf2 := hM.f2
    have hsm : smallRg 0 (M.n : Int) := by unfold smallRg; omega
    simp only [s_start, s_seq, s_asg, s_var]
    refine ⟨.dat M.t, rfl, M.t, rfl, ?_⟩
    simp only [s_gT, s_gsCons, s_gsNil, s_gN, s_seq, s_set, s_lst, s_nil, s_for, s_iRg, s_rg1, s_var]
    refine ⟨rfl, trivial, by simp, .dat (nT M.n), rfl, hsm, ?_⟩
    rw [rgT0]
    refine ⟨fun i σ S' => ∃ x4 x5 x6, elI M S (accL M i) x4 x5 x6 σ S', ⟨_, _, _, List.prefix_append _ _, S.length, _, _, Nat.le_refl _, by simp [lnD, accL], rfl⟩, fun _ _ _ _ => trivial, ?_, ?_⟩
    · rintro i t σ S' ht ⟨x4, x5, x6, hpre, n, x7, x8, hn, hl, rfl⟩
      obtain ⟨rfl, hi⟩ := range_get ht
      have hacc := allLines_take hM (i := i)
      have hA2 : accL M (i + 1) = accL M i ++ cellLines M i := by
        unfold accL
        rw [flat_succ (x := i) (by simp [hi])]
      rw [show ((List.range M.n).take i).flatMap (cellLines M) = accL M i from rfl] at hacc
      generalize hA : accL M i = acc at *
      simp only [s_gN, s_seq, s_for, s_iE, s_var]
      refine ⟨.dat (.tup (nTs M.fs)), rfl, nTs M.fs, rfl, ?_⟩
      refine ⟨fun j σ S' => ∃ x5 x6, elI M S (acc ++ (M.fs.zipIdx.take j).flatMap fun x => fnLines M i x.2 x.1) (some (.dat (nT i))) x5 x6 σ S', ⟨_, _, hpre, n, _, _, hn, by simp; exact hl, rfl⟩, fun _ _ _ _ => trivial, ?_, ?_⟩
      · rintro j t σ S2 hj ⟨y5, y6, hpre2, n2, y7, y8, hn2, hl2, rfl⟩
        obtain ⟨u, hu, rfl⟩ := enumT_get hj
        rw [List.getElem?_map, Option.map_eq_some_iff] at hu
        obtain ⟨r, hr, rfl⟩ := hu
        have hr12 := hM.rd r (List.mem_of_getElem? hr)
        have hzi : M.fs.zipIdx[j]? = some (r, j) := by simp [List.getElem?_zipIdx, hr]
        have hacc2 := fnLines_len hM (c := i) (l := M.fs.zipIdx.take j)
        have hl2' : (M.fs.zipIdx.take j).length ≤ 2 := by rw [List.length_take, List.length_zipIdx]; omega
        simp only [s_gT, s_gsCons, s_gsNil, s_gN, s_seq, s_for, s_iRg, s_rg1, s_var]
        rw [flat_succ hzi, ← List.append_assoc]
        generalize hA3 : acc ++ (M.fs.zipIdx.take j).flatMap (fun x => fnLines M i x.2 x.1) = acc2 at *
        have hacc3 : acc2.length ≤ 100 := by rw [← hA3, List.length_append]; omega
        refine ⟨rfl, trivial, .dat (nT M.n), rfl, hsm, ?_⟩
        rw [rgT0]
        refine ⟨fun q σ S' => elI M S (acc2 ++ ((List.range M.n).take q).flatMap (oneLines M i j r)) (some (.dat (nT i))) (some (.dat (nT j))) (some (.dat (nT r))) σ S', ⟨hpre2, n2, _, _, hn2, by simp; exact hl2, rfl⟩, fun _ _ _ _ => trivial, ?_, ?_⟩
        · rintro q t σ S3 hq ⟨hpre3, n3, z7, z8, hn3', hl3, rfl⟩
          obtain ⟨rfl, hqn⟩ := range_get hq
          have hol := one_len hM (c := i) (i := j) (r := r) (l := (List.range M.n).take q)
          have hlt : ((List.range M.n).take q).length ≤ 3 := by rw [List.length_take, List.length_range]; omega
          simp only [s_gN, s_seq, s_if, s_test, s_op, s_var, s_C]
          rw [flat_succ (x := q) (by simp [hqn]), ← List.append_assoc]
          generalize hA4 : acc2 ++ ((List.range M.n).take q).flatMap (oneLines M i j r) = acc3 at *
          have hacc4 : acc3.length ≤ 200 := by rw [← hA4, List.length_append]; omega
          refine ⟨.dat (nT r), rfl, (s_eqD (n := false)).mpr ⟨rfl, rfl, ?_⟩⟩
          by_cases hr1 : r = 1
          · have e : decide (nT r = NestedKey.num 1) = true := by rw [hr1]; rfl
            simp only [if_neg Bool.false_ne_true, e]
            have eo : oneLines M i j r q = [⟨i, some j, [q]⟩] := by unfold oneLines; rw [if_pos hr1]
            rw [eo]
            simp only [s_seq, s_drop, s_append, s_tup, s_cons, s_nil, s_var, s_next]
            refine ⟨.ref n3, rfl, n3, rfl, ⟨_, hl3⟩, .dat (nT i), rfl, .dat (nT j), rfl, .dat (nT q), rfl, [nT q], rfl, by simp, [nT i, nT j, .tup [nT q]], rfl, by simp, _, hl3, by simp [lnD]; omega, ?_⟩
            refine ⟨pre_set hpre3 hn3', n3, _, _, hn3', ?_, rfl⟩
            rw [List.getElem?_set_self (List.getElem?_eq_some_iff.mp hl3).1]
            simp [lnD, fT]
          · have e : decide (nT r = NestedKey.num 1) = false := by
              rw [decide_eq_false]; simp; omega
            simp only [if_neg Bool.false_ne_true, e]
            have eo : oneLines M i j r q = (List.range M.n).map fun b => ⟨i, some j, [q, b]⟩ := by unfold oneLines; rw [if_neg hr1]
            rw [eo]
            simp only [s_seq, s_set, s_op, s_lc, s_iRg, s_rg1, s_var, s_next]
            refine ⟨.ref n3, rfl, .dat (nT M.n), rfl, hsm, ?_⟩
            rw [rgT0]
            refine lc_map (fun t => .dat (.tup [nT i, nT j, .tup [nT q, t]])) (by trivial) (by simp; omega) (fun t R1 ht h1 => ?_) ?_
            · simpa using h1
            · simp only [s_addL]
              have h3l := (List.getElem?_eq_some_iff.mp hl3).1
              refine ⟨_, _, by rw [List.getElem?_append_left h3l]; exact hl3, by simp; rfl, by simp [lnD]; omega, ?_⟩
              refine ⟨pre_app (pre_app hpre3), _, _, _, ?_, by rw [List.getElem?_append_right (Nat.le_refl _)]; simp [lnD, fT, Function.comp_def], rfl⟩
              rw [List.length_append]; have := hpre3.length_le; omega
        · rintro σ S3 ⟨hpre3, n3, z7, z8, hn3', hl3, rfl⟩
          rw [List.length_map, List.take_length, oneLines_eq hr12] at hl3
          exact ⟨_, _, hpre3, n3, _, _, hn3', hl3, rfl⟩
      · rintro σ S2 ⟨y5, y6, hpre2, n2, y7, y8, hn2, hl2, rfl⟩
        rw [enumT_len, List.length_map, List.take_of_length_le (by rw [List.length_zipIdx]; omega)] at hl2
        have hacc2 := fnLines_len hM (c := i) (l := M.fs.zipIdx)
        have hcp := cpLines_len hM (c := i)
        rw [List.length_zipIdx] at hacc2
        rw [hA2, cellLines_eq, ← List.append_assoc]
        generalize hA3 : acc ++ M.fs.zipIdx.flatMap (fun x => fnLines M i x.2 x.1) = acc2 at *
        have hacc3 : acc2.length ≤ 100 := by rw [← hA3, List.length_append]; omega
        simp only [s_seq, s_set, s_op, s_lc, s_iRg, s_rg1, s_var, s_next]
        refine ⟨.ref n2, rfl, .dat (nT M.n), rfl, hsm, ?_⟩
        rw [rgT0]
        refine lc_pure (fun t => decide (t ≠ nT i)) (fun t => .dat (.tup [nT i, .none, .tup [t]])) (by trivial) (by simp; omega) (fun t R1 R0 ht h1 h0 => ?_) ?_
        · obtain ⟨s, _, rfl⟩ := List.mem_map.mp ht
          by_cases hsi : s = i
          · subst hsi
            simp at h0 ⊢; exact h0
          · have hsi2 : ¬ ((s : Int) = (i : Int)) := by omega
            simp [hsi2] at h1 ⊢; exact h1
        have e : (((List.range M.n).map nT).filter fun t => decide (t ≠ nT i)).map (fun t => D.dat (.tup [nT i, .none, .tup [t]])) = lnD (cpLines M i) := by
          rw [List.filter_map, List.map_map]
          have hcast : ∀ x : Nat, ((x : Int) = (i : Int)) = (x = i) := fun x => propext (by omega)
          simp [lnD, cpLines, Function.comp_def, fT, hcast]
        rw [e]
        have h2l := (List.getElem?_eq_some_iff.mp hl2).1
        simp only [s_addL]
        refine ⟨_, _, by rw [List.getElem?_append_left h2l]; exact hl2, by simp; rfl, by simp [lnD]; omega, ?_⟩
        rw [lnD_app]
        refine ⟨_, _, _, pre_app (pre_app hpre2), _, _, _, ?_, by rw [List.getElem?_append_right (Nat.le_refl _)]; simp, rfl⟩
        rw [List.length_append]; have := hpre2.length_le; omega
    · rintro σ S' ⟨x4, x5, x6, hpre, n, x7, x8, hn, hl, rfl⟩
      simp only [s_seq, s_ret, s_var]
      refine ⟨.ref n, rfl, h _ n hpre hn ?_⟩
      have : accL M ((List.range M.n).map nT).length = allLines M := by unfold accL; rw [List.length_map, List.take_length]; rfl
      rw [this] at hl
      exact hl
  · exact h.elim
end L2.LL

/-! # LLW16 -/
set_option Elab.async false
set_option linter.all false
set_option maxRecDepth 100000
set_option maxHeartbeats 2000000
namespace L2.LL
open PySem PySem.Spec PyProof.Rows
theorem set_pre {S S' : Sto} {n : Nat} {o : AO} (h : S <+: S') (hn : n < S.length) : S.set n o <+: S'.set n o := by
  obtain ⟨z, rfl⟩ := h
  rw [app_set hn]; exact List.prefix_append _ _
theorem w_Lprogram {g : Gp} : ∀ ds S Q, Sco S → F_Lprogram g ds S Q → fb_Lprogram g (EndG S Q) (startD N_Lprogram ds) S := by
  intro ds S Q hs h
  unfold F_Lprogram at h
  split at h
  · rename_i n _ _
    obtain ⟨M, k, o, rfl, rfl, hk, hM, h0, hr, h⟩ := h
    have hn := (List.getElem?_eq_some_iff.mp h0).1
    unfold fb_Lprogram
    simp only [s_start, s_seq, s_set, s_call, s_cons, s_nil, s_var]
    refine ⟨.dat M.t, rfl, M, rfl, hM, fun S' nl hpre hnl hl => ?_⟩
    have h0' := pre_get hpre h0
    have hn' := (List.getElem?_eq_some_iff.mp h0').1
    have hg : ∀ o', (S'.set n o')[n]? = some o' := fun o' => List.getElem?_set_self hn'
    have hne : n ≠ nl := by omega
    have hgl : ∀ o', (S'.set n o')[nl]? = some (.lst ((allLines M).map fun l => .dat l.t)) := fun o' => by rw [List.getElem?_set_ne hne]; exact hl
    have hall := allLines_take hM (i := M.n)
    rw [List.take_of_length_le (by simp)] at hall
    have hall' : (allLines M).length ≤ 63 := hall
    have hsc : ∀ o', Row g o' → Sco (S.set n o') := fun o' r => hs.set (row_sco r)
    simp only [s_seq, s_ret, s_gc, s_call, s_cons, s_nil, s_lc, s_iRg, s_rg1, s_var, s_op, s_C]
    intro hs'
    refine ⟨.ref n, rfl, .dat (nT k), rfl, ?_⟩
    simp only [s_addN]
    refine ⟨o, h0', hr, by omega, by omega, fun v o1 hv1 hv2 r1 => ?_⟩
    obtain ⟨m, rfl⟩ : ∃ m : Nat, v = (m : Int) := ⟨v.toNat, by omega⟩
    refine ⟨by unfold smallRg; omega, ?_⟩
    rw [rgT0]
    refine lc_row (fun d => ∃ l : Ln, d = .dat l.t ∧ l.Ok M) (hg o1) r1 (by simp; omega) (fun t o2 R ht r2 hR => ?_) (fun _ => trivial) (fun acc o2 hacc hal r2 => ?_)
    · rw [List.set_set]
      simp only [s_gN, s_call, s_cons, s_nil, s_var]
      have hpos : 0 < (allLines M).length := by
        by_cases h1 : M.fs = []
        · have := hM.f1; rw [h1] at this; simp at this
        · obtain ⟨r, fs, e⟩ := List.exists_cons_of_ne_nil h1
          have hr := hM.rd r (by rw [e]; simp)
          have hm : (⟨0, some 0, List.replicate r 0⟩ : Ln) ∈ allLines M := (allLines_mem hM).mpr ⟨hM.n1, fun s hs => by rw [List.eq_of_mem_replicate hs]; exact hM.n1, .inr ⟨0, rfl, by rw [e]; simp⟩⟩
          exact List.length_pos_of_mem hm
      refine ⟨.ref n, rfl, .ref nl, rfl, o2, _, hne, hg o2, r2, hgl o2, by simpa using hpos, by simp; omega, fun d o3 hd r3 => ?_⟩
      obtain ⟨l, hl1, rfl⟩ := List.mem_map.mp hd
      have := hR (.dat l.t) o3 ⟨l, rfl, (allLines_mem hM).mp hl1⟩ r3
      rw [List.set_set] at this ⊢
      exact this
    · obtain ⟨P, rfl, hP⟩ := list_of hacc
      rw [List.set_set]
      simp only [s_tupleOf]
      have hpl : P.length ≤ k := by simp at hal; omega
      refine ⟨P.map Ln.t, by simp [Function.comp_def], gcm (hs'.set (row_sco r2)) (List.prefix_append _ _) (by simp) ?_⟩
      exact gcm (hsc o2 r2) (set_pre hpre hn) (by simp) (h P o2 hP hpl r2)
  · exact h.elim
theorem w_Ltimes {g : Gp} : ∀ ds S Q, Sco S → F_Ltimes g ds S Q → fb_Ltimes g (EndG S Q) (startD N_Ltimes ds) S := by
  intro ds S Q hs h
  unfold F_Ltimes at h
  split at h
  · obtain ⟨P, k, rfl, rfl, hk1, hk, hPl, h⟩ := h
    unfold fb_Ltimes
    simp [s_start]
    refine ⟨fun i σ S' => S' = S ∧ ∃ x3, σ = [some (.dat (prT P)), some (.dat (nT k)), some (.dat (prT (dbl (P.take i) k))), x3], ⟨rfl, _, rfl⟩, fun _ _ _ _ => trivial, ?_, ?_⟩
    · rintro i t σ S' ht ⟨rfl, x3, rfl⟩
      rw [List.getElem?_map, Option.map_eq_some_iff] at ht
      obtain ⟨l, hl, rfl⟩ := ht
      have hi := (List.getElem?_eq_some_iff.mp hl).1
      have hdl : (dbl (P.take i) k).length ≤ 240 := by
        rw [dbl_len, List.length_take]
        exact Nat.le_trans (Nat.mul_le_mul (Nat.le_trans (Nat.min_le_right _ _) hPl) hk) (by decide)
      have ed : dbl (P.take (i + 1)) k = dbl (P.take i) k ++ List.replicate k l := by unfold dbl; rw [flat_succ hl]
      have er : (List.replicate (k : Int).toNat [l.t]).flatten = (List.replicate k l).map Ln.t := by
        rw [Int.toNat_natCast, List.map_replicate]
        induction k with
        | zero => rfl
        | succ k _ =>
          have : ∀ m : Nat, (List.replicate m [l.t]).flatten = List.replicate m l.t := fun m => by
            induction m with
            | zero => rfl
            | succ m ih => rw [List.replicate_succ, List.flatten_cons, ih]; rfl
          exact this _
      simp only [s_gN, s_seq, s_set, s_op, s_tup, s_cons, s_nil, s_var, s_next]
      refine ⟨_, rfl, .dat l.t, rfl, [l.t], rfl, by simp, .dat (nT k), rfl, ?_⟩
      simp only [s_mulT]
      refine ⟨by simp, by omega, by omega, by simp, ?_⟩
      rw [er]
      simp only [s_addT]
      refine ⟨by simp; omega, trivial, some (.dat l.t), ?_⟩
      rw [← List.map_append, ← ed]; rfl
    · rintro σ S' ⟨rfl, x3, rfl⟩
      rw [List.length_map, List.take_length]
      simp
      exact gcd0 hs h
  · exact h.elim
theorem isi_bl {b : Bool} {n : String} {r : Bool} {S : Sto} {Q : DQ} (h : kitB "bool" n = some r) : fIsi [.bl b, .raw (.ty n)] S Q ↔ Q (.bl r) S :=
  ⟨fun ⟨_, c, e, e2, q⟩ => by cases e; rw [h] at e2; cases e2; exact q, fun q => ⟨_, r, rfl, h, q⟩⟩
@[simp] theorem isi_blI {b : Bool} {S : Sto} {Q : DQ} : fIsi [.bl b, .raw (.ty "int")] S Q ↔ Q (.bl true) S := isi_bl (by decide +kernel)
@[simp] theorem isi_blB {b : Bool} {S : Sto} {Q : DQ} : fIsi [.bl b, .raw (.ty "bool")] S Q ↔ Q (.bl true) S := isi_bl (by decide +kernel)
@[simp] theorem isi_blS {b : Bool} {S : Sto} {Q : DQ} : fIsi [.bl b, .raw (.ty "str")] S Q ↔ Q (.bl false) S := isi_bl (by decide +kernel)
theorem kb_t : kitB "bool" "tuple" = some false := by decide +kernel
theorem kb_l : kitB "bool" "list" = some false := by decide +kernel
theorem w_Lalike {g : Gp} {FR : FD} : ∀ ds S Q, Sco S → F_Lalike g ds S Q → fb_Lalike g FR (EndG S Q) (startD N_Lalike ds) S := by
  intro ds S Q hs h
  unfold F_Lalike at h
  split at h
  · rename_i a b
    unfold fb_Lalike
    simp [s_start, tyD, kb_t, kb_l]
    exact gcb0 hs h
  · exact h.elim
end L2.LL

/-! # LLW17 -/
set_option Elab.async false
set_option linter.all false
set_option maxRecDepth 100000
set_option maxHeartbeats 2000000
namespace L2.LL
open PySem PySem.Spec PyProof.Rows
/-- a list of losses below n -/
structure LsOk (k n : Nat) (Ls : List Nat) : Prop where
  lt : ∀ x ∈ Ls, x < n
  up : Ls.Pairwise (· < ·)
  ok : LossOk k Ls
theorem LsOk.mono {k n m : Nat} {Ls : List Nat} (h : LsOk k n Ls) (hm : n ≤ m) : LsOk k m Ls := ⟨fun x hx => Nat.lt_of_lt_of_le (h.lt x hx) hm, h.up, h.ok⟩
theorem up_len {n : Nat} {Ls : List Nat} (h1 : ∀ x ∈ Ls, x < n) (h2 : Ls.Pairwise (· < ·)) : Ls.length ≤ n := by
  have := nodup_sub_length (l := Ls) (u := List.range n) (h2.imp fun h => by omega) fun x hx => List.mem_range.mpr (h1 x hx)
  simpa using this
theorem cut_last {α : Type} {l : List α} {k : Nat} (hk : 1 ≤ k) : cutA l (some (-(k : Int))) none = l.drop (l.length - k) := by
  unfold cutA
  have e : HT.sIx l.length 0 (some (-(k : Int))) = l.length - k := by
    show (if (-(k : Int)) < 0 then ((-(k : Int)) + (l.length : Int)).toNat else _) = _
    rw [if_pos (by omega)]; omega
  rw [e, HT.sIx_none, List.take_of_length_le (by simp)]
/-- the last k of Ls are not i - k .. i - 1: so i may be lost too -/
theorem ls_snoc {k i : Nat} {Ls : List Nat} (hk : 1 ≤ k) (h : LsOk k i Ls) (hne : (nTs Ls).drop ((nTs Ls).length - k) ≠ rgT ((i : Int) - k) i) : LsOk k (i + 1) (Ls ++ [i]) := by
  refine ⟨fun x hx => ?_, ?_, fun s => ?_⟩
  · rcases List.mem_append.mp hx with hx | hx
    · have := h.lt x hx; omega
    · have : x = i := by simpa using hx
      omega
  · rw [List.pairwise_append]
    refine ⟨h.up, by simp, fun a ha b hb => ?_⟩
    have : b = i := by simpa using hb
    rw [this]; exact h.lt a ha
  · obtain ⟨j, hj, hn⟩ := h.ok s
    by_cases e : s + j = i
    · -- all of s .. i - 1 in Ls, or one is missing
      by_cases hall : ∃ j', j' < j ∧ s + j' ∉ Ls
      · obtain ⟨j', h1, h2⟩ := hall
        refine ⟨j', by omega, fun z => ?_⟩
        rcases List.mem_append.mp z with z | z
        · exact h2 z
        · have : s + j' = i := by simpa using z
          omega
      · by_cases hjk : j = k
        · exfalso
          apply hne
          have hall' : ∀ j', j' < k → s + j' ∈ Ls := fun j' h1 => Classical.byContradiction fun z => hall ⟨j', by omega, z⟩
          -- Ls ends with s .. i - 1
          have hlast : Ls.drop (Ls.length - k) = (List.range k).map (s + ·) := by
            have key : ∀ (m : Nat) (L : List Nat), L.Pairwise (· < ·) → (∀ x ∈ L, x < s + m) → (∀ j', j' < m → s + j' ∈ L) → L.drop (L.length - m) = (List.range m).map (s + ·) := by
              intro m
              induction m with
              | zero => intro L _ _ _; simp
              | succ m ih =>
                intro L hp hlt hin
                have hm := hin m (by omega)
                have hneL : L ≠ [] := fun e => by rw [e] at hm; cases hm
                obtain ⟨L', x, rfl⟩ : ∃ L' x, L = L' ++ [x] := ⟨L.dropLast, L.getLast hneL, (List.dropLast_concat_getLast hneL).symm⟩
                rw [List.pairwise_append] at hp
                have hx : x = s + m := by
                  have h1 := hlt x (by simp)
                  rcases List.mem_append.mp hm with h2 | h2
                  · have := hp.2.2 _ h2 x (by simp); omega
                  · have : s + m = x := by simpa using h2
                    omega
                subst hx
                have ih' := ih L' hp.1 (fun y hy => hp.2.2 y hy _ (by simp)) (fun j' hj' => by
                  rcases List.mem_append.mp (hin j' (by omega)) with h2 | h2
                  · exact h2
                  · have : s + j' = s + m := by simpa using h2
                    omega)
                have hlen : m ≤ L'.length := by
                  have := congrArg List.length ih'
                  simp at this; omega
                have e1 : (L' ++ [s + m]).length - (m + 1) = L'.length - m := by rw [List.length_append, List.length_singleton]; omega
                rw [e1, List.drop_append_of_le_length (by omega), ih', List.range_succ, List.map_append]
                rfl
            exact key k Ls h.up (fun x hx => by have := h.lt x hx; omega) hall'
          have e2 : (nTs Ls).drop ((nTs Ls).length - k) = nTs (Ls.drop (Ls.length - k)) := by rw [List.length_map]; exact List.map_drop.symm
          rw [e2, hlast]
          unfold rgT
          have e3 : ((i : Int) - ((i : Int) - k)).toNat = k := by omega
          rw [e3]
          show ((List.range k).map (s + ·)).map nT = _
          rw [List.map_map]
          refine List.map_congr_left fun x _ => ?_
          show NestedKey.num ((s + x : Nat) : Int) = NestedKey.num ((i : Int) - k + x)
          congr 1
          omega
        · refine ⟨j + 1, by omega, fun z => ?_⟩
          rcases List.mem_append.mp z with z | z
          · have := h.lt _ z; omega
          · have : s + (j + 1) = i := by simpa using z
            omega
    · refine ⟨j, hj, fun z => ?_⟩
      rcases List.mem_append.mp z with z | z
      · exact hn z
      · exact e (by simpa using z)
abbrev lsT (Ls : List Nat) : T := .tup (nTs Ls)
def evI (nn kk : Nat) (S : Sto) (i : Nat) (σ : SD) (S' : Sto) : Prop := S <+: S' ∧ ∃ (n : Nat) (L : List (List Nat)) (x3 x4 x5 : Option D), S.length ≤ n ∧ S'[n]? = some (.lst ((L.map lsT).map .dat)) ∧ L.length ≤ 2 ^ i ∧ (∀ Ls ∈ L, LsOk kk i Ls) ∧
  σ = [some (.dat (nT nn)), some (.dat (nT kk)), some (.ref n), x3, x4, x5]
def evJ (nn kk : Nat) (S' : Sto) (n i : Nat) (q : Nat) (σ : SD) (S2 : Sto) : Prop := ∃ (L2 : List (List Nat)) (x5 : Option D), S2 = S' ++ [.lst ((L2.map lsT).map .dat)] ∧ L2.length ≤ q ∧ (∀ Ls ∈ L2, LsOk kk (i + 1) Ls) ∧
  σ = [some (.dat (nT nn)), some (.dat (nT kk)), some (.ref n), some (.dat (nT i)), some (.ref S'.length), x5]
theorem w_Levery_loss {g : Gp} : ∀ ds S Q, F_Levery_loss g ds S Q → fb_Levery_loss g (EndN Q) (startD N_Levery_loss ds) S := by
  intro ds S Q h
  unfold F_Levery_loss at h
  split at h
  · obtain ⟨nn, kk, rfl, rfl, hnn, hk1, hk3, h⟩ := h
    unfold fb_Levery_loss
    have hsm : smallRg 0 (nn : Int) := by unfold smallRg; omega
    simp only [s_start, s_seq, s_set, s_lst, s_tup, s_cons, s_nil, s_for, s_iRg, s_rg1, s_var]
    refine ⟨[], rfl, by simp, by simp, .dat (nT nn), rfl, hsm, ?_⟩
    rw [rgT0]
    refine ⟨evI nn kk S, ⟨List.prefix_append _ _, S.length, [[]], _, _, _, Nat.le_refl _, by simp, by simp, fun Ls hL => ?_, rfl⟩, fun _ _ _ _ => trivial, ?_, ?_⟩
    · have : Ls = [] := by simpa using hL
      subst this
      exact ⟨(fun _ h => nomatch h), .nil, fun i => ⟨0, by omega, by simp⟩⟩
    · rintro i t σ S' ht ⟨hpre, n, L, x3, x4, x5, hn, hl, hLl, hL, rfl⟩
      obtain ⟨rfl, hi⟩ := range_get ht
      have hpow : 2 ^ i ≤ 2 ^ 10 := Nat.pow_le_pow_right (by decide) (by omega)
      have hnl := (List.getElem?_eq_some_iff.mp hl).1
      have hl2 : ∀ o : AO, (S' ++ [o])[n]? = some (.lst ((L.map lsT).map .dat)) := fun o => by rw [List.getElem?_append_left hnl]; exact hl
      simp only [s_gN, s_seq, s_set, s_lst, s_nil, s_for, s_iL, s_var]
      refine ⟨by simp, .ref n, rfl, n, L.map lsT, rfl, hl2 _, ?_⟩
      refine ⟨evJ nn kk S' n i, ⟨[], _, by simp, by simp, (fun _ h => nomatch h), rfl⟩, fun q σ S2 ⟨L2, y5, e, _⟩ => by rw [e]; exact hl2 _, ?_, ?_⟩
      · rintro q t σ S2 hq ⟨L2, y5, rfl, hL2l, hL2, rfl⟩
        rw [List.getElem?_map, Option.map_eq_some_iff] at hq
        obtain ⟨Ls, hLs, rfl⟩ := hq
        have hq2 := (List.getElem?_eq_some_iff.mp hLs).1
        have lo := hL Ls (List.mem_of_getElem? hLs)
        have hll := up_len lo.lt lo.up
        simp only [s_gN, s_seq, s_if, s_test, s_op, s_cut, s_oAt, s_oNo, s_un, s_tupRg, s_rg2, s_var]
        refine ⟨.dat (lsT Ls), rfl, .dat (nT kk), rfl, ?_⟩
        simp only [s_neg]
        refine ⟨.dat (nT i), rfl, .dat (nT kk), rfl, ?_⟩
        simp only [s_sub]
        refine ⟨.dat (nT i), rfl, by unfold smallRg; omega, ?_⟩
        rw [cut_last hk1]
        have hs1 : Shal (.tup ((nTs Ls).drop ((nTs Ls).length - kk))) := by
          refine shal_of ?_ ?_
          · rw [noTx_tup, noTxs_iff]; intro t ht
            obtain ⟨x, _, rfl⟩ := List.mem_map.mp (List.mem_of_mem_drop ht); simp
          · rw [depth_tup]
            have := (depthAll_le (ts := (nTs Ls).drop ((nTs Ls).length - kk)) (d := 0)).mpr fun t ht => by
              obtain ⟨x, _, rfl⟩ := List.mem_map.mp (List.mem_of_mem_drop ht); simp
            omega
        have hs2 : Shal (.tup (rgT ((i : Int) - kk) i)) := by
          refine shal_of ?_ ?_
          · rw [noTx_tup, noTxs_iff]; intro t ht
            obtain ⟨x, _, rfl⟩ := List.mem_map.mp ht; simp
          · rw [depth_tup]
            have := (depthAll_le (ts := rgT ((i : Int) - kk) i) (d := 0)).mpr fun t ht => by
              obtain ⟨x, _, rfl⟩ := List.mem_map.mp ht; simp
            omega
        refine (s_eqD (n := true)).mpr ⟨hs1, hs2, ?_⟩
        by_cases e : (nTs Ls).drop ((nTs Ls).length - kk) = rgT ((i : Int) - kk) i
        · rw [decide_eq_true (by rw [e])]
          exact ⟨L2, _, rfl, by omega, hL2, rfl⟩
        · have e' : ¬ (NestedKey.tup ((nTs Ls).drop ((nTs Ls).length - kk)) = .tup (rgT ((i : Int) - kk) i)) := fun z => e (NestedKey.tup.inj z)
          rw [decide_eq_false e']
          simp only [if_true, Bool.not_false, s_seq, s_drop, s_append, s_op, s_tup, s_cons, s_nil, s_var, s_next]
          refine ⟨.ref S'.length, rfl, S'.length, rfl, ⟨_, by simp; rfl⟩, .dat (lsT Ls), rfl, .dat (nT i), rfl, [nT i], rfl, by simp, ?_⟩
          simp only [s_addT]
          refine ⟨by simp; omega, _, by simp; rfl, by simp; omega, ?_⟩
          rw [set_last]
          refine ⟨L2 ++ [Ls ++ [i]], _, by simp, by simp; omega, fun x hx => ?_, rfl⟩
          rcases List.mem_append.mp hx with hx | hx
          · exact hL2 x hx
          · have : x = Ls ++ [i] := by simpa using hx
            rw [this]; exact ls_snoc hk1 lo e
      · rintro σ S2 ⟨L2, y5, rfl, hL2l, hL2, rfl⟩
        rw [List.length_map] at hL2l
        simp only [s_seq, s_set, s_op, s_var, s_next]
        refine ⟨.ref n, rfl, .ref S'.length, rfl, ?_⟩
        simp only [s_addL]
        refine ⟨_, _, hl2 _, by simp; rfl, by simp; omega, ?_⟩
        refine ⟨pre_app (pre_app hpre), _, L ++ L2, _, _, _, ?_, by rw [List.getElem?_append_right (Nat.le_refl _)]; simp, by rw [List.length_append, Nat.pow_succ]; omega, fun x hx => ?_, rfl⟩
        · rw [List.length_append]; have := hpre.length_le; omega
        · rcases List.mem_append.mp hx with hx | hx
          · exact (hL x hx).mono (by omega)
          · exact hL2 x hx
    · rintro σ S' ⟨hpre, n, L, x3, x4, x5, hn, hl, hLl, hL, rfl⟩
      simp only [s_seq, s_ret, s_var]
      exact ⟨.ref n, rfl, h S' n L hpre (by rw [hl]; simp [Function.comp_def]) fun Ls hLs => (hL Ls hLs).ok⟩
  · exact h.elim
end L2.LL

/-! # LLW18 -/
set_option Elab.async false
set_option linter.all false
set_option maxRecDepth 100000
set_option maxHeartbeats 2000000
namespace L2.LL
open PySem PySem.Spec PyProof.Rows
theorem lc_rowJ {g : Gp} {S : Sto} {Q : DQ} {n : Nat} {o : AO} {ts : List T} {ok : Sto → Prop} {tg : TgD} {te : ED} {vs : List Nat} {σ : SD} (P : D → Prop) (h0 : S[n]? = some o) (hr : Row g o) (hz : ts.length ≤ 100000)
    (hs : ∀ (t : T) (o1 : AO) (J : Sto) (R : DQ), t ∈ ts → Row g o1 → (∀ d o2 J2, P d → Row g o2 → R d (S.set n o2 ++ J2)) → tg t (wipeD σ vs) fun σ2 => te σ2 (S.set n o1 ++ J) R) (hok : ∀ o' J, ok (S.set n o' ++ J))
    (h : ∀ acc o' J, (∀ d ∈ acc, P d) → acc.length = ts.length → Row g o' → Q (.ref (S.set n o' ++ J).length) (S.set n o' ++ J ++ [.lst acc])) : LcOk ts ok tg xYes te vs σ S Q := by
  refine ⟨fun i acc S' => ∃ o' J, S' = S.set n o' ++ J ∧ Row g o' ∧ (∀ d ∈ acc, P d) ∧ acc.length = i, ⟨o, [], by rw [set_same h0]; simp, hr, (fun _ h => nomatch h), rfl⟩, fun i acc S' ⟨o', J, e, _⟩ => by rw [e]; exact hok o' J, ?_, ?_⟩
  · rintro i t acc S' ht ⟨o1, J, rfl, r1, ha, hl⟩
    have hi := (List.getElem?_eq_some_iff.mp ht).1
    refine hs t o1 J _ (List.mem_of_getElem? ht) r1 fun d o2 J2 hd r2 => ⟨by omega, o2, J2, rfl, r2, fun x hx => ?_, by simp [hl]⟩
    rcases List.mem_append.mp hx with hx | hx
    · exact ha x hx
    · have : x = d := by simpa using hx
      rw [this]; exact hd
  · rintro acc S' ⟨o', J, rfl, r', ha, hl⟩
    exact h acc o' J ha hl r'
theorem stL_nil {P : List Ln} {h : List T} (i : Nat) : stL P [] h i = run h (P.take i) := by
  induction i with
  | zero => simp [stL, run]
  | succ i ih =>
    rw [stL]
    cases e : P[i]? with
    | none =>
      simp only
      rw [ih]
      have := List.getElem?_eq_none_iff.mp e
      rw [List.take_of_length_le this, List.take_of_length_le (by omega)]
    | some l => simp only [List.not_mem_nil, if_false]; rw [ih, run_succ e]
theorem rep_flat {t : T} (m : Nat) : (List.replicate m [t]).flatten = List.replicate m t := by
  induction m with
  | zero => rfl
  | succ m ih => rw [List.replicate_succ, List.flatten_cons, ih]; rfl
/-- the wishes so far -/
structure WPre (M : Mac) (i : Nat) (W : List Wish) : Prop where
  wt : ∀ w ∈ W, w.1 < i ∧ WT M w.2 ∧ w.2.depth ≤ 4
  up : W.Pairwise fun a b => a.1 < b.1
theorem wt_shalL {M : Mac} {W : List Wish} (h : ∀ w ∈ W, WT M w.2 ∧ w.2.depth ≤ 4) : ShalL (W.map wT) := by
  refine shalL_of (noTxs_iff.mpr fun t ht => ?_) (depthAll_le.mpr fun t ht => ?_)
  · obtain ⟨w, hw, rfl⟩ := List.mem_map.mp ht
    rw [noTx_tup]; simp [noTxs, (h w hw).1.noTx]
  · obtain ⟨w, hw, rfl⟩ := List.mem_map.mp ht
    rw [depth_tup]; have := (h w hw).2; simp; omega
theorem shalL_nil : ShalL [] := shalL_of rfl (by simp)
theorem w_Lwishes {g : Gp} : ∀ ds S Q, Sco S → F_Lwishes g ds S Q → fb_Lwishes g (EndG S Q) (startD N_Lwishes ds) S := by
  intro ds S Q hs h
  unfold F_Lwishes at h
  split at h
  · rename_i n _
    obtain ⟨M, o, rfl, hM, h0, hr, h⟩ := h
    have hn := (List.getElem?_eq_some_iff.mp h0).1
    have hn3 := hM.n3
    have hg : ∀ o', (S.set n o')[n]? = some o' := fun o' => List.getElem?_set_self hn
    have hgJ : ∀ o' J, (S.set n o' ++ J)[n]? = some o' := fun o' J => set_get hn
    have hsc : ∀ o', Row g o' → Sco (S.set n o') := fun o' r => hs.set (row_sco r)
    have hsm : smallRg 0 (M.n : Int) := by unfold smallRg; omega
    -- what follows on the cells held
    have last : ∀ (hd : List T) (o1 : AO) (y2 y4 y5 : Option D), HT M 4 hd → Row g o1 →
        bSeq (bSet 5 (dLc (iRg (rg1 (dOp (opIx g) (dVar 1) (dC (.dat (.num 0)))))) (gN 4) (dTest (dOp opGt (dCall (F_Ltaken g) (dCons (dVar 0) (dCons (dC (.dat (.num 3))) dNil))) (dC (.dat (.num 0))))) (dTup (dCons (dVar 4) (dCons (dOp (opIx g) (dVar 3) (dVar 4)) dNil))) [4]))
          (bSeq (bRet (dIf (xGc (dTest (dOp opNe (dVar 5) (dLst dNil)))) (dCall fTupleOf (dCons (dVar 5) dNil)) (dTup (dCons (dTup (dCons (dC (.dat (.num 0))) (dCons (dOp (opIx g) (dVar 3) (dC (.dat (.num 0)))) dNil))) dNil)))) bNext) (EndG S Q)
          [some (.ref n), some (.dat M.t), y2, some (.dat (.tup hd)), y4, y5] (S.set n o1) := by
      intro hd o1 y2 y4 y5 H r1
      simp only [s_seq, s_set, s_lc, s_iRg, s_rg1, s_op, s_var, s_C]
      refine ⟨.dat M.t, rfl, ?_⟩
      simp only [s_ixT, s_at0]
      refine ⟨_, rfl, hsm, ?_⟩
      rw [rgT0]
      refine ⟨fun i acc S' => ∃ o' W, S' = S.set n o' ∧ Row g o' ∧ acc = (W.map wT).map .dat ∧ W.length ≤ i ∧ WPre M i W, ⟨o1, [], rfl, r1, rfl, Nat.le_refl _, (fun _ h => nomatch h), .nil⟩, fun _ _ _ _ => trivial, ?_, ?_⟩
      · rintro i t acc S' ht ⟨o2, W, rfl, r2, rfl, hWl, hW⟩
        obtain ⟨rfl, hi⟩ := range_get ht
        obtain ⟨u, hu, wu, du⟩ := H.get hi
        simp only [s_gN, s_test, s_op, s_call, s_cons, s_nil, s_var, s_C]
        refine ⟨.ref n, rfl, o2, hg o2, r2, by decide, by decide, fun v o3 hv1 hv2 r3 => ?_⟩
        simp only [s_cmp, List.set_set]
        by_cases hv : 0 < v
        · rw [decide_eq_true hv]
          simp only [s_tup, s_cons, s_nil, s_op, s_var]
          refine ⟨.dat (nT i), rfl, .dat (.tup hd), rfl, .dat (nT i), rfl, ?_⟩
          simp only [s_ixT, s_atN]
          refine ⟨u, hu, [nT i, u], rfl, by simp, by simp; omega, o3, W ++ [(i, u)], rfl, r3, by simp, by simp; omega, fun w hw => ?_, ?_⟩
          · rcases List.mem_append.mp hw with hw | hw
            · have := hW.wt w hw; exact ⟨by omega, this.2⟩
            · have : w = (i, u) := by simpa using hw
              subst this; exact ⟨by simp, wu, du⟩
          · rw [List.pairwise_append]
            refine ⟨hW.up, by simp, fun a ha b hb => ?_⟩
            have : b = (i, u) := by simpa using hb
            subst this; exact (hW.wt a ha).1
        · rw [decide_eq_false hv]
          exact ⟨o3, W, rfl, r3, rfl, by omega, fun w hw => by have := hW.wt w hw; exact ⟨by omega, this.2⟩, hW.up⟩
      · rintro acc S' ⟨o2, W, rfl, r2, rfl, hWl, hW⟩
        rw [List.length_map, List.length_range] at hW
        have hl5 : (S.set n o2 ++ [AO.lst ((W.map wT).map .dat)])[(S.set n o2).length]? = some (.lst ((W.map wT).map .dat)) := by simp
        simp only [s_seq, s_ret, s_dIf, s_xgc, s_test, s_op, s_lst, s_nil, s_var]
        intro hs'
        refine ⟨.ref (S.set n o2).length, rfl, by simp, ?_⟩
        refine (s_eqL (n := true)).mpr ⟨W.map wT, [], by rw [List.getElem?_append_left (by simp)]; exact hl5, by simp, wt_shalL fun w hw => (hW.wt w hw).2, shalL_nil, ?_⟩
        refine ⟨_, List.prefix_append _ _, by simp, hs', ?_⟩
        by_cases he : W = []
        · subst he
          simp only [List.map_nil, decide_true, Bool.not_true, if_true, s_tup, s_cons, s_nil, s_C, s_op, s_var]
          obtain ⟨u, hu, wu, du⟩ := H.get hM.n1
          refine ⟨.dat (.tup hd), rfl, ?_⟩
          have h00 : atI hd 0 = some u := atI_nat (j := 0) hu
          simp only [s_ixT]
          refine ⟨u, h00, [.num 0, u], rfl, by simp, [.tup [.num 0, u]], rfl, by simp, ?_⟩
          exact gcm (hsc o2 r2) (List.prefix_append _ _) (by simp) (h [(0, u)] o2 ⟨by simp, fun w hw => by
            have : w = (0, u) := by simpa using hw
            subst this; exact ⟨hM.n1, wu, du⟩, by simp⟩ r2)
        · have he' : ¬ (W.map wT = []) := by simpa using he
          simp only [if_true, decide_eq_false he', Bool.not_false, s_call, s_cons, s_nil, s_var, s_tupleOf]
          refine ⟨.ref (S.set n o2).length, rfl, W.map wT, hl5, ?_⟩
          exact gcm (hsc o2 r2) (List.prefix_append _ _) (by simp) (h W o2 ⟨he, hW.wt, hW.up⟩ r2)
    unfold fb_Lwishes
    simp only [s_start, s_seq, s_if, s_test, s_op, s_call, s_cons, s_nil, s_var, s_C]
    refine ⟨.ref n, rfl, o, h0, hr, by decide, by decide, fun v o1 hv1 hv2 r1 => ?_⟩
    simp only [s_cmp]
    by_cases hv : 0 < v
    · rw [decide_eq_true hv]
      simp only [s_seq, s_set, s_call, s_cons, s_nil, s_var, s_C, s_tup, s_next]
      refine ⟨.dat M.t, rfl, .ref n, rfl, .dat M.t, rfl, M, 5, o1, rfl, rfl, by decide, hM, hg o1, r1, fun P o2 hP hPl r2 => ?_⟩
      rw [List.set_set]
      refine ⟨M, P, rfl, rfl, hM, hP, by omega, fun P' hP' hPl' ht' => ?_⟩
      refine ⟨.dat M.t, rfl, .dat (prT P'), rfl, [], rfl, by simp, M, P', [], rfl, rfl, rfl, hM, hP', by omega, fun i => by rw [stL_nil]; exact (ht' i).mono (by omega), ?_⟩
      have := last (stL P' [] (firsts M.n) P'.length) o2 (some (.dat (prT P'))) none none (by rw [stL_nil]; exact ht' _) r2
      exact this
    · rw [decide_eq_false hv]
      have hr0 : ∃ r, M.fs[0]? = some r ∧ (r = 1 ∨ r = 2) := by
        have := hM.f1
        exact ⟨M.fs[0], List.getElem?_eq_getElem (by omega), hM.rd _ (List.getElem_mem _)⟩
      obtain ⟨r, hr0, hr12⟩ := hr0
      have hw2 : WT M (.tup (nT 0 :: List.replicate r (nT 0))) := .tup (by rw [List.length_replicate]; exact hr0) fun t ht => by rw [List.eq_of_mem_replicate ht]; exact .leaf hM.n1
      have hd2 : (NestedKey.tup (nT 0 :: List.replicate r (nT 0))).depth ≤ 0 + 1 := arg_depth fun t ht => by rw [List.eq_of_mem_replicate ht]; simp
      simp only [s_seq, s_set, s_gc, s_call, s_cons, s_nil, s_lc, s_iRg, s_rg1, s_op, s_var, s_C, s_next]
      intro hs'
      refine ⟨.dat M.t, rfl, ?_⟩
      simp only [s_ixT, s_at0]
      refine ⟨_, rfl, hsm, ?_⟩
      rw [rgT0]
      refine lc_rowJ (fun d => ∃ t, d = .dat t ∧ (WT M t ∧ t.depth ≤ 4)) (hg o1) r1 (by simp; omega) (fun t o2 J R ht r2 hR => ?_) (fun _ _ => trivial) (fun acc o2 J hacc hal r2 => ?_)
      · rw [List.set_set]
        simp only [s_gN, s_call, s_cons, s_nil, s_lst, s_tup, s_op, s_var, s_C]
        refine ⟨.ref n, rfl, [.num 0], rfl, by simp, [.num 0], rfl, by simp, .dat M.t, rfl, ?_⟩
        simp only [s_ixT, s_at1, s_at0]
        refine ⟨_, rfl, ?_⟩
        have h00 : atI (nTs M.fs) 0 = some (nT r) := atI_nat (j := 0) (by rw [List.getElem?_map, hr0]; rfl)
        simp only [s_ixT]
        refine ⟨_, h00, ?_⟩
        simp only [s_mulT]
        refine ⟨by simp, by omega, by omega, by simp, ?_⟩
        rw [Int.toNat_natCast, rep_flat]
        simp only [s_addT]
        refine ⟨by simp; omega, by simp, ?_⟩
        refine ⟨o2, [.dat (.num 0), .dat (.tup ([.num 0] ++ List.replicate r (.num 0)))], by simp; omega, by rw [List.append_assoc]; exact hgJ o2 _, r2, by simp, by simp, by simp, fun d o3 hd r3 => ?_⟩
        rw [List.append_assoc, app_set (by simpa using hn), List.set_set]
        have hP : ∃ t, d = .dat t ∧ (WT M t ∧ t.depth ≤ 4) := by
          rcases List.mem_cons.mp hd with rfl | hd
          · exact ⟨_, rfl, .leaf hM.n1, by simp⟩
          · have : d = .dat (.tup ([.num 0] ++ List.replicate r (.num 0))) := by simpa using hd
            exact ⟨_, this, hw2, by have := hd2; simp only [List.singleton_append]; exact Nat.le_trans this (by decide)⟩
        have := hR d o3 (J ++ [.lst [.dat (.num 0), .dat (.tup ([.num 0] ++ List.replicate r (.num 0)))]]) hP r3
        rw [List.set_set] at this
        exact this
      · obtain ⟨hd, rfl, hhd⟩ := list_of hacc
        rw [List.set_set]
        simp only [s_tupleOf]
        refine ⟨hd, by simp, gcm (hs'.set (row_sco r2)) (by rw [List.set_set, List.append_assoc]; exact List.prefix_append _ _) (by simp) ?_⟩
        rw [List.set_set]
        have := last hd o2 none none none ⟨by simpa using hal, hhd⟩ r2
        simp only [s_seq, s_set, s_gc, s_call, s_cons, s_nil, s_lc, s_iRg, s_rg1, s_op, s_var, s_C, s_next] at this
        exact this
  · exact h.elim
end L2.LL

/-! # LLW19 -/
set_option Elab.async false
set_option linter.all false
set_option maxRecDepth 100000
set_option maxHeartbeats 2000000
namespace L2.LL
open PySem PySem.Spec PyProof.Rows
def argsT : T → List T
  | .tup (_ :: us) => us
  | _ => []
theorem WT.subs_len {M : Mac} (hM : M.Ok) {t : T} (w : WT M t) : (subs t).length = 1 + ((argsT t).flatMap subs).length := by
  rcases w.cases hM with ⟨i, rfl, _⟩ | ⟨f, ts, rfl, _⟩
  · simp [argsT]
  · simp [argsT]; omega
/-- what _law_parts keeps -/
structure LP (W : List Wish) (ps ls : List T) : Prop where
  nd : ps.Nodup
  mem : ∀ t, t ∈ ps ∨ t ∈ ls → t ∈ parts W
  ws : ∀ w ∈ W, w.2 ∈ ps ∨ w.2 ∈ ls
  cl : ∀ t ∈ ps, ∀ u ∈ argsT t, u ∈ ps ∨ u ∈ ls
theorem closed_subs {M : Mac} {ps : List T} {t : T} (w : WT M t) (h : t ∈ ps) (cl : ∀ t ∈ ps, ∀ u ∈ argsT t, u ∈ ps) : ∀ u ∈ subs t, u ∈ ps := by
  induction w with
  | @leaf i hi =>
    intro u hu
    have : u = nT i := by simpa using hu
    rw [this]; exact h
  | @tup f ts hf hts ih =>
    intro u hu
    rw [subs_tup] at hu
    rcases List.mem_cons.mp hu with rfl | hu
    · exact h
    · obtain ⟨t, ht, hu⟩ := List.mem_flatMap.mp hu
      exact ih t ht (cl _ h t ht) u hu
theorem LP.done {M : Mac} {W : List Wish} {ps : List T} (hM : M.Ok) (hW : WOk M W) (h : LP W ps []) (t : T) : t ∈ ps ↔ t ∈ parts W := by
  constructor
  · exact fun z => h.mem t (.inl z)
  · intro z
    obtain ⟨w, hw, hu⟩ := parts_mem.mp z
    have h1 : w.2 ∈ ps := (h.ws w hw).elim id fun z => nomatch z
    exact closed_subs (hW.wt w hw).2.1 h1 (fun t ht u hu => (h.cl t ht u hu).elim id fun z => nomatch z) t hu
theorem args_parts {M : Mac} {W : List Wish} (hM : M.Ok) (hW : WOk M W) {t : T} (h : t ∈ parts W) : ∀ u ∈ argsT t, u ∈ parts W := by
  intro u hu
  rcases (parts_wt hM hW h).1.cases hM with ⟨i, rfl, _⟩ | ⟨f, ts, rfl, _⟩
  · cases hu
  · exact parts_arg hM hW h u hu
def lpI (W : List Wish) (S : Sto) (m : Nat) (σ : SD) (S' : Sto) : Prop := ∃ (ps ls : List T) (l : Sto) (j : Nat) (x3 x4 : Option D), S' = S ++ [.lst (ps.map .dat)] ++ l ∧ l[j]? = some (.lst (ls.map .dat)) ∧ LP W ps ls ∧
  m = (ls.flatMap subs).length ∧ m ≤ 2000 ∧ σ = [some (.dat (wsT W)), some (.ref S.length), some (.ref (S.length + 1 + j)), x3, x4]
theorem flat_len_le {ls : List T} : ls.length ≤ (ls.flatMap subs).length := by
  induction ls with
  | nil => simp
  | cons t ls ih =>
    have := List.length_pos_of_mem (subs_self (t := t))
    simp only [List.flatMap_cons, List.length_append, List.length_cons]; omega
theorem WOk.len {M : Mac} {W : List Wish} (hM : M.Ok) (hW : WOk M W) : W.length ≤ 3 := by
  have := nodup_sub_length (l := W.map (·.1)) (u := List.range M.n) (by
    have := hW.up
    rw [List.Nodup, List.pairwise_map]
    exact this.imp fun h => by omega) (fun x hx => by
      obtain ⟨w, hw, rfl⟩ := List.mem_map.mp hx
      exact List.mem_range.mpr (hW.wt w hw).1)
  rw [List.length_map, List.length_range] at this
  have := hM.n3
  omega
theorem w_Lparts {g : Gp} : ∀ ds S Q, Sco S → F_Lparts g ds S Q → fb_Lparts g (EndG S Q) (startD N_Lparts ds) S := by
  intro ds S Q hs h
  unfold F_Lparts at h
  split at h
  · obtain ⟨M, W, rfl, hM, hW, h⟩ := h
    have hWl := hW.len hM
    unfold fb_Lparts
    simp only [s_start, s_seq, s_par, s_lst, s_nil, s_cons, s_lc, s_iT, s_var]
    refine ⟨by simp, .dat (wsT W), rfl, W.map wT, rfl, ?_⟩
    refine lc_map (fun t => match t with | .tup [_, x] => .dat x | _ => .bl true) (by trivial) (by simp; omega) (fun t R1 ht h1 => ?_) ?_
    · obtain ⟨w, hw, rfl⟩ := List.mem_map.mp ht
      simpa using h1
    have e0 : (W.map wT).map (fun t => match t with | .tup [_, x] => D.dat x | _ => D.bl true) = (W.map (·.2)).map .dat := by simp [Function.comp_def]
    rw [e0]
    refine ⟨_, _, rfl, ?_⟩
    rw [s_while]
    have hm0 : ((W.map (·.2)).flatMap subs).length ≤ 2000 := by
      have := flat_le hM (ts := W.map (·.2)) fun t ht => by
        obtain ⟨w, hw, rfl⟩ := List.mem_map.mp ht
        exact ⟨(hW.wt w hw).2.1, by have := (hW.wt w hw).2.2; omega⟩
      rw [List.length_map] at this; omega
    refine ⟨lpI W S, ⟨_, [], W.map (·.2), [.lst ((W.map (·.2)).map .dat)], 0, _, _, rfl, rfl, ⟨List.nodup_nil, fun t ht => ?_, fun w hw => .inr (List.mem_map.mpr ⟨w, hw, rfl⟩), fun _ h => nomatch h⟩, rfl, hm0, by simp; exact ⟨rfl, rfl⟩⟩, ?_⟩
    · rcases ht with ht | ht
      · cases ht
      · obtain ⟨w, hw, rfl⟩ := List.mem_map.mp ht; exact parts_wish hw
    rintro m σ S' ⟨ps, ls, l, j, x3, x4, rfl, hl, lp, rfl, hm2, rfl⟩
    have hjl := (List.getElem?_eq_some_iff.mp hl).1
    have hwt : ∀ t, t ∈ ps ∨ t ∈ ls → WT M t ∧ t.depth ≤ 4 := fun t ht => parts_wt hM hW (lp.mem t ht)
    have hlsl := flat_len_le (ls := ls)
    have hpsl : ps.length ≤ 2000 := by
      have := nodup_sub_length lp.nd (u := W.flatMap fun w => subs w.2) fun t ht => by
        obtain ⟨w, hw, hu⟩ := parts_mem.mp (lp.mem t (.inl ht))
        exact List.mem_flatMap.mpr ⟨w, hw, hu⟩
      have e : (W.flatMap fun w => subs w.2) = (W.map (·.2)).flatMap subs := by rw [List.flatMap_map]
      rw [e] at this; omega
    have hshl : ShalL ls := shalL_of (noTxs_iff.mpr fun t ht => (hwt t (.inr ht)).1.noTx) (depthAll_le.mpr fun t ht => by have := (hwt t (.inr ht)).2; omega)
    simp only [s_xgc, s_test, s_op, s_lst, s_nil, s_var]
    intro hs'
    refine ⟨.ref (S.length + 1 + j), rfl, by simp, ?_⟩
    refine (s_eqL (n := true)).mpr ⟨ls, [], by rw [List.append_assoc, mid_get]; exact pre_get (List.prefix_append _ _) hl, by simp, hshl, shalL_nil, ?_⟩
    refine ⟨_, List.prefix_append _ _, Nat.le_refl _, hs', ?_⟩
    by_cases he : ls = []
    · subst he
      simp only [decide_true, if_true, Bool.not_true, s_seq, s_ret, s_var]
      exact ⟨.ref S.length, rfl, gcl hs sco_lst ⟨l, rfl⟩ (h ps lp.nd (lp.done hM hW))⟩
    · simp only [if_true, decide_eq_false he, Bool.not_false, s_seq, s_set, s_pop, s_var]
      obtain ⟨ls', t, rfl⟩ : ∃ ls' t, ls = ls' ++ [t] := ⟨ls.dropLast, ls.getLast he, (List.dropLast_concat_getLast he).symm⟩
      have htw := hwt t (.inr (by simp))
      have htp := lp.mem t (.inr (by simp))
      refine ⟨.ref (S.length + 1 + j), rfl, S.length + 1 + j, ls'.map .dat, .dat t, rfl, by rw [mid_get, hl]; simp, ?_⟩
      rw [mid_set]
      have hset : (l.set j (AO.lst (ls'.map .dat)))[j]? = some (.lst (ls'.map .dat)) := List.getElem?_set_self hjl
      have hsl : (l.set j (AO.lst (ls'.map .dat))).length = l.length := List.length_set
      generalize hl' : l.set j (AO.lst (ls'.map .dat)) = l' at *
      simp only [s_if, s_test, s_op, s_var]
      refine ⟨.dat t, rfl, .ref S.length, rfl, ?_⟩
      simp only [s_inL]
      refine ⟨ps, get_mid, htw.1.shal (by omega), noTxs_iff.mpr fun t ht => (hwt t (.inl ht)).1.noTx, ?_⟩
      have hml : ((ls' ++ [t]).flatMap subs).length = (ls'.flatMap subs).length + (subs t).length := by simp
      have hsub := htw.1.subs_len hM
      by_cases hin : t ∈ ps
      · rw [decide_eq_true hin]
        refine ⟨(ls'.flatMap subs).length, by omega, ps, ls', l', j, _, _, rfl, hset, ⟨lp.nd, fun u hu => lp.mem u (hu.imp id fun z => by simp [z]), fun w hw => ?_, fun u hu v hv => ?_⟩, rfl, by omega, rfl⟩
        · rcases lp.ws w hw with z | z
          · exact .inl z
          · rcases List.mem_append.mp z with z | z
            · exact .inr z
            · have : w.2 = t := by simpa using z
              exact .inl (this ▸ hin)
        · rcases lp.cl u hu v hv with z | z
          · exact .inl z
          · rcases List.mem_append.mp z with z | z
            · exact .inr z
            · have : v = t := by simpa using z
              exact .inl (this ▸ hin)
      · rw [decide_eq_false hin]
        simp only [if_true, Bool.not_false, s_seq, s_drop, s_append, s_set, s_op, s_var, s_next]
        refine ⟨.ref S.length, rfl, S.length, rfl, ⟨_, get_mid⟩, .dat t, rfl, _, get_mid, by simp; omega, ?_⟩
        rw [set_mid]
        have e1 : ps.map D.dat ++ [.dat t] = (ps ++ [t]).map .dat := by simp
        rw [e1]
        have fin : ∀ us : List T, us = argsT t → opAdd (.ref (S.length + 1 + j)) (.ref (S ++ [AO.lst ((ps ++ [t]).map .dat)] ++ l').length) (S ++ [AO.lst ((ps ++ [t]).map .dat)] ++ l' ++ [.lst (us.map .dat)]) fun d S1 =>
            ∃ k, k < ((ls' ++ [t]).flatMap subs).length ∧ lpI W S k [some (.dat (wsT W)), some (.ref S.length), some d, x3, some (.dat t)] S1 := by
          rintro us rfl
          have hal : ((argsT t).flatMap subs).length ≤ 2000 := by omega
          have hal2 := flat_len_le (ls := argsT t)
          have hls2 := flat_len_le (ls := ls')
          have el : ∀ o : AO, S ++ [AO.lst ((ps ++ [t]).map .dat)] ++ l' ++ [o] = S ++ [AO.lst ((ps ++ [t]).map .dat)] ++ (l' ++ [o]) := fun o => by simp
          refine ⟨ls'.map .dat, (argsT t).map .dat, by rw [el, mid_get]; exact pre_get (List.prefix_append _ _) hset, by simp, by simp; omega, ?_⟩
          have e5 : (S ++ [AO.lst ((ps ++ [t]).map .dat)] ++ l' ++ [AO.lst ((argsT t).map .dat)]).length = S.length + 1 + (l'.length + 1) := by simp; omega
          rw [e5, ← List.map_append]
          refine ⟨((ls' ++ argsT t).flatMap subs).length, by rw [hml, List.flatMap_append, List.length_append]; omega, ps ++ [t], ls' ++ argsT t, l' ++ [.lst ((argsT t).map .dat), .lst ((ls' ++ argsT t).map .dat)], l'.length + 1, _, _, by simp, ?_, ⟨?_, fun u hu => ?_, fun w hw => ?_, fun u hu v hv => ?_⟩, rfl, by rw [List.flatMap_append, List.length_append]; omega, rfl⟩
          · rw [List.getElem?_append_right (by omega)]; simp
          · rw [List.nodup_append]
            refine ⟨lp.nd, by simp, fun a ha b hb e => ?_⟩
            have : b = t := by simpa using hb
            subst this; subst e; exact hin ha
          · rcases hu with hu | hu
            · rcases List.mem_append.mp hu with hu | hu
              · exact lp.mem u (.inl hu)
              · have : u = t := by simpa using hu
                rw [this]; exact htp
            · rcases List.mem_append.mp hu with hu | hu
              · exact lp.mem u (.inr (by simp [hu]))
              · exact args_parts hM hW htp u hu
          · rcases lp.ws w hw with z | z
            · exact .inl (by simp [z])
            · rcases List.mem_append.mp z with z | z
              · exact .inr (by simp [z])
              · have : w.2 = t := by simpa using z
                exact .inl (by simp [this])
          · rcases List.mem_append.mp hu with hu | hu
            · rcases lp.cl u hu v hv with z | z
              · exact .inl (by simp [z])
              · rcases List.mem_append.mp z with z | z
                · exact .inr (by simp [z])
                · have : v = t := by simpa using z
                  exact .inl (by simp [this])
            · have : u = t := by simpa using hu
              subst this
              exact .inr (by simp [hv])
        refine ⟨.ref (S.length + 1 + j), rfl, ?_⟩
        simp only [s_dIf, s_truth, s_call, s_cons, s_nil, s_var, s_C]
        refine ⟨.dat t, rfl, ?_⟩
        simp only [s_isiT]
        rcases htw.1.cases hM with ⟨i, rfl, _⟩ | ⟨f, ts, rfl, _⟩
        · simp only [isTup_n, s_lst, s_nil]
          exact ⟨by simp, fin [] rfl⟩
        · simp only [isTup_t, s_call, s_cons, s_nil, s_cut, s_oAt, s_oNo, s_var, s_C]
          refine ⟨_, rfl, ?_⟩
          simp only [s_listOf]
          have hc : cutA (nT f :: ts) (some 1) none = ts := cut_1
          have := fin ts rfl
          simp only [hc]
          exact this
  · exact h.elim
end L2.LL

/-! # LLW20 -/
set_option Elab.async false
set_option linter.all false
set_option maxRecDepth 100000
set_option maxHeartbeats 2000000
namespace L2.LL
open PySem PySem.Spec PyProof.Rows
theorem bval_no {M : Mac} {h : BS} {l : Ln} (hl : l.Ok M) (hn : ∃ s ∈ l.src, h[s]? = some none) : bval h l = none := by
  obtain ⟨s, hs, e⟩ := hn
  unfold bval
  rcases hl.fn with ⟨ef, s', e2, e3⟩ | ⟨i, ef, e2⟩
  · rw [ef, e2]
    rw [e2] at hs
    have : s = s' := by simpa using hs
    subst this
    simp [e]
  · rw [ef]
    simp only
    rw [if_neg]
    intro z
    have := z s hs
    rw [e] at this; cases this
abbrev encH (h : BS) : T := .tup (h.map encL)
theorem bval_all {M : Mac} {h : BS} {l : Ln} (hl : l.Ok M) (ha : ∀ s ∈ l.src, ∃ t, h[s]? = some (some t)) : bval h l = some (val (h.map encL) l) := by
  unfold bval val
  rcases hl.fn with ⟨ef, s, e2, e3⟩ | ⟨i, ef, e2⟩
  · obtain ⟨t, ht⟩ := ha s (by simp [e2])
    rw [ef, e2]
    simp [ht, encL]
  · rw [ef]
    simp only
    have hall : ∀ s ∈ l.src, ((h[s]?).getD none).isSome = true := fun s hs => by obtain ⟨t, ht⟩ := ha s hs; rw [ht]; rfl
    rw [if_pos hall]
    congr 3
    refine List.map_congr_left fun s hs => ?_
    obtain ⟨t, ht⟩ := ha s hs
    rw [List.getElem?_map, ht]; rfl
theorem encL_inj {M : Mac} {ps : List T} (hps : ∀ t ∈ ps, WT M t) {o u : Option T} (h : ∀ t, o = some t → t ∈ ps) (k : ∀ t, u = some t → t ∈ ps) : encL o = encL u ↔ o = u := by
  have hn : ∀ t ∈ ps, t ≠ .none := fun t ht e => by have := hps t ht; rw [e] at this; cases this
  constructor
  · intro e
    cases o with
    | none =>
      cases u with
      | none => rfl
      | some v => exact absurd e.symm (hn v (k v rfl))
    | some t =>
      cases u with
      | none => exact absurd e (hn t (h t rfl))
      | some v => exact congrArg some e
  · exact fun e => by rw [e]
theorem map_encL_inj {M : Mac} {ps : List T} (hps : ∀ t ∈ ps, WT M t) : ∀ {a b : BS}, (∀ t, some t ∈ a → t ∈ ps) → (∀ t, some t ∈ b → t ∈ ps) → a.map encL = b.map encL → a = b
  | [], [], _, _, _ => rfl
  | [], _ :: _, _, _, e => by cases e
  | _ :: _, [], _, _, e => by cases e
  | x :: a, y :: b, ha, hb, e => by
    rw [List.map_cons, List.map_cons, List.cons.injEq] at e
    have h1 : x = y := (encL_inj hps (fun t e => ha t (by rw [← e]; simp)) (fun t e => hb t (by rw [← e]; simp))).mp e.1
    rw [h1, map_encL_inj hps (fun t ht => ha t (List.mem_cons_of_mem _ ht)) (fun t ht => hb t (List.mem_cons_of_mem _ ht)) e.2]
theorem encH_inj {M : Mac} {ps : List T} (hps : ∀ t ∈ ps, WT M t) {a b : BS} (ha : BOk M ps a) (hb : BOk M ps b) : encH a = encH b ↔ a = b :=
  ⟨fun e => map_encL_inj hps ha.ps hb.ps (NestedKey.tup.inj e), fun e => by rw [e]⟩
theorem encL_dp {M : Mac} {ps : List T} (hps : ∀ t ∈ ps, WT M t ∧ t.depth ≤ 4) {o : Option T} (h : ∀ t, o = some t → t ∈ ps) : noTx (encL o) = true ∧ (encL o).depth ≤ 4 := by
  cases o with
  | none => simp [encL]
  | some t => exact ⟨(hps t (h t rfl)).1.noTx, (hps t (h t rfl)).2⟩
theorem encH_dp {M : Mac} {ps : List T} (hps : ∀ t ∈ ps, WT M t ∧ t.depth ≤ 4) {h : BS} (b : BOk M ps h) : noTx (encH h) = true ∧ (encH h).depth ≤ 5 := by
  refine ⟨?_, ?_⟩
  · rw [noTx_tup, noTxs_iff]; intro t ht
    obtain ⟨o, ho, rfl⟩ := List.mem_map.mp ht
    exact (encL_dp hps fun t e => b.ps t (e ▸ ho)).1
  · rw [depth_tup]
    have := depthAll_le.mpr fun t (ht : t ∈ h.map encL) => by
      obtain ⟨o, ho, rfl⟩ := List.mem_map.mp ht
      exact (encL_dp hps fun t e => b.ps t (e ▸ ho)).2
    omega
def encG (F : Fd) : List (T × D) := F.map fun p => (encH p.1, .bl true)
def encC (L : List BS) : List T := L.map encH
section
variable {M : Mac} {ps : List T} {F : Fd} {a : BS} {p : List Ln}
theorem getG (hps : ∀ t ∈ ps, WT M t) (hb : ∀ h ∈ keysF F, BOk M ps h) (ha : BOk M ps a) : (getL (encG F) (encH a)).isSome = decide (a ∈ keysF F) := by
  unfold getL encG
  induction F with
  | nil => simp
  | cons q F ih =>
    have hq := hb q.1 (by simp)
    have hF : ∀ h ∈ keysF F, BOk M ps h := fun h hh => hb h (by rw [keysF, List.map_cons]; exact List.mem_cons_of_mem _ hh)
    rw [List.map_cons, List.find?_cons]
    by_cases e : q.1 = a
    · simp [e]
    · have e1 : ¬ encH q.1 = encH a := fun z => e ((encH_inj hps hq ha).mp z)
      have e2 : ¬ a = q.1 := fun z => e z.symm
      rw [decide_eq_false e1]
      simp only [keysF, List.map_cons, List.mem_cons, e2, false_or]
      exact ih hF
theorem putG (hps : ∀ t ∈ ps, WT M t) (hb : ∀ h ∈ keysF F, BOk M ps h) (ha : BOk M ps a) (hn : a ∉ keysF F) : putL (encG F) (encH a) (.bl true) = encG (F ++ [(a, p)]) := by
  unfold putL
  rw [if_neg]
  · simp [encG]
  · intro h
    obtain ⟨q, hq, e⟩ := List.mem_map.mp h
    obtain ⟨r, hr, rfl⟩ := List.mem_map.mp hq
    have hm : r.1 ∈ keysF F := List.mem_map.mpr ⟨r, hr, rfl⟩
    have := (encH_inj hps (hb _ hm) ha).mp e
    rw [this] at hm
    exact hn hm
end
end L2.LL

/-! # LLW21 -/
set_option Elab.async false
set_option linter.all false
set_option maxRecDepth 100000
set_option maxHeartbeats 2000000
namespace L2.LL
open PySem PySem.Spec PyProof.Rows
abbrev fwS (M : Mac) (W : List Wish) (S : Sto) (nl : Nat) (x9 : D) (k : D) (j : Nat) : SD → Prop := fun σ => ∃ (x4 x5 x10 x11 x12 x13 x14 x15 : Option D),
  σ = [some (.dat M.t), some (.dat (wsT W)), some (.bl true), some (.ref nl), x4, x5, some (.ref S.length), some (.ref (S.length + 1 + j)), some k, some x9, x10, x11, x12, x13, x14, x15]
def fwW (M : Mac) (W : List Wish) (S : Sto) (nl ln : Nat) (m : Nat) (σ : SD) (S' : Sto) : Prop := ∃ (k ep : Nat) (l : Sto) (j : Nat), Not0 M W k ∧ S' = S ++ [.dct (encG (lay M W k).1) ep] ++ l ∧
  l[j]? = some (.lst ((encC (lay M W k).2).map .dat)) ∧ l[ln]? = some (.lst ((moves M).map fun l => .dat l.t)) ∧ fwS M W S nl (.ref (S.length + 1 + ln)) (.dat (nT k)) j σ ∧ m = shK M W k
def fwI (M : Mac) (W : List Wish) (S : Sto) (nl ln : Nat) (l : Sto) (k j : Nat) (x : Fd × List BS) (σ : SD) (S2 : Sto) : Prop := ∃ (ep : Nat) (x4 x5 x10 x12 x13 x14 x15 : Option D), S2 = S ++ [.dct (encG x.1) ep] ++ (l ++ [.lst ((encC x.2).map .dat)]) ∧
  σ = [some (.dat M.t), some (.dat (wsT W)), some (.bl true), some (.ref nl), x4, x5, some (.ref S.length), some (.ref (S.length + 1 + j)), some (.dat (nT k)), some (.ref (S.length + 1 + ln)), x10, some (.ref (S.length + 1 + l.length)), x12, x13, x14, x15]
def fwJ (M : Mac) (W : List Wish) (S : Sto) (nl ln : Nat) (l : Sto) (k j : Nat) (h : BS) (x : Fd × List BS) (σ : SD) (S2 : Sto) : Prop := ∃ (ep : Nat) (x4 x5 x10 x13 x14 x15 : Option D), S2 = S ++ [.dct (encG x.1) ep] ++ (l ++ [.lst ((encC x.2).map .dat)]) ∧
  σ = [some (.dat M.t), some (.dat (wsT W)), some (.bl true), some (.ref nl), x4, x5, some (.ref S.length), some (.ref (S.length + 1 + j)), some (.dat (nT k)), some (.ref (S.length + 1 + ln)), x10, some (.ref (S.length + 1 + l.length)), some (.dat (encH h)), x13, x14, x15]
def notGot (h : BS) : T → Bool
  | .tup [.num c, x] => !decide ((h.map encL)[c.toNat]? = some x)
  | _ => false
def noneAt (h : BS) : T → Bool
  | .num s => decide (h[s.toNat]? = some none)
  | _ => false
theorem map_one_nil {l : List T} : (l.map fun _ => NestedKey.num 1) = [] ↔ l = [] := List.map_eq_nil_iff
theorem w_Lfewest {g : Gp} : ∀ ds S Q, Sco S → F_Lfewest g ds S Q → fb_Lfewest g (EndG S Q) (startD N_Lfewest ds) S := by
  intro ds S0 Q hs h
  unfold F_Lfewest at h
  split at h
  · obtain ⟨M, W, rfl, rfl, rfl, sok, h⟩ := h
    have hM := sok.m
    have hW := sok.w
    have hn3 := hM.n3
    have hWl := hW.len hM
    have hsm : smallRg 0 (M.n : Int) := by unfold smallRg; omega
    have hps4 : ∀ t ∈ parts W, WT M t ∧ t.depth ≤ 4 := fun t ht => parts_wt hM hW ht
    have hps : ∀ t ∈ parts W, WT M t := fun t ht => (hps4 t ht).1
    have hnn : ∀ t ∈ parts W, t ≠ .none := fun t ht e => by have := hps t ht; rw [e] at this; cases this
    unfold fb_Lfewest
    simp only [s_start, s_seq, s_set, s_call, s_cons, s_nil, s_var]
    refine ⟨.dat (wsT W), rfl, M, W, rfl, hM, hW, fun ps' hnd hmem => ?_⟩
    have hps'tx : noTxs ps' = true := noTxs_iff.mpr fun t ht => (hps t ((hmem t).mp ht)).noTx
    simp only [s_gc, s_call, s_cons, s_nil, s_lc, s_iRg, s_rg1, s_op, s_var, s_C]
    intro hs'
    refine ⟨.dat M.t, rfl, ?_⟩
    simp only [s_ixT, s_at0]
    refine ⟨_, rfl, hsm, ?_⟩
    rw [rgT0]
    refine lc_map (fun t => .dat (encL (if t ∈ parts W then some t else none))) (by trivial) (by simp; omega) (fun t R1 ht h1 => ?_) ?_
    · obtain ⟨i, hi, rfl⟩ := List.mem_map.mp ht
      simp only [s_gN, s_dIf, s_test, s_op, s_var]
      refine ⟨.dat (nT i), rfl, .ref S0.length, rfl, ?_⟩
      simp only [s_inL]
      refine ⟨ps', by simp, rfl, hps'tx, ?_⟩
      simp only [if_neg Bool.false_ne_true]
      by_cases hp : nT i ∈ parts W
      · rw [decide_eq_true ((hmem _).mpr hp)]
        rw [if_pos hp] at h1
        exact ⟨_, rfl, h1⟩
      · rw [decide_eq_false (fun z => hp ((hmem _).mp z))]
        rw [if_neg hp] at h1
        exact h1
    have ef : ((List.range M.n).map nT).map (fun t => D.dat (encL (if t ∈ parts W then some t else none))) = ((begin0 M (parts W)).map encL).map .dat := by simp [begin0, firsts, Function.comp_def]
    rw [ef]
    simp only [s_tupleOf]
    refine ⟨(begin0 M (parts W)).map encL, by simp, gcd hs' ⟨_, rfl⟩ ?_⟩
    have hb0 : BOk M (parts W) (begin0 M (parts W)) := begin_bok
    have hkey : ∀ a, BOk M (parts W) a → keyOk (encH a) := fun a b => ⟨by have := (encH_dp hps4 b).2; omega, rfl⟩
    simp only [s_seq, s_par3, s_dict1, s_lst, s_cons, s_nil, s_var, s_C]
    refine ⟨_, rfl, hkey _ hb0, fun ep => ⟨_, rfl, by simp, _, _, _, rfl, ?_⟩⟩
    simp only [s_seq, s_set, s_lc, s_iL, s_call, s_cons, s_nil, s_var]
    refine ⟨.dat M.t, rfl, M, rfl, hM, fun S' nln hpre hnln hlines => ?_⟩
    obtain ⟨z, rfl⟩ := hpre
    refine ⟨nln, (allLines M).map Ln.t, rfl, by rw [hlines]; simp [Function.comp_def], ?_⟩
    refine lc_pure softT (fun t => .dat t) (by rw [hlines]; simp [Function.comp_def]) (by have := allLines_take hM (i := M.n); rw [List.take_of_length_le (by simp)] at this; rw [List.length_map]; unfold allLines; omega) (fun t R1 R0 ht h1 h0 => ?_) ?_
    · obtain ⟨l, hl, rfl⟩ := List.mem_map.mp ht
      simp only [s_gN, s_xOr, s_test, s_op, s_var, s_C, s_xNot, s_truth]
      refine ⟨.dat l.t, rfl, ?_⟩
      simp only [s_ixT, s_at0, s_at2]
      refine ⟨_, rfl, .dat l.t, rfl, ?_⟩
      simp only [s_ixT, s_at2]
      refine ⟨_, rfl, ?_⟩
      simp only [s_inT]
      refine ⟨rfl, nTs_noTx, ?_⟩
      have hsl : (!decide (nT l.c ∈ nTs l.src)) = soft l := softT_ln (l := l)
      rw [softT_ln] at h1 h0
      simp only [if_true]
      rw [hsl]
      cases hsf : soft l with
      | true => exact ⟨_, rfl, h1 hsf⟩
      | false => exact ⟨.bl true, rfl, h0 hsf⟩
    rw [soft_filter]
    have hps0 : (S0 ++ [AO.lst (ps'.map .dat)])[S0.length]? = some (.lst (ps'.map .dat)) := by simp
    have hpreS : S0 <+: S0 ++ [AO.lst (ps'.map .dat)] := List.prefix_append _ _
    have hmv : lnD ((allLines M).filter soft) = (moves M).map fun l => .dat l.t := rfl
    rw [hmv]
    generalize hSS : S0 ++ [AO.lst (ps'.map .dat)] = S at *
    have e9 : (S ++ [AO.dct [(NestedKey.tup ((begin0 M (parts W)).map encL), D.bl true)] ep] ++ [AO.lst [D.dat (NestedKey.tup ((begin0 M (parts W)).map encL))]] ++ z).length = S.length + 1 + (1 + z.length) := by simp; omega
    have e7 : (S ++ [AO.dct [(NestedKey.tup ((begin0 M (parts W)).map encL), D.bl true)] ep]).length = S.length + 1 + 0 := by simp
    rw [e9, e7, s_while]
    refine ⟨fwW M W S S0.length (1 + z.length), ⟨_, 0, ep, [.lst [.dat (encH (begin0 M (parts W)))]] ++ z ++ [.lst ((moves M).map fun l => .dat l.t)], 0, fun j hj => absurd hj (Nat.not_lt_zero j), by simp [lay, bst, encG], rfl, ?_, ⟨_, _, _, _, _, _, _, _, rfl⟩, rfl⟩, ?_⟩
    · have e3 : 1 + z.length = ([AO.lst [D.dat (encH (begin0 M (parts W)))]] ++ z).length := by simp; omega
      rw [e3, List.getElem?_append_right (Nat.le_refl _), Nat.sub_self]; rfl
    generalize hln : 1 + z.length = ln
    clear e9 e7 hlines hnln hmv
    rintro m σ S' ⟨k, ep, l, j, hN, rfl, hlay, hlnl, ⟨x4, x5, x10, x11, x12, x13, x14, x15, rfl⟩, rfl⟩
    have LI := lay_inv (M := M) (W := W) k
    have SI := lay_sinv (M := M) (W := W) k
    have LI1 := lay_inv (M := M) (W := W) (k + 1)
    have hF1 := found_le hM sok.sz LI.1
    have hF2 := found_le hM sok.sz LI1.1
    have hlx : lay M W (k + 1) = ((lay M W k).2).foldl (exH (parts W) (moves M)) ((lay M W k).1, []) := rfl
    have hbk := LI.1.bok
    have hgp : ∀ r : Sto, (S ++ r)[S0.length]? = some (.lst (ps'.map .dat)) := fun r => pre_get (List.prefix_append _ _) hps0
    have hshl : ∀ L : List BS, (∀ h ∈ L, BOk M (parts W) h) → ShalL (encC L) := fun L hL => shalL_of (noTxs_iff.mpr fun t ht => by
      obtain ⟨x, hx, rfl⟩ := List.mem_map.mp ht; exact (encH_dp hps4 (hL x hx)).1) (depthAll_le.mpr fun t ht => by
      obtain ⟨x, hx, rfl⟩ := List.mem_map.mp ht; have := (encH_dp hps4 (hL x hx)).2; omega)
    have hgc : ∀ r : Sto, ∃ q, S ++ r = S0 ++ q := fun r => by
      obtain ⟨q, hq⟩ := hpreS
      exact ⟨q ++ r, by rw [← hq, List.append_assoc]⟩
    simp only [s_xgc, s_test, s_op, s_lst, s_nil, s_var]
    intro hsA
    refine ⟨.ref (S.length + 1 + j), rfl, by simp, ?_⟩
    refine (s_eqL (n := true)).mpr ⟨encC (lay M W k).2, [], by rw [List.append_assoc, mid_get]; exact pre_get (List.prefix_append _ _) hlay, by simp, hshl _ fun x hx => hbk x (LI.2 x hx), shalL_nil, ?_⟩
    refine ⟨_, List.prefix_append _ _, Nat.le_refl _, hsA, ?_⟩
    by_cases hnil : (lay M W k).2 = []
    · have : encC (lay M W k).2 = [] := by rw [hnil]; rfl
      rw [decide_eq_true this]
      simp only [if_true, Bool.not_true, s_seq, s_ret, s_C]
      refine gcd hs ?_ (h none ⟨k, hN, hnil⟩)
      rw [List.append_assoc]; exact hgc _
    · have hne' : ¬ encC (lay M W k).2 = [] := fun z => hnil (List.map_eq_nil_iff.mp z)
      simp only [if_true, decide_eq_false hne', Bool.not_false, s_seq, s_set, s_lst, s_nil, s_for, s_iL, s_var]
      have hlay2 : ∀ r : Sto, (l ++ r)[j]? = some (.lst ((encC (lay M W k).2).map .dat)) := fun r => pre_get (List.prefix_append _ _) hlay
      have hln2 : ∀ r : Sto, (l ++ r)[ln]? = some (.lst ((moves M).map fun l => .dat l.t)) := fun r => pre_get (List.prefix_append _ _) hlnl
      have elen : (S ++ [AO.dct (encG (lay M W k).1) ep] ++ l).length = S.length + 1 + l.length := by simp; omega
      refine ⟨by simp, .ref (S.length + 1 + j), rfl, _, _, rfl, by rw [List.append_assoc, mid_get]; exact hlay2 _, ?_⟩
      rw [elen]
      refine ⟨fun i σ S2 => fwI M W S S0.length ln l k j (((lay M W k).2.take i).foldl (exH (parts W) (moves M)) ((lay M W k).1, [])) σ S2 ∧ ∀ h ∈ (lay M W k).2.take i, ¬ goalB W h, ⟨⟨ep, _, _, _, _, _, _, _, by rw [List.append_assoc]; rfl, rfl⟩, by simp⟩, ?_, ?_, ?_⟩
      · rintro i σ S2 ⟨⟨ep2, z4, z5, z10, z12, z13, z14, z15, rfl, _⟩, _⟩
        rw [mid_get]; exact hlay2 _
      · rintro i t σ S2 ht ⟨⟨ep2, z4, z5, z10, z12, z13, z14, z15, rfl, rfl⟩, hng⟩
        unfold encC at ht
        rw [List.getElem?_map, Option.map_eq_some_iff] at ht
        obtain ⟨hd, hhd, rfl⟩ := ht
        have hdm := List.mem_of_getElem? hhd
        have hdk := LI.2 hd hdm
        have hb := hbk hd hdk
        have SIi := exHs_inv (mv := moves M) (hs := (lay M W k).2.take i) (sinv_start LI.1) fun y hy => LI.2 y (List.mem_of_mem_take hy)
        have hx1 : ((lay M W k).2.take (i + 1)).foldl (exH (parts W) (moves M)) ((lay M W k).1, []) = (moves M).foldl (ex1 (parts W) hd) (((lay M W k).2.take i).foldl (exH (parts W) (moves M)) ((lay M W k).1, [])) := by
          rw [List.take_add_one, hhd, List.foldl_append]; rfl
        have hng1 : ¬ goalB W hd → ∀ h ∈ (lay M W k).2.take (i + 1), ¬ goalB W h := fun hg y hy => by
          rw [List.take_add_one, hhd] at hy
          rcases List.mem_append.mp hy with hy | hy
          · exact hng y hy
          · have : y = hd := by simpa using hy
            rw [this]; exact hg
        generalize hx0 : ((lay M W k).2.take i).foldl (exH (parts W) (moves M)) ((lay M W k).1, []) = x0 at *
        simp only [s_gN, s_seq, s_if, s_xgc, s_test, s_op, s_lc, s_iT, s_lst, s_nil, s_var]
        rw [hx1]
        intro hsB
        refine ⟨.dat (wsT W), rfl, W.map wT, rfl, ?_⟩
        refine lc_pure (notGot hd) (fun _ => .dat (.num 1)) (by trivial) (by simp; omega) (fun t R1 R0 ht h1 h0 => ?_) ?_
        · obtain ⟨w, hw, rfl⟩ := List.mem_map.mp ht
          obtain ⟨o, ho, hop⟩ := hb.get (hW.wt w hw).1
          have hoe : (hd.map encL)[w.1]? = some (encL o) := by rw [List.getElem?_map, ho]; rfl
          have hsh : Shal (encL o) := shal_of (encL_dp hps4 hop).1 (by have := (encL_dp hps4 hop).2; omega)
          have hpn : notGot hd (wT w) = !decide (encL o = w.2) := by
            have e1 : notGot hd (wT w) = !decide ((hd.map encL)[((w.1 : Nat) : Int).toNat]? = some w.2) := rfl
            rw [e1, Int.toNat_natCast, hoe]
            by_cases z : encL o = w.2 <;> simp [z]
          rw [hpn] at h1 h0
          have hwn := hnn w.2 (parts_wish hw)
          simp only [s_gT, s_gsCons, s_gsNil, s_gN, s_xOr, s_test, s_op, s_var, s_C]
          refine ⟨rfl, trivial, .dat (encH hd), rfl, .dat (nT w.1), rfl, ?_⟩
          simp only [s_ixT, s_atN]
          refine ⟨_, hoe, ?_⟩
          rw [s_isN]
          refine ⟨rfl, ?_⟩
          by_cases hon : encL o = .none
          · have : D.dat (encL o) = .dat .none := by rw [hon]
            rw [decide_eq_true this]
            have hne : ¬ encL o = w.2 := fun z => hwn (z.symm.trans hon)
            exact h1 (by rw [decide_eq_false hne]; rfl)
          · have : ¬ D.dat (encL o) = .dat .none := fun z => hon (D.dat.inj z)
            rw [decide_eq_false this]
            simp only [if_neg Bool.false_ne_true]
            refine ⟨.dat (encH hd), rfl, .dat (nT w.1), rfl, ?_⟩
            simp only [s_ixT, s_atN]
            refine ⟨_, hoe, .dat w.2, rfl, (s_eqD (n := true)).mpr ⟨hsh, hW.shal hw, ?_⟩⟩
            simp only [if_true]
            cases hdd : decide (encL o = w.2) with
            | true => rw [hdd] at h0; exact h0 rfl
            | false => rw [hdd] at h1; exact h1 rfl
        have hl1 : ∀ L : List T, ShalL (L.map fun _ => NestedKey.num 1) := fun L => shalL_of (noTxs_iff.mpr fun t ht => by obtain ⟨x, _, rfl⟩ := List.mem_map.mp ht; simp) (depthAll_le.mpr fun t ht => by obtain ⟨x, _, rfl⟩ := List.mem_map.mp ht; simp)
        refine ⟨by simp, ?_⟩
        refine (s_eqL (n := false)).mpr ⟨((W.map wT).filter (notGot hd)).map fun _ => .num 1, [], by rw [List.getElem?_append_left (by simp)]; simp [Function.comp_def], by simp, hl1 _, shalL_nil, ?_⟩
        refine ⟨S ++ [AO.dct (encG x0.1) ep2] ++ (l ++ [.lst ((encC x0.2).map .dat)]), (List.prefix_append _ _).trans (List.prefix_append _ _), Nat.le_refl _, hsB, ?_⟩
        simp only [if_neg Bool.false_ne_true]
        have hgoal : (((W.map wT).filter (notGot hd)).map fun _ => NestedKey.num 1) = [] ↔ goalB W hd := by
          rw [List.map_eq_nil_iff, List.filter_eq_nil_iff]
          constructor
          · intro z w hw
            have := z (wT w) (List.mem_map.mpr ⟨w, hw, rfl⟩)
            obtain ⟨o, ho, hop⟩ := hb.get (hW.wt w hw).1
            have hoe : (hd.map encL)[w.1]? = some (encL o) := by rw [List.getElem?_map, ho]; rfl
            have e1 : notGot hd (wT w) = !decide ((hd.map encL)[((w.1 : Nat) : Int).toNat]? = some w.2) := rfl
            rw [e1, Int.toNat_natCast, hoe] at this
            have this : encL o = w.2 := by by_cases z : encL o = w.2 <;> simp [z] at this ⊢
            have e : o = some w.2 := (encL_inj hps (u := some w.2) hop (fun t e => by cases e; exact parts_wish hw)).mp this
            rw [ho, e]
          · intro z t ht
            obtain ⟨w, hw, rfl⟩ := List.mem_map.mp ht
            have hoe : (hd.map encL)[w.1]? = some w.2 := by rw [List.getElem?_map, z w hw]; rfl
            unfold notGot
            simp [hoe]
        by_cases hgl : goalB W hd
        · rw [decide_eq_true (hgoal.mpr hgl)]
          simp only [s_seq, s_ret, s_var]
          refine ⟨.dat (nT k), rfl, gcd hs ?_ (h (some k) ⟨hN, hd, hdm, hgl⟩)⟩
          rw [List.append_assoc]; exact hgc _
        · rw [decide_eq_false (fun z => hgl (hgoal.mp z))]
          simp only [s_next, s_seq, s_for, s_iL, s_var]
          refine ⟨.ref (S.length + 1 + ln), rfl, _, (moves M).map Ln.t, rfl, by rw [mid_get, hln2]; simp [Function.comp_def], ?_⟩
          refine ⟨fun q => fwJ M W S S0.length ln l k j hd (((moves M).take q).foldl (ex1 (parts W) hd) x0), ⟨ep2, _, _, _, _, _, _, rfl, rfl⟩, ?_, ?_, ?_⟩
          · rintro q σ S2 ⟨ep3, u4, u5, u10, u13, u14, u15, rfl, _⟩
            rw [mid_get, hln2]; simp [Function.comp_def]
          · rintro q t σ S2 ht ⟨ep3, u4, u5, u10, u13, u14, u15, rfl, rfl⟩
            rw [List.getElem?_map, Option.map_eq_some_iff] at ht
            obtain ⟨lx, hlx2, rfl⟩ := ht
            have hlok := (moves_mem hM).mp (List.mem_of_getElem? hlx2)
            have SIq : ∀ q, SInv M (parts W) (lay M W k).1 (((moves M).take q).foldl (ex1 (parts W) hd) x0) := fun q => exH_inv ((moves M).take q) SIi hdk
            have SIq1 := SIq (q + 1)
            have SIq0 := SIq q
            have hxq : ((moves M).take (q + 1)).foldl (ex1 (parts W) hd) x0 = ex1 (parts W) hd (((moves M).take q).foldl (ex1 (parts W) hd) x0) lx := by
              rw [List.take_add_one, hlx2, List.foldl_append]; rfl
            rw [hxq] at SIq1
            generalize hxx : ((moves M).take q).foldl (ex1 (parts W) hd) x0 = x at *
            have hkx := SIq0.key hdk
            have hfx := found_le hM sok.sz SIq0.inv
            have hsrc2 : lx.src.length ≤ 2 := by
              rcases hlok.1.fn with ⟨_, s, e2, _⟩ | ⟨i, _, e2⟩
              · rw [e2]; simp
              · rcases hM.rd _ (List.mem_of_getElem? e2) with h | h <;> omega
            simp only [s_gN, s_seq, s_if, s_xgc, s_test, s_op, s_lc, s_iT, s_lst, s_nil, s_var, s_C]
            rw [hxq]
            intro hsC
            refine ⟨.dat lx.t, rfl, ?_⟩
            simp only [s_ixT, s_at2]
            refine ⟨_, rfl, nTs lx.src, rfl, ?_⟩
            refine lc_pure (noneAt hd) (fun t => .dat t) (by trivial) (by simp; omega) (fun t R1 R0 ht h1 h0 => ?_) ?_
            · obtain ⟨s, hs2, rfl⟩ := List.mem_map.mp ht
              obtain ⟨o, ho, hop⟩ := hb.get (hlok.1.src s hs2)
              have hoe : (hd.map encL)[s]? = some (encL o) := by rw [List.getElem?_map, ho]; rfl
              have hpn : noneAt hd (nT s) = decide (o = none) := by
                have e1 : noneAt hd (nT s) = decide (hd[((s : Nat) : Int).toNat]? = some none) := rfl
                rw [e1, Int.toNat_natCast, ho]
                by_cases z : o = none <;> simp [z]
              rw [hpn] at h1 h0
              simp only [s_gN, s_test, s_op, s_var, s_C]
              refine ⟨.dat (encH hd), rfl, .dat (nT s), rfl, ?_⟩
              simp only [s_ixT, s_atN]
              refine ⟨_, hoe, ?_⟩
              rw [s_isN]
              refine ⟨rfl, ?_⟩
              by_cases z : o = none
              · subst z
                have : D.dat (encL none) = .dat .none := rfl
                rw [decide_eq_true this]
                exact ⟨_, rfl, h1 rfl⟩
              · have : ¬ D.dat (encL o) = .dat .none := fun e => z ((encL_inj hps (u := none) hop (fun t e => by cases e)).mp (D.dat.inj e))
                rw [decide_eq_false this]
                exact h0 (decide_eq_false z)
            have hl2 : ShalL ((nTs lx.src).filter (noneAt hd)) := shalL_of (noTxs_iff.mpr fun t ht => by obtain ⟨x, _, rfl⟩ := List.mem_map.mp (List.mem_filter.mp ht).1; simp) (depthAll_le.mpr fun t ht => by obtain ⟨x, _, rfl⟩ := List.mem_map.mp (List.mem_filter.mp ht).1; simp)
            refine ⟨by simp, ?_⟩
            refine (s_eqL (n := false)).mpr ⟨(nTs lx.src).filter (noneAt hd), [], by rw [List.getElem?_append_left (by simp)]; simp, by simp, hl2, shalL_nil, ?_⟩
            refine ⟨S ++ [AO.dct (encG x.1) ep3] ++ (l ++ [.lst ((encC x.2).map .dat)]), (List.prefix_append _ _).trans (List.prefix_append _ _), Nat.le_refl _, hsC, ?_⟩
            simp only [if_neg Bool.false_ne_true]
            by_cases hsome : ∃ s ∈ lx.src, hd[s]? = some none
            · have hne2 : ¬ (nTs lx.src).filter (noneAt hd) = [] := fun z => by
                obtain ⟨s, hs2, e⟩ := hsome
                have := List.filter_eq_nil_iff.mp z (nT s) (List.mem_map.mpr ⟨s, hs2, rfl⟩)
                have e1 : noneAt hd (nT s) = decide (hd[((s : Nat) : Int).toNat]? = some none) := rfl
                rw [e1, Int.toNat_natCast, e] at this
                simp at this
              rw [decide_eq_false hne2]
              have e : ex1 (parts W) hd x lx = x := by
                unfold ex1 nxt; rw [bval_no hlok.1 hsome]
              rw [e]
              exact ⟨ep3, _, _, _, _, _, _, rfl, rfl⟩
            · have hall : ∀ s ∈ lx.src, ∃ t, hd[s]? = some (some t) := fun s hs2 => by
                obtain ⟨o, ho, hp⟩ := hb.get (hlok.1.src s hs2)
                cases o with
                | none => exact absurd ⟨s, hs2, ho⟩ hsome
                | some t => exact ⟨t, ho⟩
              have hnil2 : (nTs lx.src).filter (noneAt hd) = [] := by
                rw [List.filter_eq_nil_iff]
                intro t ht
                obtain ⟨s, hs2, rfl⟩ := List.mem_map.mp ht
                obtain ⟨u, hu⟩ := hall s hs2
                have e1 : noneAt hd (nT s) = decide (hd[((s : Nat) : Int).toNat]? = some none) := rfl
                rw [e1, Int.toNat_natCast, hu]
                simp
              rw [decide_eq_true hnil2]
              have hbv := bval_all hlok.1 hall
              obtain ⟨w1, w2⟩ := bval_wt hb hlok.1 hps4 hbv
              have hcl : lx.c < hd.length := by rw [hb.len]; exact hlok.1.c
              have hdid : did (hd.map encL) lx = (hd.set lx.c (some (val (hd.map encL) lx))).map encL := by unfold did; rw [List.map_set]; rfl
              have hac : (did (hd.map encL) lx)[lx.c]? = some (val (hd.map encL) lx) := by unfold did; rw [List.getElem?_set_self (by simpa using hcl)]
              generalize hv0 : val (hd.map encL) lx = v at *
              simp only [s_seq, s_set, s_call, s_cons, s_nil, s_var]
              refine ⟨.dat (encH hd), rfl, .dat lx.t, rfl, M, lx, rfl, hM, hlok.1, by rw [List.length_map, hb.len], ?_⟩
              simp only [s_if, s_xAnd, s_test, s_op, s_var, s_C]
              refine ⟨.dat (.tup (did (hd.map encL) lx)), rfl, .dat lx.t, rfl, ?_⟩
              simp only [s_ixT, s_at0]
              refine ⟨_, rfl, ?_⟩
              simp only [s_ixT, s_atN]
              refine ⟨v, hac, .ref S0.length, rfl, ?_⟩
              simp only [s_inL]
              refine ⟨ps', by rw [List.append_assoc]; exact hgp _, w1.shal (by omega), hps'tx, ?_⟩
              simp only [if_neg Bool.false_ne_true]
              by_cases hvp : v ∈ parts W
              · have hnx : nxt (parts W) hd lx = some (hd.set lx.c (some v)) := by
                  unfold nxt; rw [hbv]; simp only; rw [if_pos hvp]
                have hab := nxt_bok hb hnx
                rw [decide_eq_true ((hmem _).mpr hvp), hdid]
                simp only [s_if, s_xAnd, s_test, s_op, s_var, s_C]
                refine ⟨.dat (encH (hd.set lx.c (some v))), rfl, .ref S.length, rfl, ?_⟩
                simp only [s_inD]
                refine ⟨_, ep3, get_mid, hkey _ hab, ?_⟩
                rw [getG hps SIq0.inv.bok hab]
                by_cases hak : hd.set lx.c (some v) ∈ keysF x.1
                · have e : ex1 (parts W) hd x lx = x := by
                    unfold ex1; rw [hnx]; simp only; rw [if_pos hak]
                  rw [e, decide_eq_true hak]
                  exact ⟨ep3, _, _, _, _, _, _, rfl, rfl⟩
                · have e : ex1 (parts W) hd x lx = (x.1 ++ [(hd.set lx.c (some v), pathOf x.1 hd ++ [lx])], x.2 ++ [hd.set lx.c (some v)]) := by
                    unfold ex1; rw [hnx]; simp only; rw [if_neg hak]
                  rw [e, decide_eq_false hak]
                  simp only [if_true, Bool.not_false, s_seq, s_setIx, s_var, s_C]
                  refine ⟨.ref S.length, rfl, .dat (encH (hd.set lx.c (some v))), rfl, S.length, _, _, ep3, rfl, rfl, get_mid, hkey _ hab, by simp [encG]; omega, fun ep4 => ?_⟩
                  rw [putG (p := pathOf x.1 hd ++ [lx]) hps SIq0.inv.bok hab hak, set_mid]
                  have hll : (l ++ [AO.lst ((encC x.2).map .dat)])[l.length]? = some (.lst ((encC x.2).map .dat)) := by simp
                  simp only [s_seq, s_drop, s_append, s_var, s_next]
                  refine ⟨.ref (S.length + 1 + l.length), rfl, _, rfl, ⟨_, by rw [mid_get]; exact hll⟩, .dat (encH (hd.set lx.c (some v))), rfl, _, by rw [mid_get]; exact hll, ?_, ?_⟩
                  · have := SIq0.eq
                    simp [encC]; omega
                  · rw [mid_set]
                    refine ⟨ep4, _, _, _, _, _, _, ?_, rfl⟩
                    congr 1
                    rw [List.set_append_right _ _ (Nat.le_refl _)]
                    simp [encC]
              · have e : ex1 (parts W) hd x lx = x := by
                  unfold ex1 nxt; rw [hbv]; simp only; rw [if_neg hvp]
                rw [e, decide_eq_false (fun z => hvp ((hmem _).mp z))]
                exact ⟨ep3, _, _, _, _, _, _, rfl, rfl⟩
          · rintro σ S2 ⟨ep3, u4, u5, u10, u13, u14, u15, rfl, rfl⟩
            rw [List.length_map, List.take_length]
            exact ⟨⟨ep3, _, _, _, _, _, _, _, rfl, rfl⟩, hng1 hgl⟩
      · rintro σ S2 ⟨⟨ep2, z4, z5, z10, z12, z13, z14, z15, rfl, rfl⟩, hng⟩
        have hN1 : Not0 M W (k + 1) := fun j' hj' x hx => by
          by_cases e : j' = k
          · subst e
            refine hng x ?_
            unfold encC
            rw [List.length_map, List.take_length]; exact hx
          · exact hN j' (by omega) x hx
        have e : ((lay M W k).2.take (encC (lay M W k).2).length).foldl (exH (parts W) (moves M)) ((lay M W k).1, []) = lay M W (k + 1) := by
          unfold encC
          rw [List.length_map, List.take_length, hlx]
        rw [e]
        simp only [s_seq, s_par, s_cons, s_nil, s_op, s_var, s_C, s_next]
        refine ⟨.ref (S.length + 1 + l.length), rfl, .dat (nT k), rfl, ?_⟩
        simp only [s_addN]
        have ek : ((k : Int) + 1) = ((k + 1 : Nat) : Int) := by omega
        rw [ek]
        refine ⟨_, _, rfl, shK M W (k + 1), ?_, k + 1, ep2, _, l.length, hN1, rfl, by simp, hln2 _, ⟨_, _, _, _, _, _, _, _, rfl⟩, rfl⟩
        have := SI.eq
        unfold shK
        rw [if_neg hnil]
        by_cases he : (lay M W (k + 1)).2 = []
        · rw [if_pos he]
          rw [he] at this
          simp at this
          omega
        · rw [if_neg he]
          have hp := List.length_pos_iff.mpr he
          omega
  · exact h.elim
end L2.LL

/-! # LLM1 -/
set_option Elab.async false
set_option linter.all false
set_option maxRecDepth 100000
set_option maxHeartbeats 2000000
namespace L2.LL
open PySem PySem.Spec PyProof.Rows
/-! ## the length of a path is its layer's number -/
theorem path_new {F : Fd} {a : BS} {p : List Ln} (hn : a ∉ keysF F) : pathOf (F ++ [(a, p)]) a = p := by
  unfold pathOf
  have : F.find? (fun q => decide (q.1 = a)) = none := by
    rw [List.find?_eq_none]
    intro q hq
    simp only [decide_eq_true_eq]
    exact fun e => hn (List.mem_map.mpr ⟨q, hq, e⟩)
  rw [List.find?_append, this]
  simp
theorem path_pre' {F G : Fd} {h : BS} (hp : F <+: G) (hm : h ∈ keysF F) : pathOf G h = pathOf F h := by
  obtain ⟨E, rfl⟩ := hp; exact path_pre hm
section
variable {M : Mac} {ps : List T} {F0 : Fd} {x : Fd × List BS} {h : BS} {l : Ln} {k : Nat}
/-- what a predicate on the new paths keeps -/
theorem ex1_path {P : BS → List Ln → Prop} (I : SInv M ps F0 x) (hm : h ∈ keysF F0) (hP : ∀ y ∈ x.2, P y (pathOf x.1 y)) (hstep : ∀ a, nxt ps h l = some a → P a (pathOf F0 h ++ [l])) : ∀ y ∈ (ex1 ps h x l).2, P y (pathOf (ex1 ps h x l).1 y) := by
  unfold ex1
  split
  · rename_i a ha
    split
    · exact hP
    · rename_i hn
      intro y hy
      rcases List.mem_append.mp hy with hy | hy
      · rw [path_pre (I.sub y hy)]; exact hP y hy
      · have : y = a := by simpa using hy
        subst this
        rw [path_new hn, path_pre' I.pre hm]
        exact hstep y ha
  · exact hP
theorem exH_path {P : BS → List Ln → Prop} {mv : List Ln} (I : SInv M ps F0 x) (hm : h ∈ keysF F0) (hP : ∀ y ∈ x.2, P y (pathOf x.1 y)) (hstep : ∀ l ∈ mv, ∀ a, nxt ps h l = some a → P a (pathOf F0 h ++ [l])) : ∀ y ∈ (exH ps mv x h).2, P y (pathOf (exH ps mv x h).1 y) := by
  unfold exH
  induction mv generalizing x with
  | nil => exact hP
  | cons l mv ih =>
    rw [List.foldl_cons]
    exact ih (ex1_inv I hm) (ex1_path I hm hP (hstep l (by simp))) fun l' hl' => hstep l' (by simp [hl'])
theorem exHs_path {P : BS → List Ln → Prop} {mv : List Ln} {hs : List BS} (I : SInv M ps F0 x) (hm : ∀ h ∈ hs, h ∈ keysF F0) (hP : ∀ y ∈ x.2, P y (pathOf x.1 y)) (hstep : ∀ h ∈ hs, ∀ l ∈ mv, ∀ a, nxt ps h l = some a → P a (pathOf F0 h ++ [l])) :
    ∀ y ∈ (hs.foldl (exH ps mv) x).2, P y (pathOf (hs.foldl (exH ps mv) x).1 y) := by
  induction hs generalizing x with
  | nil => exact hP
  | cons h hs ih =>
    rw [List.foldl_cons]
    exact ih (exH_inv mv I (hm h (by simp))) (fun y hy => hm y (by simp [hy])) (exH_path I (hm h (by simp)) hP (hstep h (by simp))) fun h' hh' => hstep h' (by simp [hh'])
end
/-- a word on every state of the layers and its path -/
theorem lay_path {M : Mac} {W : List Wish} {P : Nat → BS → List Ln → Prop} (h0 : P 0 (begin0 M (parts W)) []) (hs : ∀ k h p l a, P k h p → l ∈ moves M → nxt (parts W) h l = some a → P (k + 1) a (p ++ [l])) (k : Nat) : ∀ h ∈ (lay M W k).2, P k h (pathOf (lay M W k).1 h) := by
  induction k with
  | zero =>
    intro h hh
    have : h = begin0 M (parts W) := by simpa [lay, bst] using hh
    subst this
    simpa [lay, bst, pathOf] using h0
  | succ k ih =>
    have LI := lay_inv (M := M) (W := W) k
    exact exHs_path (P := P (k + 1)) (mv := moves M) (hs := (lay M W k).2) (sinv_start LI.1) LI.2 (fun y hy => nomatch hy) fun h hh l hl a ha => hs k h _ l a (ih h hh) hl ha
theorem lay_len {M : Mac} {W : List Wish} (k : Nat) : ∀ h ∈ (lay M W k).2, (pathOf (lay M W k).1 h).length = k :=
  lay_path (P := fun k _ p => p.length = k) rfl (fun k h p l a hp _ _ => by simp [hp]) k
theorem lay_nil {M : Mac} {W : List Wish} {k : Nat} (h : (lay M W k).2 = []) : ∀ j, k ≤ j → (lay M W j).2 = [] := by
  intro j hj
  induction hj with
  | refl => exact h
  | step _ ih =>
    show (exL _ _ _).2 = []
    unfold exL
    have : (bst (parts W) (moves M) (begin0 M (parts W)) _).2 = [] := ih
    rw [this]; rfl
/-- (a) both searches tell the same -/
theorem res_len {M : Mac} {W : List Wish} {r : Option (List Ln)} {r' : Option Nat} (h : BRes M W r) (h' : FRes M W r') : r' = r.map List.length := by
  cases r with
  | none =>
    obtain ⟨k, hN, hk⟩ := h
    cases r' with
    | none => rfl
    | some j =>
      obtain ⟨hNj, x, hx, gx⟩ := h'
      by_cases hj : j < k
      · exact absurd gx (hN j hj x hx)
      · rw [lay_nil hk j (by omega)] at hx; cases hx
  | some p =>
    obtain ⟨k, x, hN, hx, gx, rfl⟩ := h
    cases r' with
    | none =>
      obtain ⟨j, hNj, hj⟩ := h'
      by_cases hk : k < j
      · exact absurd gx (hNj k hk x hx)
      · rw [lay_nil hj k (by omega)] at hx; cases hx
    | some j =>
      obtain ⟨hNj, y, hy, gy⟩ := h'
      have : j = k := by
        by_cases h1 : j < k
        · exact absurd gy (hN j h1 y hy)
        · by_cases h2 : k < j
          · exact absurd gx (hNj k h2 x hx)
          · omega
      subst this
      simp [lay_len j x hx]
end L2.LL

/-! # LLM2 -/
set_option Elab.async false
set_option linter.all false
set_option maxRecDepth 100000
set_option maxHeartbeats 2000000
namespace L2.LL
open PySem PySem.Spec PyProof.Rows
/-- a state and the run that it stands for -/
structure Agr (M : Mac) (h : BS) (p : List Ln) : Prop where
  ln : ∀ l ∈ p, l.Ok M ∧ soft l = true
  tm : Tame M 4 p
  at' : ∀ (i : Nat) (o : Option T), h[i]? = some o → (run (firsts M.n) p)[i]? = some (o.getD (nT i))
  len : h.length = M.n
theorem bval_src {M : Mac} {h : BS} {l : Ln} {t : T} (hl : l.Ok M) (e : bval h l = some t) : ∀ s ∈ l.src, ∃ u, (h[s]?).getD none = some u := by
  unfold bval at e
  rcases hl.fn with ⟨ef, s', e2, e3⟩ | ⟨i, ef, e2⟩
  · rw [ef, e2] at e
    simp only [List.head?_cons, Option.getD_some] at e
    intro s hs
    rw [e2] at hs
    have : s = s' := by simpa using hs
    subst this
    exact ⟨t, e⟩
  · rw [ef] at e
    simp only at e
    split at e
    · rename_i hall
      exact fun s hs => Option.isSome_iff_exists.mp (hall s hs)
    · cases e
theorem agr_step {M : Mac} {ps : List T} {h a : BS} {p : List Ln} {l : Ln} (hM : M.Ok) (hps : ∀ t ∈ ps, WT M t ∧ t.depth ≤ 4) (A : Agr M h p) (hl : l ∈ moves M) (e : nxt ps h l = some a) : Agr M a (p ++ [l]) := by
  have hlo := (moves_mem hM).mp hl
  unfold nxt at e
  cases hb : bval h l with
  | none => rw [hb] at e; cases e
  | some t =>
    rw [hb] at e
    simp only at e
    split at e
    · rename_i ht
      cases e
      have hsrc : ∀ s ∈ l.src, ∃ u, h[s]? = some (some u) := fun s hs => by
        obtain ⟨u, hu⟩ := bval_src hlo.1 hb s hs
        have hl' : s < h.length := by rw [A.len]; exact hlo.1.src s hs
        rw [List.getElem?_eq_getElem hl'] at hu ⊢
        exact ⟨u, by simpa using hu⟩
      have hv : val (run (firsts M.n) p) l = t := by
        have hba := bval_all hlo.1 hsrc
        rw [hb] at hba
        have hba := Option.some.inj hba
        rw [hba]
        unfold val
        rcases hlo.1.fn with ⟨ef, s, e2, e3⟩ | ⟨i, ef, e2⟩
        · obtain ⟨u, hu⟩ := hsrc s (by simp [e2])
          rw [ef, e2]
          simp [A.at' s _ hu, hu, encL]
        · rw [ef]
          simp only
          congr 2
          refine List.map_congr_left fun s hs => ?_
          obtain ⟨u, hu⟩ := hsrc s hs
          simp [A.at' s _ hu, hu, encL]
      have hT := hps t ht
      refine ⟨fun x hx => ?_, tame_snoc A.tm (did_ht A.tm.all hlo.1 (by rw [hv]; exact hT.2)), fun i o ho => ?_, by simp [A.len]⟩
      · rcases List.mem_append.mp hx with hx | hx
        · exact A.ln x hx
        · have : x = l := by simpa using hx
          rw [this]; exact hlo
      · rw [run_snoc]
        unfold did
        rw [hv]
        have hrl : (run (firsts M.n) p).length = M.n := A.tm.all.len
        by_cases hi : l.c = i
        · subst hi
          rw [List.getElem?_set_self (by rw [A.len]; exact hlo.1.c)] at ho
          cases ho
          rw [List.getElem?_set_self (by rw [hrl]; exact hlo.1.c)]; rfl
        · rw [List.getElem?_set_ne hi] at ho ⊢
          exact A.at' i o ho
    · cases e
theorem agr_lay {M : Mac} {W : List Wish} (hM : M.Ok) (hW : WOk M W) (k : Nat) : ∀ h ∈ (lay M W k).2, Agr M h (pathOf (lay M W k).1 h) := by
  refine lay_path (P := fun _ h p => Agr M h p) ⟨(fun _ h => nomatch h), fun i => ?_, fun i o ho => ?_, by simp [begin0, firsts]⟩ (fun k h p l a A hl e => agr_step hM (fun t ht => parts_wt hM hW ht) A hl e) k
  · simp [run]; exact firsts_ht.mono (Nat.zero_le 4)
  · unfold begin0 at ho
    rw [List.getElem?_map, Option.map_eq_some_iff] at ho
    obtain ⟨t, ht, rfl⟩ := ho
    have hti : t = nT i := (range_get (by unfold firsts at ht; exact ht)).1
    show (firsts M.n)[i]? = _
    rw [ht]
    split <;> simp [hti]
/-- (b) what the search hands back is a soft program that fulfils the wishes -/
theorem res_ok {M : Mac} {W : List Wish} {p : List Ln} (hM : M.Ok) (hW : WOk M W) (h : BRes M W (some p)) : (∀ l ∈ p, l.Ok M ∧ soft l = true) ∧ Tame M 4 p ∧ ful (run (firsts M.n) p) W = true := by
  obtain ⟨k, x, hN, hx, gx, rfl⟩ := h
  have A := agr_lay hM hW k x hx
  refine ⟨A.ln, A.tm, List.all_eq_true.mpr fun w hw => decide_eq_true ?_⟩
  rw [A.at' w.1 _ (gx w hw)]; rfl
end L2.LL

/-! # LLM3 -/
set_option Elab.async false
set_option linter.all false
set_option maxRecDepth 100000
set_option maxHeartbeats 2000000
namespace L2.LL
open PySem PySem.Spec PyProof.Rows
theorem ex1_pre {ps : List T} {h : BS} {x : Fd × List BS} {l : Ln} : x.1 <+: (ex1 ps h x l).1 := by
  unfold ex1
  split
  · split
    · exact List.prefix_refl _
    · exact List.prefix_append _ _
  · exact List.prefix_refl _
theorem exH_pre {ps : List T} {h : BS} {mv : List Ln} {x : Fd × List BS} : x.1 <+: (exH ps mv x h).1 := by
  unfold exH
  induction mv generalizing x with
  | nil => exact List.prefix_refl _
  | cons l mv ih => rw [List.foldl_cons]; exact ex1_pre.trans ih
theorem exHs_pre {ps : List T} {hs : List BS} {mv : List Ln} {x : Fd × List BS} : x.1 <+: (hs.foldl (exH ps mv) x).1 := by
  induction hs generalizing x with
  | nil => exact List.prefix_refl _
  | cons l mv ih => rw [List.foldl_cons]; exact exH_pre.trans ih
theorem keys_pre {F G : Fd} {h : BS} (p : F <+: G) (m : h ∈ keysF F) : h ∈ keysF G := by obtain ⟨E, rfl⟩ := p; exact keys_app m
theorem ex1_has {ps : List T} {h a : BS} {x : Fd × List BS} {l : Ln} (e : nxt ps h l = some a) : a ∈ keysF (ex1 ps h x l).1 := by
  unfold ex1
  rw [e]
  simp only
  split
  · rename_i hm; exact hm
  · rw [keysF, List.map_append]; simp
theorem exH_has {ps : List T} {h a : BS} {mv : List Ln} {x : Fd × List BS} {l : Ln} (hl : l ∈ mv) (e : nxt ps h l = some a) : a ∈ keysF (exH ps mv x h).1 := by
  unfold exH
  induction mv generalizing x with
  | nil => cases hl
  | cons m mv ih =>
    rw [List.foldl_cons]
    rcases List.mem_cons.mp hl with rfl | hl
    · exact keys_pre (exH_pre (mv := mv) (h := h) (ps := ps)) (ex1_has e)
    · exact ih hl
theorem exHs_has {ps : List T} {h a : BS} {hs : List BS} {mv : List Ln} {x : Fd × List BS} {l : Ln} (hh : h ∈ hs) (hl : l ∈ mv) (e : nxt ps h l = some a) : a ∈ keysF (hs.foldl (exH ps mv) x).1 := by
  induction hs generalizing x with
  | nil => cases hh
  | cons m hs ih =>
    rw [List.foldl_cons]
    rcases List.mem_cons.mp hh with rfl | hh
    · exact keys_pre exHs_pre (exH_has hl e)
    · exact ih hh
theorem ex1_keys {ps : List T} {h : BS} {x : Fd × List BS} {l : Ln} {K : List BS} (e : keysF x.1 = K ++ x.2) : keysF (ex1 ps h x l).1 = K ++ (ex1 ps h x l).2 := by
  unfold ex1
  split
  · split
    · exact e
    · simp only [keysF, List.map_append, List.map_cons, List.map_nil]
      rw [← List.append_assoc, ← e]
  · exact e
theorem exHs_keys {ps : List T} {hs : List BS} {mv : List Ln} {x : Fd × List BS} {K : List BS} (e : keysF x.1 = K ++ x.2) : keysF (hs.foldl (exH ps mv) x).1 = K ++ (hs.foldl (exH ps mv) x).2 := by
  induction hs generalizing x with
  | nil => exact e
  | cons h hs ih =>
    rw [List.foldl_cons]
    refine ih ?_
    unfold exH
    clear ih
    induction mv generalizing x with
    | nil => exact e
    | cons l mv ih2 => rw [List.foldl_cons]; exact ih2 (ex1_keys e)
/-- what is found stands in a layer -/
theorem key_lay {M : Mac} {W : List Wish} {k : Nat} {h : BS} (m : h ∈ keysF (lay M W k).1) : ∃ j, j ≤ k ∧ h ∈ (lay M W j).2 := by
  induction k with
  | zero => exact ⟨0, Nat.le_refl _, by simpa [lay, bst] using m⟩
  | succ k ih =>
    have e : keysF (lay M W (k + 1)).1 = keysF (lay M W k).1 ++ (lay M W (k + 1)).2 := exHs_keys (x := ((lay M W k).1, [])) (by simp)
    rw [e] at m
    rcases List.mem_append.mp m with m | m
    · obtain ⟨j, hj, hm⟩ := ih m; exact ⟨j, by omega, hm⟩
    · exact ⟨k + 1, Nat.le_refl _, m⟩
theorem lay_mono {M : Mac} {W : List Wish} {j k : Nat} (h : j ≤ k) : (lay M W j).1 <+: (lay M W k).1 := by
  induction h with
  | refl => exact List.prefix_refl _
  | step _ ih => exact ih.trans (lay_sinv _).pre
theorem lay_step {M : Mac} {W : List Wish} {k : Nat} {h a : BS} {l : Ln} (m : h ∈ keysF (lay M W k).1) (hl : l ∈ moves M) (e : nxt (parts W) h l = some a) : a ∈ keysF (lay M W (k + 1)).1 := by
  obtain ⟨j, hj, hm⟩ := key_lay m
  have : a ∈ keysF (lay M W (j + 1)).1 := exHs_has hm hl e
  exact keys_pre (lay_mono (by omega)) this
end L2.LL

/-! # LLM4 -/
set_option Elab.async false
set_option linter.all false
set_option maxRecDepth 100000
set_option maxHeartbeats 2000000
namespace L2.LL
open PySem PySem.Spec PyProof.Rows
/-- a state that knows what the cells hold of the parts -/
def Knows (ps : List T) (R : List T) (h : BS) : Prop := ∀ (i : Nat) (t : T), R[i]? = some t → t ∈ ps → h[i]? = some (some t)
theorem knows0 {M : Mac} {ps : List T} : Knows ps (firsts M.n) (begin0 M ps) := by
  intro i t ht hp
  unfold begin0
  rw [List.getElem?_map, ht]
  simp [hp]
theorem lay_known {M : Mac} {W : List Wish} (hM : M.Ok) (hW : WOk M W) : ∀ (q : List Ln), (∀ l ∈ q, l.Ok M ∧ soft l = true) → ∀ k h R, h ∈ keysF (lay M W k).1 → R.length = M.n → Knows (parts W) R h → ∃ k' h', h' ∈ keysF (lay M W k').1 ∧ Knows (parts W) (run R q) h'
  | [], _, k, h, R, hm, _, kn => ⟨k, h, hm, kn⟩
  | l :: q, hq, k, h, R, hm, hR, kn => by
    have hl := hq l (by simp)
    have hq' : ∀ x ∈ q, x.Ok M ∧ soft x = true := fun x hx => hq x (by simp [hx])
    have hb := (lay_inv (M := M) (W := W) k).1.bok h hm
    have hd : (did R l).length = M.n := by rw [did_length]; exact hR
    show ∃ k' h', h' ∈ keysF (lay M W k').1 ∧ Knows (parts W) (run (did R l) q) h'
    by_cases hv : val R l ∈ parts W
    · have hs : ∀ s ∈ l.src, ∃ t, R[s]? = some t ∧ t ∈ parts W := fun s hs => by
        have hsl : s < R.length := by rw [hR]; exact hl.1.src s hs
        refine ⟨R[s], List.getElem?_eq_getElem hsl, ?_⟩
        unfold val at hv
        rcases hl.1.fn with ⟨ef, s', e2, e3⟩ | ⟨i, ef, e2⟩
        · rw [ef, e2] at hv
          rw [e2] at hs
          have : s = s' := by simpa using hs
          subst this
          simpa [List.getElem?_eq_getElem hsl] using hv
        · rw [ef] at hv
          exact parts_arg hM hW hv _ (List.mem_map.mpr ⟨s, hs, by rw [List.getElem?_eq_getElem hsl]; rfl⟩)
      have hk : ∀ s ∈ l.src, ∃ t, h[s]? = some (some t) := fun s hs' => by
        obtain ⟨t, h1, h2⟩ := hs s hs'; exact ⟨t, kn s t h1 h2⟩
      have hve : val (h.map encL) l = val R l := by
        unfold val
        rcases hl.1.fn with ⟨ef, s, e2, e3⟩ | ⟨i, ef, e2⟩
        · obtain ⟨t, h1, h2⟩ := hs s (by simp [e2])
          rw [ef, e2]
          simp [h1, kn s t h1 h2, encL]
        · rw [ef]
          simp only
          congr 2
          refine List.map_congr_left fun s hs' => ?_
          obtain ⟨t, h1, h2⟩ := hs s hs'
          simp [h1, kn s t h1 h2, encL]
      have hn : nxt (parts W) h l = some (h.set l.c (some (val R l))) := by
        unfold nxt
        rw [bval_all hl.1 hk, hve]
        simp only
        rw [if_pos hv]
      refine lay_known hM hW q hq' (k + 1) _ _ (lay_step hm ((moves_mem hM).mpr hl) hn) hd fun i t ht hp => ?_
      unfold did at ht
      by_cases hi : l.c = i
      · subst hi
        rw [List.getElem?_set_self (by rw [hR]; exact hl.1.c)] at ht
        cases ht
        rw [List.getElem?_set_self (by rw [hb.len]; exact hl.1.c)]
      · rw [List.getElem?_set_ne hi] at ht ⊢
        exact kn i t ht hp
    · refine lay_known hM hW q hq' k h _ hm hd fun i t ht hp => ?_
      unfold did at ht
      by_cases hi : l.c = i
      · subst hi
        rw [List.getElem?_set_self (by rw [hR]; exact hl.1.c)] at ht
        cases ht
        exact absurd hp hv
      · rw [List.getElem?_set_ne hi] at ht
        exact kn i t ht hp
/-- (d) a soft program that fulfils the wishes is found -/
theorem res_due {M : Mac} {W : List Wish} (hM : M.Ok) (hW : WOk M W) {q : List Ln} (hq : ∀ l ∈ q, l.Ok M ∧ soft l = true) (hf : ful (run (firsts M.n) q) W = true) : ¬ FRes M W none := by
  rintro ⟨k, hN, hk⟩
  obtain ⟨k', h', hm, kn⟩ := lay_known hM hW q hq 0 (begin0 M (parts W)) (firsts M.n) (by simp [lay, bst]) (by simp [firsts]) knows0
  obtain ⟨j, _, hj⟩ := key_lay hm
  have hg : goalB W h' := fun w hw => by
    have := of_decide_eq_true (List.all_eq_true.mp hf w hw)
    have hl : w.1 < (run (firsts M.n) q).length := by rw [run_length]; simp [firsts]; exact (hW.wt w hw).1
    rw [List.getElem?_eq_getElem hl] at this
    exact kn w.1 w.2 (by rw [List.getElem?_eq_getElem hl]; exact congrArg some this) (parts_wish hw)
  by_cases h : j < k
  · exact hN j h h' hj hg
  · rw [lay_nil hk j (by omega)] at hj; cases hj
end L2.LL

/-! # LLM5 -/
set_option Elab.async false
set_option linter.all false
set_option maxRecDepth 100000
set_option maxHeartbeats 2000000
namespace L2.LL
open PySem PySem.Spec PyProof.Rows
theorem dbl_get {c : Nat} (hc : 0 < c) : ∀ (p : List Ln) (i : Nat), (dbl p c)[i]? = p[i / c]?
  | [], i => by simp [dbl]
  | l :: p, i => by
    have e : dbl (l :: p) c = List.replicate c l ++ dbl p c := rfl
    rw [e]
    by_cases hi : i < c
    · rw [List.getElem?_append_left (by simpa using hi), Nat.div_eq_of_lt hi]
      simp [List.getElem?_replicate, hi]
    · rw [List.getElem?_append_right (by simpa using hi), List.length_replicate, dbl_get hc p (i - c)]
      have : i / c = (i - c) / c + 1 := by
        rw [Nat.div_eq i c, if_pos ⟨hc, by omega⟩]
      rw [this, List.getElem?_cons_succ]
def stB (M : Mac) (p : List Ln) (b : Nat) : List T := run (firsts M.n) (p.take b)
theorem stB_succ {M : Mac} {p : List Ln} {b : Nat} {l : Ln} (e : p[b]? = some l) : stB M p (b + 1) = did (stB M p b) l := run_succ e
def dInv (M : Mac) (p : List Ln) (k i : Nat) (h : List T) (a : Nat) : Prop := a ≤ k ∧ ((h = stB M p (i / (k + 1)) ∧ i % (k + 1) ≤ a) ∨ (0 < i % (k + 1) ∧ h = stB M p (i / (k + 1) + 1)))
theorem dm_succ {c i : Nat} (hc : 0 < c) : (i % c + 1 < c ∧ (i + 1) / c = i / c ∧ (i + 1) % c = i % c + 1) ∨ (i % c + 1 = c ∧ (i + 1) / c = i / c + 1 ∧ (i + 1) % c = 0) := by
  have h1 := Nat.div_add_mod i c
  have h2 := Nat.mod_lt i hc
  by_cases h : i % c + 1 < c
  · left
    have e : i + 1 = c * (i / c) + (i % c + 1) := by omega
    refine ⟨h, ?_, ?_⟩
    · rw [e, Nat.mul_add_div hc, Nat.div_eq_of_lt h]; omega
    · rw [e, Nat.mul_add_mod, Nat.mod_eq_of_lt h]
  · right
    have e : i + 1 = c * (i / c + 1) := by rw [Nat.mul_add]; omega
    refine ⟨by omega, ?_, ?_⟩
    · rw [e, Nat.mul_div_cancel_left _ hc]
    · rw [e, Nat.mul_mod_right]
theorem dbl_mom {M : Mac} {p : List Ln} {k : Nat} (hk : k ≤ 3) (hp : ∀ l ∈ p, l.Ok M ∧ soft l = true) (ht : Tame M 4 p) : Mom M (dbl p (k + 1)) k (dInv M p k) where
  m0 := ⟨Nat.zero_le _, .inl ⟨by simp [stB, run], by simp⟩⟩
  m1 := fun i l h a hl ⟨ha, hi⟩ => by
    rw [dbl_get (Nat.succ_pos k)] at hl
    have hlp := hp l (List.mem_of_getElem? hl)
    have hd : did h l = stB M p (i / (k + 1) + 1) := by
      rcases hi with ⟨rfl, _⟩ | ⟨_, rfl⟩
      · exact (stB_succ hl).symm
      · rw [stB_succ hl]; exact did_did hlp.1 hlp.2
    refine ⟨Nat.zero_le _, ?_⟩
    rcases dm_succ (c := k + 1) (i := i) (Nat.succ_pos k) with ⟨h1, h2, h3⟩ | ⟨h1, h2, h3⟩
    · rw [h2, h3]; exact .inr ⟨by omega, hd⟩
    · rw [h2, h3]; exact .inl ⟨hd, Nat.le_refl _⟩
  m2 := fun i l h a hl ⟨ha, hi⟩ hak => by
    refine ⟨hak, ?_⟩
    rcases dm_succ (c := k + 1) (i := i) (Nat.succ_pos k) with ⟨h1, h2, h3⟩ | ⟨h1, h2, h3⟩
    · rw [h2, h3]
      rcases hi with ⟨e, hj⟩ | ⟨hj, e⟩
      · exact .inl ⟨e, by omega⟩
      · exact .inr ⟨by omega, e⟩
    · rw [h2, h3]
      rcases hi with ⟨e, hj⟩ | ⟨hj, e⟩
      · omega
      · exact .inl ⟨e, Nat.zero_le _⟩
  wt := fun i h a ⟨_, hi⟩ => by
    rcases hi with ⟨rfl, _⟩ | ⟨_, rfl⟩
    · exact (ht _).mono (by omega)
    · exact (ht _).mono (by omega)
  cnt := fun i => by
    refine ⟨(List.range (k + 1)).flatMap fun a => [pairT (stB M p (i / (k + 1))) a, pairT (stB M p (i / (k + 1) + 1)) a], ?_, fun h a ⟨ha, hi⟩ => ?_⟩
    · have : ∀ l : List Nat, (l.flatMap fun a => [pairT (stB M p (i / (k + 1))) a, pairT (stB M p (i / (k + 1) + 1)) a]).length = l.length * 2 := fun l => by
        induction l with
        | nil => rfl
        | cons a l ih => rw [List.flatMap_cons, List.length_append, ih]; simp; omega
      rw [this, List.length_range]; omega
    · refine List.mem_flatMap.mpr ⟨a, List.mem_range.mpr (by omega), ?_⟩
      rcases hi with ⟨rfl, _⟩ | ⟨_, rfl⟩ <;> simp
/-- (e) at the end the doubled program holds what the program holds -/
theorem dInv_end {M : Mac} {p : List Ln} {k : Nat} {h : List T} {a : Nat} (hi : dInv M p k (dbl p (k + 1)).length h a) : h = run (firsts M.n) p := by
  have hl : (dbl p (k + 1)).length = p.length * (k + 1) := dbl_len
  obtain ⟨_, hi⟩ := hi
  rw [hl, Nat.mul_div_cancel _ (Nat.succ_pos k), Nat.mul_mod_left] at hi
  rcases hi with ⟨rfl, _⟩ | ⟨h0, _⟩
  · unfold stB; rw [List.take_length]
  · omega
end L2.LL

/-! # LLM6 -/
set_option Elab.async false
set_option linter.all false
set_option maxRecDepth 100000
set_option maxHeartbeats 2000000
namespace L2.LL
open PySem PySem.Spec PyProof.Rows
theorem stL_dbl {M : Mac} {p : List Ln} {k : Nat} {Ls : List Nat} (hp : ∀ l ∈ p, l.Ok M ∧ soft l = true) (hL : LossOk k Ls) : ∀ i, i ≤ (dbl p (k + 1)).length →
    (stL (dbl p (k + 1)) Ls (firsts M.n) i = stB M p (i / (k + 1)) ∧ ∀ x, (k + 1) * (i / (k + 1)) ≤ x → x < i → x ∈ Ls) ∨ (0 < i % (k + 1) ∧ stL (dbl p (k + 1)) Ls (firsts M.n) i = stB M p (i / (k + 1) + 1))
  | 0, _ => .inl ⟨by simp [stL, stB, run], fun x _ h => absurd h (Nat.not_lt_zero x)⟩
  | i + 1, hi => by
    have ih := stL_dbl hp hL i (by omega)
    have hP : (dbl p (k + 1))[i]? = some (dbl p (k + 1))[i] := List.getElem?_eq_getElem (by omega)
    generalize (dbl p (k + 1))[i] = l at hP
    have hl := hP
    rw [dbl_get (Nat.succ_pos k)] at hl
    have hlp := hp l (List.mem_of_getElem? hl)
    have es : stL (dbl p (k + 1)) Ls (firsts M.n) (i + 1) = if i ∈ Ls then stL (dbl p (k + 1)) Ls (firsts M.n) i else did (stL (dbl p (k + 1)) Ls (firsts M.n) i) l := by rw [stL, hP]
    have hdm := Nat.div_add_mod i (k + 1)
    by_cases hin : i ∈ Ls
    · rw [if_pos hin] at es
      rw [es]
      rcases dm_succ (c := k + 1) (i := i) (Nat.succ_pos k) with ⟨h1, h2, h3⟩ | ⟨h1, h2, h3⟩
      · rw [h2, h3]
        rcases ih with ⟨e, ha⟩ | ⟨h0, e⟩
        · refine .inl ⟨e, fun x hx1 hx2 => ?_⟩
          by_cases hxi : x = i
          · rw [hxi]; exact hin
          · exact ha x hx1 (by omega)
        · exact .inr ⟨by omega, e⟩
      · rw [h2, h3]
        rcases ih with ⟨e, ha⟩ | ⟨h0, e⟩
        · exfalso
          obtain ⟨j, hj, hn⟩ := hL ((k + 1) * (i / (k + 1)))
          apply hn
          by_cases hxi : (k + 1) * (i / (k + 1)) + j = i
          · rw [hxi]; exact hin
          · exact ha _ (by omega) (by omega)
        · exact .inl ⟨e, fun x hx1 hx2 => by rw [Nat.mul_add] at hx1; omega⟩
    · rw [if_neg hin] at es
      have hd : did (stL (dbl p (k + 1)) Ls (firsts M.n) i) l = stB M p (i / (k + 1) + 1) := by
        rcases ih with ⟨e, _⟩ | ⟨_, e⟩
        · rw [e]; exact (stB_succ hl).symm
        · rw [e, stB_succ hl]; exact did_did hlp.1 hlp.2
      rw [es, hd]
      rcases dm_succ (c := k + 1) (i := i) (Nat.succ_pos k) with ⟨h1, h2, h3⟩ | ⟨h1, h2, h3⟩
      · rw [h2, h3]; exact .inr ⟨by omega, rfl⟩
      · rw [h2, h3]; exact .inl ⟨rfl, fun x hx1 hx2 => by rw [Nat.mul_add] at hx1; omega⟩
end L2.LL

/-! # LLM7 -/
set_option Elab.async false
set_option linter.all false
set_option maxRecDepth 100000
set_option maxHeartbeats 2000000
namespace L2.LL
open PySem PySem.Spec PyProof.Rows
theorem stL_over {P : List Ln} {Ls : List Nat} {h : List T} : ∀ i, P.length ≤ i → stL P Ls h i = stL P Ls h P.length
  | 0, hi => by
    have : P.length = 0 := by omega
    rw [this]
  | i + 1, hi => by
    by_cases e : P.length = i + 1
    · rw [e]
    · rw [stL, List.getElem?_eq_none_iff.mpr (by omega)]
      exact stL_over i (by omega)
theorem stL_end {M : Mac} {p : List Ln} {k : Nat} {Ls : List Nat} (hp : ∀ l ∈ p, l.Ok M ∧ soft l = true) (hL : LossOk k Ls) : stL (dbl p (k + 1)) Ls (firsts M.n) (dbl p (k + 1)).length = run (firsts M.n) p := by
  have h := stL_dbl hp hL _ (Nat.le_refl _)
  have e : (dbl p (k + 1)).length / (k + 1) = p.length := by rw [dbl_len, Nat.mul_div_cancel _ (Nat.succ_pos k)]
  have e2 : (dbl p (k + 1)).length % (k + 1) = 0 := by rw [dbl_len, Nat.mul_mod_left]
  rw [e, e2] at h
  rcases h with ⟨h, _⟩ | ⟨h, _⟩
  · rw [h]; unfold stB; rw [List.take_length]
  · omega
theorem stL_ht {M : Mac} {p : List Ln} {k : Nat} {Ls : List Nat} (hp : ∀ l ∈ p, l.Ok M ∧ soft l = true) (hL : LossOk k Ls) (ht : Tame M 4 p) (i : Nat) : HT M 7 (stL (dbl p (k + 1)) Ls (firsts M.n) i) := by
  have key : ∀ i, i ≤ (dbl p (k + 1)).length → HT M 7 (stL (dbl p (k + 1)) Ls (firsts M.n) i) := fun i hi => by
    rcases stL_dbl hp hL i hi with ⟨e, _⟩ | ⟨_, e⟩
    · rw [e]; exact (ht _).mono (by omega)
    · rw [e]; exact (ht _).mono (by omega)
  by_cases h : i ≤ (dbl p (k + 1)).length
  · exact key i h
  · rw [stL_over i (by omega)]; exact key _ (Nat.le_refl _)
end L2.LL

/-! # LLM8 -/
set_option Elab.async false
set_option linter.all false
set_option maxRecDepth 100000
set_option maxHeartbeats 2000000
namespace L2.LL
open PySem PySem.Spec PyProof.Rows
theorem run_ht {M : Mac} {P : List Ln} (hP : LnsOk M P) : ∀ i, i ≤ P.length → HT M i (run (firsts M.n) (P.take i))
  | 0, _ => by simp [run]; exact firsts_ht
  | i + 1, hi => by
    have e : P[i]? = some P[i] := List.getElem?_eq_getElem (by omega)
    rw [run_succ e]
    exact did_ht1 (run_ht hP i (by omega)) (hP _ (List.getElem_mem _))
/-- states with losses are no deeper than their lines but one -/
theorem es_ht {M : Mac} {P : List Ln} (hP : LnsOk M P) : ∀ i h a, i ≤ P.length → ES (firsts M.n) P i h a → h = run (firsts M.n) (P.take i) ∨ ∃ j, i = j + 1 ∧ HT M j h
  | 0, h, a, _, ⟨e, _⟩ => .inl (by rw [e]; simp [run])
  | i + 1, h, a, hi, ⟨l, hl, hc⟩ => by
    have hlo := hP l (List.mem_of_getElem? hl)
    rcases hc with ⟨_, h', a', he, rfl⟩ | ⟨_, he⟩
    · rcases es_ht hP i h' a' (by omega) he with rfl | ⟨j, rfl, H⟩
      · exact .inl (run_succ hl).symm
      · exact .inr ⟨j + 1, rfl, did_ht1 H hlo⟩
    · rcases es_ht hP i h 0 (by omega) he with rfl | ⟨j, rfl, H⟩
      · exact .inr ⟨i, rfl, run_ht hP i (by omega)⟩
      · exact .inr ⟨j + 1, rfl, H.mono (by omega)⟩
theorem es_ht6 {M : Mac} {P : List Ln} (hP : LnsOk M P) (ht : Tame M 4 P) (h7 : P.length ≤ 7) {i : Nat} {h : List T} {a : Nat} (hi : i ≤ P.length) (he : ES (firsts M.n) P i h a) : HT M 6 h := by
  rcases es_ht hP i h a hi he with rfl | ⟨j, rfl, H⟩
  · exact (ht i).mono (by omega)
  · exact H.mono (by omega)
end L2.LL

/-! # LLW22 -/
set_option Elab.async false
set_option linter.all false
set_option maxRecDepth 100000
set_option maxHeartbeats 2000000
namespace L2.LL
open PySem PySem.Spec PyProof.Rows
/-! ## [1 for cell, term in wishes if held[cell] != term] -/
def badW (h : List T) : T → Bool
  | .tup [.num c, x] => !decide (h[c.toNat]?.getD .none = x)
  | _ => false
def badL (h : List T) (W : List Wish) : List T := ((W.map wT).filter (badW h)).map fun _ => .num 1
theorem badL_nil {h : List T} {W : List Wish} : badL h W = [] ↔ ful h W = true := by
  unfold badL ful
  rw [List.map_eq_nil_iff, List.filter_eq_nil_iff, List.all_eq_true]
  constructor
  · intro z w hw
    have := z (wT w) (List.mem_map.mpr ⟨w, hw, rfl⟩)
    have e1 : badW h (wT w) = !decide (h[((w.1 : Nat) : Int).toNat]?.getD .none = w.2) := rfl
    rw [e1, Int.toNat_natCast] at this
    simpa using this
  · intro z t ht
    obtain ⟨w, hw, rfl⟩ := List.mem_map.mp ht
    have e1 : badW h (wT w) = !decide (h[((w.1 : Nat) : Int).toNat]?.getD .none = w.2) := rfl
    rw [e1, Int.toNat_natCast]
    have := z w hw
    simpa using this
theorem badL_shal {h : List T} {W : List Wish} : ShalL (badL h W) := shalL_of (noTxs_iff.mpr fun t ht => by
    obtain ⟨x, _, rfl⟩ := List.mem_map.mp ht; simp) (depthAll_le.mpr fun t ht => by obtain ⟨x, _, rfl⟩ := List.mem_map.mp ht; simp)
section
variable {M : Mac} {W : List Wish} {h : List T} {σ : SD} {S : Sto} {g : Gp}
theorem bad_lc {a c d : Nat} {R : DQ} (hM : M.Ok) (hW : WOk M W) (H : HT M 8 h) (ea : σ[a]? = some (some (.dat (.tup h)))) (hac : a ≠ c) (had : a ≠ d) (hcd : c ≠ d) (hc : c < σ.length) (hd : d < σ.length)
    (hR : R (.ref S.length) (S ++ [.lst ((badL h W).map .dat)])) :
    LcOk (W.map wT) (fun _ => True) (gT 2 (gsCons (gN c) (gsCons (gN d) gsNil))) (dTest (dOp opNe (dOp (opIx g) (dVar a) (dVar c)) (dVar d))) (dC (.dat (.num 1))) [c, d] σ S R := by
  have hWl := hW.len hM
  refine lc_pure (badW h) (fun _ => .dat (.num 1)) trivial (by simp; omega) (fun t R1 R0 ht h1 h0 => ?_) ?_
  · obtain ⟨w, hw, rfl⟩ := List.mem_map.mp ht
    have hg := H.getD (hW.wt w hw).1
    obtain ⟨x, hx, _, _⟩ := H.get (hW.wt w hw).1
    have e1 : badW h (wT w) = !decide (h[((w.1 : Nat) : Int).toNat]?.getD .none = w.2) := rfl
    rw [e1, Int.toNat_natCast] at h1 h0
    rw [hx] at hg h1 h0
    simp only [Option.getD_some] at hg h1 h0
    simp only [s_gT, s_gsCons, s_gsNil, s_gN, s_test, s_op, s_var, s_C, s_w1, s_w0]
    refine ⟨rfl, trivial, .dat (.tup h), ?_, .dat (nT w.1), ?_, ?_⟩
    · rw [List.getElem?_set_ne (Ne.symm had), List.getElem?_set_ne (Ne.symm hac), List.getElem?_set_ne (Ne.symm hac), List.getElem?_set_ne (Ne.symm had)]; exact ea
    · rw [List.getElem?_set_ne (Ne.symm hcd), List.getElem?_set_self (by simpa using hc)]
    simp only [s_ixT, s_atN]
    refine ⟨x, hx, .dat w.2, ?_, ?_⟩
    · rw [List.getElem?_set_self (by simpa using hd)]
    refine (s_eqD (n := true)).mpr ⟨hg.1.shal (by omega), hW.shal hw, ?_⟩
    simp only [if_true]
    cases hdd : decide (x = w.2) with
    | true => rw [hdd] at h0; exact h0 rfl
    | false => rw [hdd] at h1; exact h1 rfl
  · have e : ((W.map wT).filter (badW h)).map (fun _ => D.dat (.num 1)) = (badL h W).map .dat := by unfold badL; rw [List.map_map]; rfl
    rw [e]; exact hR
/-- .. != [] -/
theorem bad_ne {a b c d : Nat} {Q : Bool → Sto → Prop} (hM : M.Ok) (hW : WOk M W) (H : HT M 8 h) (ea : σ[a]? = some (some (.dat (.tup h)))) (eb : σ[b]? = some (some (.dat (wsT W)))) (hac : a ≠ c) (had : a ≠ d) (hcd : c ≠ d) (hc : c < σ.length) (hd : d < σ.length)
    (hQ : Q (!ful h W) S) :
    xGc (dTest (dOp opNe (dLc (iT (dVar b)) (gT 2 (gsCons (gN c) (gsCons (gN d) gsNil))) (dTest (dOp opNe (dOp (opIx g) (dVar a) (dVar c)) (dVar d))) (dC (.dat (.num 1))) [c, d]) (dLst dNil))) σ S Q := by
  simp only [s_xgc, s_test, s_op, s_lc, s_iT, s_lst, s_nil, s_var]
  intro hs
  refine ⟨.dat (wsT W), eb, W.map wT, rfl, ?_⟩
  refine bad_lc hM hW H ea hac had hcd hc hd ⟨by simp, ?_⟩
  refine (s_eqL (n := true)).mpr ⟨badL h W, [], by rw [List.getElem?_append_left (by simp)]; simp, by simp, badL_shal, shalL_nil, ?_⟩
  refine ⟨S, (List.prefix_append _ _).trans (List.prefix_append _ _), Nat.le_refl _, hs, ?_⟩
  simp only [if_true]
  by_cases hf : ful h W = true
  · rw [decide_eq_true (badL_nil.mpr hf)]; rw [hf] at hQ; exact hQ
  · rw [decide_eq_false (fun z => hf (badL_nil.mp z))]
    have : ful h W = false := by simpa using hf
    rw [this] at hQ; exact hQ
/-- .. == [], as a value -/
theorem bad_eq {a b c d : Nat} {Q : DQ} (hM : M.Ok) (hW : WOk M W) (H : HT M 8 h) (ea : σ[a]? = some (some (.dat (.tup h)))) (eb : σ[b]? = some (some (.dat (wsT W)))) (hac : a ≠ c) (had : a ≠ d) (hcd : c ≠ d) (hc : c < σ.length) (hd : d < σ.length)
    (hQ : Q (.bl (ful h W)) S) :
    dGc (dOp opEq (dLc (iT (dVar b)) (gT 2 (gsCons (gN c) (gsCons (gN d) gsNil))) (dTest (dOp opNe (dOp (opIx g) (dVar a) (dVar c)) (dVar d))) (dC (.dat (.num 1))) [c, d]) (dLst dNil)) σ S Q := by
  simp only [s_gc, s_op, s_lc, s_iT, s_lst, s_nil, s_var]
  intro hs
  refine ⟨.dat (wsT W), eb, W.map wT, rfl, ?_⟩
  refine bad_lc hM hW H ea hac had hcd hc hd ⟨by simp, ?_⟩
  refine (s_eqL (n := false)).mpr ⟨badL h W, [], by rw [List.getElem?_append_left (by simp)]; simp, by simp, badL_shal, shalL_nil, ?_⟩
  refine gcb hs ⟨[.lst ((badL h W).map .dat)] ++ [.lst []], by simp⟩ ?_
  simp only [if_neg Bool.false_ne_true]
  by_cases hf : ful h W = true
  · rw [decide_eq_true (badL_nil.mpr hf)]; rw [hf] at hQ; exact hQ
  · rw [decide_eq_false (fun z => hf (badL_nil.mp z))]
    have : ful h W = false := by simpa using hf
    rw [this] at hQ; exact hQ
end
/-! ## the pairs behind a line -/
abbrev HP := List T × Nat
abbrev pT (p : HP) : T := pairT p.1 p.2
def addU (acc : List HP) (p : HP) : List HP := if p ∈ acc then acc else acc ++ [p]
def stepU (l : Ln) (acc : List HP) (p : HP) : List HP := if p.2 = 0 then addU (addU acc (did p.1 l, 0)) (p.1, 1) else addU acc (did p.1 l, 0)
def kvU (acc : List HP) : List (T × D) := acc.map fun p => (pT p, .bl true)
theorem pT_inj {p q : HP} : pT p = pT q ↔ p = q := by
  constructor
  · intro e
    have e1 := NestedKey.tup.inj e
    simp only [List.cons.injEq, and_true] at e1
    have h1 := NestedKey.tup.inj e1.1
    have h2 := NestedKey.num.inj e1.2
    exact Prod.ext h1 (by omega)
  · exact fun e => by rw [e]
theorem putU {acc : List HP} {p : HP} : putL (kvU acc) (pT p) (.bl true) = kvU (addU acc p) := by
  unfold putL addU
  by_cases hm : p ∈ acc
  · rw [if_pos hm, if_pos]
    · unfold kvU
      rw [List.map_map]
      refine List.map_congr_left fun q hq => ?_
      simp only [Function.comp_apply]
      split
      · rename_i e; rw [e]
      · rfl
    · unfold kvU
      rw [List.map_map]
      exact List.mem_map.mpr ⟨p, hm, rfl⟩
  · rw [if_neg hm, if_neg]
    · simp [kvU]
    · unfold kvU
      rw [List.map_map]
      intro z
      obtain ⟨q, hq, e⟩ := List.mem_map.mp z
      exact hm (pT_inj.mp e ▸ hq)
theorem addU_mem {acc : List HP} {p q : HP} : q ∈ addU acc p ↔ q ∈ acc ∨ q = p := by
  unfold addU
  split
  · constructor
    · exact .inl
    · rintro (h | rfl)
      · exact h
      · assumption
  · simp
theorem addU_len {acc : List HP} {p : HP} : (addU acc p).length ≤ acc.length + 1 := by
  unfold addU; split <;> simp
def behU (l : Ln) (p q : HP) : Prop := (q.1 = did p.1 l ∧ q.2 = 0) ∨ (p.2 = 0 ∧ q.1 = p.1 ∧ q.2 = 1)
theorem stepU_mem {l : Ln} {acc : List HP} {p q : HP} : q ∈ stepU l acc p ↔ q ∈ acc ∨ behU l p q := by
  obtain ⟨h, a⟩ := p
  obtain ⟨h', a'⟩ := q
  unfold stepU behU
  split
  · rename_i e
    rw [addU_mem, addU_mem]
    simp only [Prod.mk.injEq]
    have : a = 0 := e
    subst this
    simp only [true_and]
    rw [or_assoc]
  · rename_i e
    rw [addU_mem]
    simp only [Prod.mk.injEq]
    have : ¬ a = 0 := e
    simp [this]
theorem stepU_len {l : Ln} {acc : List HP} {p : HP} : (stepU l acc p).length ≤ acc.length + 2 := by
  unfold stepU
  split
  · have := addU_len (acc := addU acc (did p.1 l, 0)) (p := (p.1, 1))
    have := addU_len (acc := acc) (p := (did p.1 l, 0))
    omega
  · have := addU_len (acc := acc) (p := (did p.1 l, 0))
    omega
theorem foldU_mem {l : Ln} {L acc : List HP} {q : HP} : q ∈ L.foldl (stepU l) acc ↔ q ∈ acc ∨ ∃ p ∈ L, behU l p q := by
  induction L generalizing acc with
  | nil => simp
  | cons p L ih =>
    rw [List.foldl_cons, ih, stepU_mem, or_assoc]
    simp
theorem foldU_len {l : Ln} {L acc : List HP} : (L.foldl (stepU l) acc).length ≤ acc.length + 2 * L.length := by
  induction L generalizing acc with
  | nil => simp
  | cons p L ih =>
    rw [List.foldl_cons]
    have := ih (acc := stepU l acc p)
    have := stepU_len (l := l) (acc := acc) (p := p)
    simp only [List.length_cons]; omega
/-- what a list of pairs tells -/
structure AllES (h0 : List T) (P : List Ln) (i : Nat) (L : List HP) : Prop where
  mem : ∀ h a, (h, a) ∈ L ↔ ES h0 P i h a
theorem AllES.next {h0 : List T} {P : List Ln} {i : Nat} {L : List HP} {l : Ln} (A : AllES h0 P i L) (hl : P[i]? = some l) : AllES h0 P (i + 1) (L.foldl (stepU l) []) := by
  refine ⟨fun h a => ?_⟩
  rw [foldU_mem]
  constructor
  · rintro (z | ⟨⟨h', a'⟩, hp, z⟩)
    · cases z
    · have e := (A.mem h' a').mp hp
      refine ⟨l, hl, ?_⟩
      rcases z with ⟨e1, e2⟩ | ⟨e0, e1, e2⟩
      · exact .inl ⟨e2, h', a', e, e1⟩
      · have e0 : a' = 0 := e0
        have e1 : h = h' := e1
        subst e0; subst e1
        exact .inr ⟨e2, e⟩
  · rintro ⟨l', hl', z⟩
    rw [hl] at hl'; cases hl'
    right
    rcases z with ⟨e2, h', a', e, e1⟩ | ⟨e2, e⟩
    · exact ⟨(h', a'), (A.mem _ _).mpr e, .inl ⟨e1, e2⟩⟩
    · exact ⟨(h, 0), (A.mem _ _).mpr e, .inr ⟨rfl, rfl, e2⟩⟩
theorem es_ex {h0 : List T} {P : List Ln} : ∀ i, i ≤ P.length → ∃ h, ES h0 P i h 0
  | 0, _ => ⟨h0, rfl, rfl⟩
  | i + 1, hi => by
    obtain ⟨h, e⟩ := es_ex (h0 := h0) (P := P) i (by omega)
    exact ⟨_, P[i], List.getElem?_eq_getElem (by omega), .inl ⟨rfl, h, 0, e, rfl⟩⟩
/-- the terms of a cell -/
def atC (c : Nat) (L : List HP) : List T := L.map fun p => p.1[c]?.getD .none
theorem rep_iff {x : T} {l : List T} : l = (List.replicate l.length [x]).flatten ↔ ∀ t ∈ l, t = x := by
  have e : (List.replicate l.length [x]).flatten = List.replicate l.length x := by
    induction l.length with
    | zero => rfl
    | succ n ih => rw [List.replicate_succ, List.flatten_cons, ih]; rfl
  rw [e, List.eq_replicate_iff]
  simp
theorem sure_iff {h0 : List T} {P : List Ln} {i : Nat} {l : Ln} {L L' : List HP} {x : T} (hl : P[i]? = some l) (A : AllES h0 P i L) (A' : AllES h0 P (i + 1) L') (hc : ∀ p ∈ L, l.c < p.1.length) (hc' : ∀ p ∈ L', l.c < p.1.length) (hx : (atC l.c L')[0]? = some x) :
    Sure h0 P i l ↔ (∀ t ∈ atC l.c L', t = x) ∧ ¬ ∀ t ∈ atC l.c L, t = x := by
  have gd : ∀ {L : List HP}, (∀ p ∈ L, l.c < p.1.length) → ∀ y, (∀ t ∈ atC l.c L, t = y) ↔ ∀ p ∈ L, p.1[l.c]? = some y := fun {L} hc y => by
    unfold atC
    constructor
    · intro z p hp
      have := z _ (List.mem_map.mpr ⟨p, hp, rfl⟩)
      rw [List.getElem?_eq_getElem (hc p hp)] at this ⊢
      exact congrArg some this
    · intro z t ht
      obtain ⟨p, hp, rfl⟩ := List.mem_map.mp ht
      rw [z p hp]; rfl
  rw [gd hc', gd hc]
  unfold Sure
  constructor
  · rintro ⟨t, h1, h2⟩
    have : t = x := by
      unfold atC at hx
      rw [List.getElem?_map, Option.map_eq_some_iff] at hx
      obtain ⟨p, hp, e⟩ := hx
      have := h1 p.1 p.2 ((A'.mem _ _).mp (List.mem_of_getElem? hp))
      rw [this] at e; exact e
    subst this
    exact ⟨fun p hp => h1 p.1 p.2 ((A'.mem _ _).mp hp), fun z => h2 fun h a e => z (h, a) ((A.mem _ _).mpr e)⟩
  · rintro ⟨h1, h2⟩
    exact ⟨x, fun h a e => h1 (h, a) ((A'.mem _ _).mpr e), fun z => h2 fun p hp => z p.1 p.2 ((A.mem _ _).mp hp)⟩
end L2.LL

/-! # LLW23 -/
set_option Elab.async false
set_option linter.all false
set_option maxRecDepth 100000
set_option maxHeartbeats 2000000
namespace L2.LL
open PySem PySem.Spec PyProof.Rows
/-! ## _law_shown -/
abbrev pD (L : List HP) : List D := L.map fun p => .dat (pT p)
abbrev shS (M : Mac) (P : List Ln) (W : List Wish) (e f : Nat) (x5 x6 x7 x8 x9 x10 x11 x12 x13 : Option D) : SD :=
  [some (.dat M.t), some (.dat (prT P)), some (.dat (wsT W)), some (.ref e), some (.ref f), x5, x6, x7, x8, x9, x10, x11, x12, x13]
structure ShSt (M : Mac) (P : List Ln) (S : Sto) (i : Nat) (e f : Nat) (L : List HP) (c : List Ln) (S' : Sto) : Prop where
  pre : S <+: S'
  sco : Sco S'
  fS : S.length ≤ f
  ef : e ≠ f
  ee : S'[e]? = some (.lst (pD L))
  ff : S'[f]? = some (.lst (lnD c))
  core : Core (firsts M.n) P i c
  cl : c.length ≤ i
  Ll : L.length ≤ 2 ^ i
  all : AllES (firsts M.n) P i L
def shwI (M : Mac) (P : List Ln) (W : List Wish) (S : Sto) (i : Nat) (σ : SD) (S' : Sto) : Prop := ∃ (e f : Nat) (L : List HP) (c : List Ln) (x5 x6 x7 x8 x9 x10 x11 x12 x13 : Option D), ShSt M P S i e f L c S' ∧ σ = shS M P W e f x5 x6 x7 x8 x9 x10 x11 x12 x13
def shwJ (M : Mac) (P : List Ln) (W : List Wish) (e f : Nat) (x6 x10 x11 x12 x13 : Option D) (l : Ln) (S1 : Sto) (L : List HP) (j : Nat) (σ : SD) (S2 : Sto) : Prop := ∃ (ep : Nat) (x7 x8 : Option D), S2 = S1 ++ [.dct (kvU ((L.take j).foldl (stepU l) [])) ep] ∧
  σ = shS M P W e f (some (.dat l.t)) x6 x7 x8 (some (.ref S1.length)) x10 x11 x12 x13
theorem sco_kv {acc : List HP} {n ep : Nat} : scoO n (.dct (kvU acc) ep) := fun p hp => by
  obtain ⟨q, _, rfl⟩ := List.mem_map.mp hp; trivial
theorem pow7 {i : Nat} (h : i ≤ 7) : 2 ^ i ≤ 128 := Nat.pow_le_pow_right (n := 2) (by omega) h
section
variable {M : Mac} {P : List Ln} {W : List Wish} {g : Gp}
/-- [held[line[0]] for held, last in every] -/
theorem at_lc {L : List HP} {l : Ln} {σ : SD} {S : Sto} {ok : Sto → Prop} {Q : DQ} (hok : ok S) (hL : L.length ≤ 100000) (hc : ∀ p ∈ L, l.c < p.1.length) (h5 : σ[5]? = some (some (.dat l.t))) (h14 : σ.length = 14)
    (h : Q (.ref S.length) (S ++ [.lst ((atC l.c L).map .dat)])) :
    LcOk (L.map pT) ok (gT 2 (gsCons (gN 7) (gsCons (gN 8) gsNil))) xYes (dOp (opIx g) (dVar 7) (dOp (opIx g) (dVar 5) (dC (.dat (.num 0))))) [7, 8] σ S Q := by
  refine lc_map (fun t => match t with | .tup [.tup h, _] => .dat (h[l.c]?.getD .none) | _ => .bl true) hok (by simpa using hL) (fun t R1 ht h1 => ?_) ?_
  · obtain ⟨p, hp, rfl⟩ := List.mem_map.mp ht
    have hcl := hc p hp
    simp only [s_gT, s_gsCons, s_gsNil, s_gN, s_op, s_var, s_C, s_w1, s_w0]
    refine ⟨rfl, trivial, .dat (.tup p.1), ?_, .dat l.t, ?_, ?_⟩
    · rw [List.getElem?_set_ne (by decide), List.getElem?_set_self (by simp; omega)]
    · rw [List.getElem?_set_ne (by decide), List.getElem?_set_ne (by decide), List.getElem?_set_ne (by decide), List.getElem?_set_ne (by decide)]; exact h5
    simp only [s_ixT, s_at0]
    refine ⟨_, rfl, ?_⟩
    simp only [s_ixT, s_atN]
    refine ⟨p.1[l.c], List.getElem?_eq_getElem hcl, ?_⟩
    have e : (p.1[l.c]?).getD .none = p.1[l.c] := by rw [List.getElem?_eq_getElem hcl]; rfl
    have h1 : R1 (.dat ((p.1[l.c]?).getD .none)) S := h1
    rw [e] at h1
    exact h1
  · have e : (L.map pT).map (fun t => match t with | .tup [.tup h, _] => D.dat (h[l.c]?.getD .none) | _ => .bl true) = (atC l.c L).map .dat := by
      unfold atC; rw [List.map_map, List.map_map]; rfl
    rw [e]; exact h
/-- xs == [x] * len(xs) -/
theorem rep_eq {σ : SD} {S : Sto} {a b : Nat} {ix iy : Nat} {xs ys : List T} {x : T} {neg : Bool} {Q : Bool → Sto → Prop} (hx : σ[ix]? = some (some (.ref a))) (hy : σ[iy]? = some (some (.ref b))) (ea : S[a]? = some (.lst (xs.map .dat))) (eb : S[b]? = some (.lst (ys.map .dat)))
    (h0 : xs[0]? = some x) (hl : ys.length ≤ 100000) (sy : ShalL ys) (sx : noTx x = true ∧ x.depth ≤ 59) (hQ : Q (if neg then !decide (∀ t ∈ ys, t = x) else decide (∀ t ∈ ys, t = x)) S) :
    xGc (dTest (dOp (opEqB neg) (dVar iy) (dOp opMul (dLst (dCons (dOp (opIx g) (dVar ix) (dC (.dat (.num 0)))) dNil)) (dCall (fLen g) (dCons (dVar iy) dNil))))) σ S Q := by
  simp only [s_xgc, s_test, s_op, s_lst, s_nil, s_cons, s_call, s_var, s_C]
  intro hs
  refine ⟨.ref b, hy, .ref a, hx, ?_⟩
  refine (s_ixL).mpr ⟨xs.map .dat, .dat x, ea, ?_, ?_⟩
  · have : atI (xs.map D.dat) ((0 : Nat) : Int) = (xs.map D.dat)[0]? := s_atN
    have e0 : ((0 : Nat) : Int) = 0 := rfl
    rw [e0] at this
    rw [this, List.getElem?_map, h0]; rfl
  refine ⟨by simp, .ref b, hy, ?_⟩
  have eb1 : (S ++ [AO.lst [D.dat x]])[b]? = some (.lst (ys.map .dat)) := pre_get (List.prefix_append _ _) eb
  refine (s_lenL).mpr ⟨_, eb1, ?_⟩
  refine (s_mulL).mpr ⟨[.dat x], by simp, by omega, by simp; omega, by simp; omega, ?_⟩
  have er : (List.replicate (((ys.map D.dat).length : Nat) : Int).toNat [D.dat x]).flatten = ((List.replicate ys.length [x]).flatten).map .dat := by
    rw [Int.toNat_natCast, List.length_map]
    induction ys.length with
    | zero => rfl
    | succ n ih => rw [List.replicate_succ, List.replicate_succ, List.flatten_cons, List.flatten_cons, List.map_append, ih]; rfl
  rw [er]
  have sr : ShalL ((List.replicate ys.length [x]).flatten) := by
    have : ∀ t ∈ (List.replicate ys.length [x]).flatten, t = x := fun t ht => by
      obtain ⟨l, hl, ht⟩ := List.mem_flatten.mp ht
      rw [List.eq_of_mem_replicate hl] at ht
      simpa using ht
    exact shalL_of (noTxs_iff.mpr fun t ht => by rw [this t ht]; exact sx.1) (depthAll_le.mpr fun t ht => by rw [this t ht]; have := sx.2; omega)
  refine (s_eqL (n := neg)).mpr ⟨ys, _, by rw [List.append_assoc]; exact pre_get (List.prefix_append _ _) eb, by simp, sy, sr, ?_⟩
  refine ⟨S, (List.prefix_append _ _).trans (List.prefix_append _ _), Nat.le_refl _, hs, ?_⟩
  have e : decide (ys = (List.replicate ys.length [x]).flatten) = decide (∀ t ∈ ys, t = x) := by
    rw [decide_eq_decide]; exact rep_iff
  rw [e]
  exact hQ
end
end L2.LL

/-! # LLW24 -/
set_option Elab.async false
set_option linter.all false
set_option maxRecDepth 100000
set_option maxHeartbeats 2000000
namespace L2.LL
open PySem PySem.Spec PyProof.Rows
def notFul (W : List Wish) : T → Bool
  | .tup [.tup h, _] => !ful h W
  | _ => false
def heldOf : T → D
  | .tup [x, _] => .dat x
  | _ => .bl true
theorem w_Lshown {g : Gp} : ∀ ds S Q, Sco S → F_Lshown g ds S Q → fb_Lshown g (EndG S Q) (startD N_Lshown ds) S := by
  intro ds S Q hs h
  unfold F_Lshown at h
  split at h
  · obtain ⟨M, P, W, rfl, rfl, rfl, hM, hP, h7, ht, hW, hno, hyes⟩ := h
    have hn3 := hM.n3
    have hES : ∀ {i h a}, i ≤ P.length → ES (firsts M.n) P i h a → HT M 6 h := fun hi he => es_ht6 hP ht h7 hi he
    have hsm : smallRg 0 (M.n : Int) := by unfold smallRg; omega
    unfold fb_Lshown
    simp only [s_start, s_seq, s_par, s_lst, s_tup, s_tupRg, s_rg1, s_op, s_nil, s_cons, s_var, s_C]
    refine ⟨.dat M.t, rfl, ?_⟩
    simp only [s_ixT, s_at0]
    refine ⟨_, rfl, hsm, [.tup (firsts M.n), .num 0], ?_, by simp, by simp, by simp, _, _, rfl, ?_⟩
    · rw [rg_firsts]; rfl
    simp only [s_for, s_iT, s_var]
    refine ⟨.dat (prT P), rfl, P.map Ln.t, rfl, ?_⟩
    have eL0 : pD [(firsts M.n, 0)] = [.dat (.tup [.tup (firsts M.n), .num 0])] := rfl
    have hsc0 : Sco (S ++ [AO.lst [D.dat (.tup [.tup (firsts M.n), .num 0])]] ++ [AO.lst []]) := by
      refine (hs.snoc ?_).snoc ?_
      · intro d hd; simp at hd; subst hd; trivial
      · intro d hd; cases hd
    refine ⟨shwI M P W S, ⟨S.length, (S ++ [AO.lst [D.dat (.tup [.tup (firsts M.n), .num 0])]]).length, [(firsts M.n, 0)], [], _, _, _, _, _, _, _, _, _,
      ⟨(List.prefix_append _ _).trans (List.prefix_append _ _), hsc0, by simp, by simp, ?_, by simp [lnD], .z, by simp, by simp, ⟨fun h a => ?_⟩⟩, rfl⟩, fun _ _ _ _ => trivial, ?_, ?_⟩
    · rw [List.getElem?_append_left (by simp)]; simp
    · simp only [List.mem_singleton, Prod.mk.injEq]; rfl
    · rintro i t σ S' hti ⟨e, f, L, c, x5, x6, x7, x8, x9, x10, x11, x12, x13, st, rfl⟩
      rw [List.getElem?_map, Option.map_eq_some_iff] at hti
      obtain ⟨l, hl, rfl⟩ := hti
      have hil := (List.getElem?_eq_some_iff.mp hl).1
      have hlo := hP l (List.mem_of_getElem? hl)
      have hLl : L.length ≤ 128 := Nat.le_trans st.Ll (pow7 (by omega))
      have A := st.all
      have A' := A.next hl
      have hH : ∀ p ∈ L, HT M 6 p.1 := fun p hp => hES (by omega) ((A.mem _ _).mp hp)
      have hc : ∀ p ∈ L, l.c < p.1.length := fun p hp => by rw [(hH p hp).len]; exact hlo.c
      simp only [s_gN, s_seq, s_set, s_lc, s_iL, s_var]
      have hgt : ∀ {c0 : Nat} {Lx : List HP}, c0 < M.n → (∀ p ∈ Lx, HT M 6 p.1) → ∀ t ∈ atC c0 Lx, WT M t ∧ t.depth ≤ 6 := fun hc0 hx t ht => by
        obtain ⟨p, hp, rfl⟩ := List.mem_map.mp ht
        exact (hx p hp).getD hc0
      have hshl : ∀ {Lx : List HP}, (∀ p ∈ Lx, HT M 6 p.1) → ShalL (atC l.c Lx) := fun hx => shalL_of (noTxs_iff.mpr fun t ht => (hgt hlo.c hx t ht).1.noTx) (depthAll_le.mpr fun t ht => by have := (hgt hlo.c hx t ht).2; omega)
      refine ⟨.ref e, rfl, e, L.map pT, rfl, by rw [st.ee]; simp [pD, Function.comp_def], ?_⟩
      refine at_lc (by rw [st.ee]; simp [pD, Function.comp_def]) (by omega) hc rfl rfl ?_
      -- later = {}
      simp only [s_seq, s_set, s_dict0]
      intro ep
      simp only [s_for, s_iL, s_var]
      have hel := (List.getElem?_eq_some_iff.mp st.ee).1
      have hfl := (List.getElem?_eq_some_iff.mp st.ff).1
      have ee1 : ∀ r : Sto, (S' ++ [AO.lst ((atC l.c L).map .dat)] ++ r)[e]? = some (.lst (pD L)) := fun r => by rw [List.append_assoc]; exact pre_get (List.prefix_append _ _) st.ee
      refine ⟨.ref e, rfl, e, L.map pT, rfl, by rw [ee1]; simp [pD, Function.comp_def], ?_⟩
      generalize hS1 : S' ++ [AO.lst ((atC l.c L).map .dat)] = S1 at *
      refine ⟨fun j => shwJ M P W e f _ _ _ _ _ l S1 L j, ⟨ep, _, _, rfl, rfl⟩, ?_, ?_, ?_⟩
      · rintro j σ S2 ⟨ep3, y7, y8, rfl, _⟩
        rw [ee1]; simp [pD, Function.comp_def]
      · rintro j t σ S2 htj ⟨ep3, y7, y8, rfl, rfl⟩
        rw [List.getElem?_map, Option.map_eq_some_iff] at htj
        obtain ⟨p, hp, rfl⟩ := htj
        have hpm := List.mem_of_getElem? hp
        have hj1 : (L.take (j + 1)).foldl (stepU l) [] = stepU l ((L.take j).foldl (stepU l) []) p := by
          rw [List.take_add_one, hp, List.foldl_append]; rfl
        have hacc : ((L.take j).foldl (stepU l) []).length ≤ 256 := by
          have h1 := foldU_len (l := l) (L := L.take j) (acc := [])
          rw [List.length_take, List.length_nil] at h1
          omega
        have k0 : keyOk (pairT (did p.1 l) 0) := pair_key (hES (i := i + 1) (by omega) ((A'.mem _ _).mp (foldU_mem.mpr (.inr ⟨p, hpm, .inl ⟨rfl, rfl⟩⟩)))) (by omega)
        have k1 : p.2 = 0 → keyOk (pairT p.1 1) := fun e => pair_key (hH p hpm) (by omega)
        generalize (L.take j).foldl (stepU l) [] = acc at *
        simp only [s_gT, s_gsCons, s_gsNil, s_gN, s_seq, s_setIx, s_tup, s_call, s_cons, s_nil, s_var, s_C]
        refine ⟨rfl, trivial, .ref S1.length, rfl, .dat (.tup p.1), rfl, .dat l.t, rfl, M, l, rfl, hM, hlo, (hH p hpm).len, [.tup (did p.1 l), .num 0], rfl, by simp, ?_⟩
        refine ⟨S1.length, pairT (did p.1 l) 0, kvU acc, ep3, rfl, rfl, by simp, k0, by simp [kvU]; omega, fun ep4 => ?_⟩
        have ep1 : putL (kvU acc) (pairT (did p.1 l) 0) (.bl true) = kvU (addU acc (did p.1 l, 0)) := putU (p := (did p.1 l, 0))
        rw [ep1, set_last]
        simp only [s_if, s_test, s_op, s_var, s_C]
        refine ⟨.dat (nT p.2), rfl, (s_eqD (n := false)).mpr ⟨rfl, rfl, ?_⟩⟩
        simp only [if_neg Bool.false_ne_true]
        by_cases h0 : p.2 = 0
        · have e0 : decide (nT p.2 = NestedKey.num 0) = true := by rw [h0]; rfl
          rw [e0]
          simp only [s_seq, s_setIx, s_tup, s_cons, s_nil, s_var, s_C, s_next]
          refine ⟨.ref S1.length, rfl, .dat (.tup p.1), rfl, [.tup p.1, .num 1], rfl, by simp, S1.length, pairT p.1 1, kvU (addU acc (did p.1 l, 0)), ep4, rfl, rfl, by simp, k1 h0, ?_, fun ep5 => ?_⟩
          · have := addU_len (acc := acc) (p := (did p.1 l, 0))
            simp [kvU]; omega
          · have ep2 : putL (kvU (addU acc (did p.1 l, 0))) (pairT p.1 1) (.bl true) = kvU (addU (addU acc (did p.1 l, 0)) (p.1, 1)) := putU (p := (p.1, 1))
            rw [ep2, set_last]
            refine ⟨ep5, _, _, ?_, rfl⟩
            rw [hj1]
            unfold stepU
            rw [if_pos h0]
        · have e0 : decide (nT p.2 = NestedKey.num 0) = false := decide_eq_false fun z => h0 (by have := NestedKey.num.inj z; omega)
          rw [e0]
          simp only [s_next]
          refine ⟨ep4, _, _, ?_, rfl⟩
          rw [hj1]
          unfold stepU
          rw [if_neg h0]
      · rintro σ S2 ⟨ep3, y7, y8, rfl, rfl⟩
        rw [List.length_map, List.take_length]
        have hH' : ∀ p ∈ L.foldl (stepU l) [], HT M 6 p.1 := fun p hp => hES (i := i + 1) (by omega) ((A'.mem _ _).mp hp)
        have hL'l := foldU_len (l := l) (L := L) (acc := [])
        rw [List.length_nil] at hL'l
        generalize L.foldl (stepU l) [] = L' at *
        have hc' : ∀ p ∈ L', l.c < p.1.length := fun p hp => by rw [(hH' p hp).len]; exact hlo.c
        obtain ⟨h1, hm1⟩ := es_ex (h0 := firsts M.n) (P := P) (i + 1) (by omega)
        have hne : L' ≠ [] := List.ne_nil_of_mem ((A'.mem _ _).mpr hm1)
        obtain ⟨p0, hp0⟩ : ∃ p0, L'[0]? = some p0 := ⟨L'[0]'(List.length_pos_iff.mpr hne), List.getElem?_eq_getElem _⟩
        have hx0 : (atC l.c L')[0]? = some (p0.1[l.c]?.getD .none) := by unfold atC; rw [List.getElem?_map, hp0]; rfl
        generalize hx : p0.1[l.c]?.getD .none = x at *
        have hxw := hgt hlo.c hH' x (List.mem_of_getElem? hx0)
        have hsu := sure_iff hl A A' hc hc' hx0
        simp only [s_seq, s_set, s_call, s_cons, s_nil, s_var]
        refine ⟨.ref S1.length, rfl, (s_listD).mpr ⟨kvU L', ep3, by simp, ?_⟩⟩
        have hS2 : S' <+: S1 := hS1 ▸ List.prefix_append _ _
        have hS3 : S1 <+: S1 ++ [AO.dct (kvU L') ep3] ++ [AO.lst ((kvU L').map fun p => .dat p.1)] := (List.prefix_append _ _).trans (List.prefix_append _ _)
        have hkl : ((kvU L').map fun p => D.dat p.1) = pD L' := by simp [kvU, pD, Function.comp_def]
        have hsc1 : Sco S1 := by rw [← hS1]; exact st.sco.snoc sco_lst
        have hsc3 : Sco (S1 ++ [AO.dct (kvU L') ep3] ++ [AO.lst (pD L')]) := (hsc1.snoc sco_kv).snoc sco_lst'
        rw [hkl]
        rw [hkl] at hS3
        have he' : (S1 ++ [AO.dct (kvU L') ep3] ++ [AO.lst (pD L')])[(S1 ++ [AO.dct (kvU L') ep3]).length]? = some (.lst (pD L')) := by simp
        have hah : (S1 ++ [AO.dct (kvU L') ep3] ++ [AO.lst (pD L')])[S'.length]? = some (.lst ((atC l.c L).map .dat)) := pre_get hS3 (by rw [← hS1]; simp)
        have hff : (S1 ++ [AO.dct (kvU L') ep3] ++ [AO.lst (pD L')])[f]? = some (.lst (lnD c)) := pre_get (hS2.trans hS3) st.ff
        have hpre3 := (st.pre.trans hS2).trans hS3
        have hef : (S1 ++ [AO.dct (kvU L') ep3]).length ≠ f := by
          have : S1.length = S'.length + 1 := by rw [← hS1]; simp
          simp; omega
        have hahl : S'.length < (S1 ++ [AO.dct (kvU L') ep3] ++ [AO.lst (pD L')]).length := (List.getElem?_eq_some_iff.mp hah).1
        generalize (S1 ++ [AO.dct (kvU L') ep3]).length = e' at *
        generalize S1 ++ [AO.dct (kvU L') ep3] ++ [AO.lst (pD L')] = S3 at *
        simp only [s_seq, s_set, s_lc, s_iL, s_var]
        refine ⟨.ref e', rfl, e', L'.map pT, rfl, by rw [he']; simp [pD, Function.comp_def], ?_⟩
        refine at_lc (by rw [he']; simp [pD, Function.comp_def]) (by omega) hc' rfl rfl ?_
        have hS4 : S3 <+: S3 ++ [AO.lst ((atC l.c L').map .dat)] := List.prefix_append _ _
        have hsc4 : Sco (S3 ++ [AO.lst ((atC l.c L').map .dat)]) := hsc3.snoc sco_lst
        have hnow : (S3 ++ [AO.lst ((atC l.c L').map .dat)])[S3.length]? = some (.lst ((atC l.c L').map .dat)) := by simp
        have he4 := pre_get hS4 he'
        have hah4 := pre_get hS4 hah
        have hff4 := pre_get hS4 hff
        have hpre4 := hpre3.trans hS4
        have hlen4 : (atC l.c L').length ≤ 300 ∧ (atC l.c L).length ≤ 300 := by unfold atC; simp; omega
        generalize S3 ++ [AO.lst ((atC l.c L').map .dat)] = S4 at *
        simp only [s_seq, s_if, s_xAnd]
        have hL2 : L'.length ≤ 2 ^ (i + 1) := by have := st.Ll; rw [Nat.pow_succ]; omega
        refine rep_eq (neg := false) (ix := 10) (iy := 10) rfl rfl hnow hnow hx0 (by omega) (hshl hH') ⟨hxw.1.noTx, by omega⟩ ?_
        simp only [if_neg Bool.false_ne_true]
        have done : ¬ Sure (firsts M.n) P i l → shwI M P W S (i + 1) (shS M P W e' f (some (.dat l.t)) (some (.ref S'.length)) y7 y8 (some (.ref S1.length)) (some (.ref S3.length)) x11 x12 x13) S4 := fun hn =>
          ⟨e', f, L', c, _, _, _, _, _, _, _, _, _, ⟨hpre4, hsc4, st.fS, hef, he4, hff4, .no st.core hl hn, by have := st.cl; omega, hL2, A'⟩, rfl⟩
        by_cases hall : ∀ t ∈ atC l.c L', t = x
        · rw [decide_eq_true hall]
          refine rep_eq (neg := true) (ix := 10) (iy := 6) rfl rfl hnow hah4 hx0 (by omega) (hshl hH) ⟨hxw.1.noTx, by omega⟩ ?_
          simp only [if_true]
          by_cases hold : ∀ t ∈ atC l.c L, t = x
          · rw [decide_eq_true hold]
            exact done fun z => (hsu.mp z).2 hold
          · rw [decide_eq_false hold]
            have hS : Sure (firsts M.n) P i l := hsu.mpr ⟨hall, hold⟩
            simp only [Bool.not_false, s_seq, s_drop, s_append, s_var, s_next]
            refine ⟨.ref f, rfl, f, rfl, ⟨_, hff4⟩, .dat l.t, rfl, lnD c, hff4, by have := st.cl; simp [lnD]; omega, ?_⟩
            have hfl4 := (List.getElem?_eq_some_iff.mp hff4).1
            have hcl : lnD c ++ [.dat l.t] = lnD (c ++ [l]) := by simp [lnD]
            rw [hcl]
            refine ⟨e', f, L', c ++ [l], _, _, _, _, _, _, _, _, _, ⟨pre_set hpre4 st.fS, hsc4.set sco_lst', st.fS, hef, by rw [List.getElem?_set_ne (Ne.symm hef)]; exact he4, List.getElem?_set_self hfl4, .yes st.core hl hS, by have := st.cl; simp; omega, hL2, A'⟩, rfl⟩
        · rw [decide_eq_false hall]
          exact done fun z => hall (hsu.mp z).1
    · rintro σ S' ⟨e, f, L, c, x5, x6, x7, x8, x9, x10, x11, x12, x13, st, rfl⟩
      rw [List.length_map] at st
      have A := st.all
      have hLl : L.length ≤ 128 := Nat.le_trans st.Ll (pow7 h7)
      have hH : ∀ p ∈ L, HT M 6 p.1 := fun p hp => hES (Nat.le_refl _) ((A.mem _ _).mp hp)
      simp only [s_seq, s_set, s_lc, s_iL, s_var]
      refine ⟨.ref e, rfl, e, L.map pT, rfl, by rw [st.ee]; simp [pD, Function.comp_def], ?_⟩
      refine lc_pure (notFul W) heldOf (by rw [st.ee]; simp [pD, Function.comp_def]) (by simp; omega) (fun t R1 R0 ht h1 h0 => ?_) ?_
      · obtain ⟨p, hp, rfl⟩ := List.mem_map.mp ht
        simp only [s_gT, s_gsCons, s_gsNil, s_gN]
        refine ⟨rfl, trivial, ?_⟩
        refine bad_ne (h := p.1) hM hW ((hH p hp).mono (by omega)) rfl rfl (by decide) (by decide) (by decide) (by simp) (by simp) ?_
        have h1 : (!ful p.1 W) = true → R1 (.dat (.tup p.1)) S' := h1
        have h0 : (!ful p.1 W) = false → R0 S' := h0
        cases hf : ful p.1 W with
        | true => rw [hf] at h0; exact h0 rfl
        | false =>
          rw [hf] at h1
          simp only [Bool.not_false, s_var]
          exact ⟨_, rfl, h1 rfl⟩
      have ew : (((L.map pT).filter (notFul W)).map heldOf) = (((L.filter fun p => !ful p.1 W).map fun p => NestedKey.tup p.1)).map .dat := by
        rw [List.filter_map, List.map_map, List.map_map]; rfl
      rw [ew]
      have hwm : ∀ t ∈ ((L.filter fun p => !ful p.1 W).map fun p => NestedKey.tup p.1), noTx t = true ∧ t.depth ≤ 7 := fun t ht => by
        obtain ⟨p, hp, rfl⟩ := List.mem_map.mp ht
        have H := hH p (List.mem_filter.mp hp).1
        exact ⟨by rw [noTx_tup]; exact H.noTxs, H.depth⟩
      have hws : ShalL ((L.filter fun p => !ful p.1 W).map fun p => NestedKey.tup p.1) := shalL_of (noTxs_iff.mpr fun t ht => (hwm t ht).1) (depthAll_le.mpr fun t ht => by have := (hwm t ht).2; omega)
      have hwn : ((L.filter fun p => !ful p.1 W).map fun p => NestedKey.tup p.1) = [] ↔ ∀ h a, ES (firsts M.n) P P.length h a → ful h W = true := by
        rw [List.map_eq_nil_iff, List.filter_eq_nil_iff]
        constructor
        · intro z h a he
          have := z (h, a) ((A.mem h a).mpr he)
          simpa using this
        · rintro z ⟨h, a⟩ hp
          have := z h a ((A.mem h a).mp hp)
          simp [this]
      generalize ((L.filter fun p => !ful p.1 W).map fun p => NestedKey.tup p.1) = ws at *
      have hw1 : (S' ++ [AO.lst (ws.map .dat)])[S'.length]? = some (.lst (ws.map .dat)) := by simp
      have hsc1 : Sco (S' ++ [AO.lst (ws.map .dat)]) := st.sco.snoc sco_lst
      have hp1 : S' <+: S' ++ [AO.lst (ws.map .dat)] := List.prefix_append _ _
      generalize S' ++ [AO.lst (ws.map .dat)] = S2 at *
      simp only [s_seq, s_ret, s_dIf, s_xgc, s_test, s_op, s_lst, s_nil, s_var, s_C]
      intro _
      refine ⟨.ref S'.length, rfl, by simp, (s_eqL (n := false)).mpr ⟨ws, [], pre_get (List.prefix_append _ _) hw1, by simp, hws, shalL_nil, ?_⟩⟩
      refine ⟨S2, List.prefix_append _ _, Nat.le_refl _, hsc1, ?_⟩
      simp only [if_neg Bool.false_ne_true]
      have hff := pre_get hp1 st.ff
      have hpS := st.pre.trans hp1
      by_cases hz : ws = []
      · rw [decide_eq_true hz]
        simp only [s_var]
        exact ⟨.ref f, rfl, gc_same hsc1 hpS.length_le (List.getElem?_eq_some_iff.mp hff).1 (hyes S2 f c hpS hff st.core (hwn.mp hz))⟩
      · rw [decide_eq_false hz]
        simp only [s_C]
        refine gcd hs (pre_ex hpS) (hno ?_)
        apply Classical.byContradiction
        intro hn
        refine hz (hwn.mpr fun h a he => ?_)
        cases hf : ful h W with
        | true => rfl
        | false => exact absurd ⟨h, a, he, hf⟩ hn
  · exact h.elim
end L2.LL

/-! # LLM9 -/
set_option Elab.async false
set_option linter.all false
set_option maxRecDepth 100000
set_option maxHeartbeats 2000000
namespace L2.LL
open PySem PySem.Spec PyProof.Rows
/-! ## (c) the length of a shortest program -/
open Classical in
theorem filt_lt {α : Type} {p q : α → Prop} : ∀ {U : List α}, (∀ a ∈ U, p a → q a) → (∃ a ∈ U, q a ∧ ¬ p a) → (U.filter fun a => decide (p a)).length < (U.filter fun a => decide (q a)).length
  | [], _, ⟨a, h, _⟩ => by cases h
  | b :: U, hpq, ⟨a, ha, hq, hp⟩ => by
    have le : ∀ {V : List α}, (∀ a ∈ V, p a → q a) → (V.filter fun a => decide (p a)).length ≤ (V.filter fun a => decide (q a)).length := by
      intro V hV
      induction V with
      | nil => simp
      | cons c V ih =>
        have i := ih fun a h => hV a (by simp [h])
        by_cases h1 : p c
        · have h2 := hV c (by simp) h1
          simp [h1, h2]; exact i
        · by_cases h2 : q c
          · simp [h1, h2]; omega
          · simp [h1, h2]; exact i
    have hU : ∀ a ∈ U, p a → q a := fun a h => hpq a (by simp [h])
    rcases List.mem_cons.mp ha with rfl | ha
    · have := le hU
      simp [hq, hp]; omega
    · have := filt_lt hU ⟨a, ha, hq, hp⟩
      by_cases h1 : p b
      · have h2 := hpq b (by simp) h1
        simp [h1, h2]; exact this
      · by_cases h2 : q b
        · simp [h1, h2]; omega
        · simp [h1, h2]; exact this
/-- a chain that grows in a list comes to rest -/
theorem chain_rest {α : Type} (U : List α) (P : Nat → α → Prop) (mono : ∀ k a, P k a → P (k + 1) a) (step : ∀ k, (∀ a ∈ U, P (k + 1) a → P k a) → ∀ a ∈ U, P (k + 2) a → P (k + 1) a) :
    ∃ k, k ≤ U.length ∧ ∀ j, k ≤ j → ∀ a ∈ U, P j a → P k a := by
  have h1 : ∃ k, k ≤ U.length ∧ ∀ a ∈ U, P (k + 1) a → P k a := by
    apply Classical.byContradiction
    intro hn
    have key : ∀ k, k ≤ U.length + 1 → k ≤ (U.filter fun a => @decide (P k a) (Classical.propDecidable _)).length := by
      intro k
      induction k with
      | zero => intro _; exact Nat.zero_le _
      | succ k ih =>
        intro hk
        have i := ih (by omega)
        have : ∃ a ∈ U, P (k + 1) a ∧ ¬ P k a := by
          apply Classical.byContradiction
          intro hz
          exact hn ⟨k, by omega, fun a ha hp => Classical.byContradiction fun z => hz ⟨a, ha, hp, z⟩⟩
        have := filt_lt (p := P k) (q := P (k + 1)) (U := U) (fun a _ => mono k a) this
        omega
    have := key (U.length + 1) (Nat.le_refl _)
    have l := List.length_filter_le (fun a => @decide (P (U.length + 1) a) (Classical.propDecidable _)) U
    omega
  obtain ⟨k, hk, h⟩ := h1
  have hs : ∀ j, k ≤ j → ∀ a ∈ U, P (j + 1) a → P j a := by
    intro j hj
    induction hj with
    | refl => exact h
    | step _ ih => exact step _ ih
  refine ⟨k, hk, fun j hj => ?_⟩
  induction hj with
  | refl => exact fun _ _ z => z
  | @step m hm ih => exact fun a ha z => ih a ha (hs m hm a ha z)
abbrev KL (M : Mac) (W : List Wish) (k : Nat) : List BS := keysF (lay M W k).1
section
variable {M : Mac} {W : List Wish} {k : Nat} {h a : BS} {l : Ln}
theorem kl_mono {j k : Nat} (e : j ≤ k) (m : h ∈ KL M W j) : h ∈ KL M W k := keys_pre (lay_mono e) m
theorem kl_from (m : h ∈ KL M W (k + 1)) : h ∈ KL M W k ∨ ∃ h' ∈ KL M W k, ∃ l ∈ moves M, nxt (parts W) h' l = some h := by
  have e : keysF (lay M W (k + 1)).1 = keysF (lay M W k).1 ++ (lay M W (k + 1)).2 := exHs_keys (x := ((lay M W k).1, [])) (by simp)
  rw [KL, e] at m
  rcases List.mem_append.mp m with m | m
  · exact .inl m
  · right
    have LI := lay_inv (M := M) (W := W) k
    exact exHs_path (P := fun y _ => ∃ h' ∈ KL M W k, ∃ l ∈ moves M, nxt (parts W) h' l = some y) (mv := moves M) (hs := (lay M W k).2) (sinv_start LI.1) LI.2 (fun y hy => nomatch hy) (fun h' hh l hl a ha => ⟨h', LI.2 h' hh, l, hl, ha⟩) h m
theorem kl_bok (m : h ∈ KL M W k) : BOk M (parts W) h := (lay_inv k).1.bok h m
theorem nxt_val (e : nxt (parts W) h l = some a) : ∃ v, bval h l = some v ∧ v ∈ parts W ∧ a = h.set l.c (some v) := by
  unfold nxt at e
  cases hb : bval h l with
  | none => rw [hb] at e; cases e
  | some t =>
    rw [hb] at e
    simp only at e
    split at e
    · rename_i ht; cases e; exact ⟨t, rfl, ht, rfl⟩
    · cases e
theorem nxt_of {v : T} (hb : bval h l = some v) (hv : v ∈ parts W) : nxt (parts W) h l = some (h.set l.c (some v)) := by
  unfold nxt
  rw [hb]
  simp only
  rw [if_pos hv]
theorem bval_ren {r : BS} {c : Nat} {ρ : Nat → Nat} (hl : l.Ok M) (hs : ∀ s ∈ l.src, (r[ρ s]?).getD none = (h[s]?).getD none) : bval r ⟨c, l.f, l.src.map ρ⟩ = bval h l := by
  unfold bval
  rcases hl.fn with ⟨ef, s, e2, e3⟩ | ⟨i, ef, e2⟩
  · rw [ef, e2]
    simp
    exact hs s (by simp [e2])
  · rw [ef]
    simp only [List.map_map]
    have e1 : (∀ s ∈ l.src.map ρ, ((r[s]?).getD none).isSome = true) ↔ ∀ s ∈ l.src, ((h[s]?).getD none).isSome = true := by
      constructor
      · intro z s hs'
        rw [← hs s hs']; exact z _ (List.mem_map.mpr ⟨s, hs', rfl⟩)
      · intro z s hs'
        obtain ⟨u, hu, rfl⟩ := List.mem_map.mp hs'
        rw [hs u hu]; exact z u hu
    by_cases hA : ∀ s ∈ l.src, ((h[s]?).getD none).isSome = true
    · rw [if_pos hA, if_pos (e1.mpr hA)]
      congr 3
      refine List.map_congr_left fun s hs' => ?_
      simp only [Function.comp_apply]
      rw [hs s hs']
    · rw [if_neg hA, if_neg (fun z => hA (e1.mp z))]
theorem ren_ok {c : Nat} {ρ : Nat → Nat} (hM : M.Ok) (hl : l ∈ moves M) (hc : c < M.n) (hρ : ∀ s ∈ l.src, ρ s < M.n ∧ ρ s ≠ c) : (⟨c, l.f, l.src.map ρ⟩ : Ln) ∈ moves M := by
  have h1 := ((moves_mem hM).mp hl).1
  refine (moves_mem hM).mpr ⟨⟨hc, fun s hs => ?_, ?_⟩, ?_⟩
  · obtain ⟨u, hu, rfl⟩ := List.mem_map.mp hs; exact (hρ u hu).1
  · rcases h1.fn with ⟨ef, s, e2, e3⟩ | ⟨i, ef, e2⟩
    · exact .inl ⟨ef, ρ s, by simp [e2], (hρ s (by simp [e2])).2⟩
    · exact .inr ⟨i, ef, by simpa using e2⟩
  · unfold soft
    simp only [Bool.not_eq_true', decide_eq_false_iff_not]
    intro z
    obtain ⟨u, hu, e⟩ := List.mem_map.mp z
    exact (hρ u hu).2 e
theorem soft_ne (hM : M.Ok) (hl : l ∈ moves M) : ∀ s ∈ l.src, s ≠ l.c := fun s hs e => by
  have := ((moves_mem hM).mp hl).2
  unfold soft at this
  rw [← e] at this
  simp [hs] at this
/-- a copy, or nothing -/
theorem kl_copy (hM : M.Ok) {p q : Nat} {t : T} (m : h ∈ KL M W k) (hp : h[p]? = some (some t)) (hq : q < M.n) : ∃ h' ∈ KL M W (k + 1), h'[q]? = some (some t) ∧ ∀ i, i ≠ q → h'[i]? = h[i]? := by
  have b := kl_bok m
  by_cases e : p = q
  · exact ⟨h, kl_mono (Nat.le_succ k) m, e ▸ hp, fun _ _ => rfl⟩
  · have hpl : p < M.n := by rw [← b.len]; exact (List.getElem?_eq_some_iff.mp hp).1
    have ht : t ∈ parts W := b.ps t (List.mem_of_getElem? hp)
    have hl : (⟨q, none, [p]⟩ : Ln) ∈ moves M := (moves_mem hM).mpr ⟨⟨hq, fun s hs => by have : s = p := by simpa using hs
                                                                                         omega, .inl ⟨rfl, p, rfl, e⟩⟩, by unfold soft; simp; exact fun z => e z.symm⟩
    have hb : bval h ⟨q, none, [p]⟩ = some t := by unfold bval; simp [hp]
    refine ⟨_, lay_step m hl (nxt_of hb ht), ?_, fun i hi => ?_⟩
    · exact List.getElem?_set_self (by rw [b.len]; exact hq)
    · exact List.getElem?_set_ne (Ne.symm hi)
end
/-! ### three cells -/
section
variable {M : Mac} {W : List Wish} {k : Nat} {h a : BS} {l : Ln}
def upairs : List T → List (T × T)
  | [] => []
  | t :: ts => (t, t) :: ts.map (fun u => (t, u)) ++ upairs ts
theorem upairs_mem : ∀ {ps : List T} {x y : T}, x ∈ ps → y ∈ ps → (x, y) ∈ upairs ps ∨ (y, x) ∈ upairs ps
  | [], x, y, h, _ => nomatch h
  | t :: ts, x, y, hx, hy => by
    unfold upairs
    rcases List.mem_cons.mp hx with rfl | hx'
    · rcases List.mem_cons.mp hy with rfl | hy'
      · left; simp
      · left; simp [hy']
    · rcases List.mem_cons.mp hy with rfl | hy'
      · right; simp [hx']
      · rcases upairs_mem hx' hy' with z | z
        · left; exact List.mem_append_right _ z
        · right; exact List.mem_append_right _ z
theorem upairs_len : ∀ {ps : List T}, 2 * (upairs ps).length = ps.length * (ps.length + 1)
  | [] => rfl
  | t :: ts => by
    have := upairs_len (ps := ts)
    unfold upairs
    simp only [List.cons_append, List.length_cons, List.length_append, List.length_map]
    generalize ts.length = n at *
    have e : (n + 1) * (n + 1 + 1) = n * (n + 1) + 2 * n + 2 := by
      rw [Nat.add_mul, Nat.mul_add n (n + 1) 1]; omega
    rw [e]
    omega
def Both (M : Mac) (W : List Wish) (k : Nat) (p : T × T) : Prop := ∃ h ∈ KL M W k, some p.1 ∈ h ∧ some p.2 ∈ h
theorem Both.sym {x y : T} (b : Both M W k (x, y)) : Both M W k (y, x) := let ⟨h, m, p, q⟩ := b; ⟨h, m, q, p⟩
/-- the values of a state's cells but one lie together in another state -/
def Has (c : Nat) (h r : BS) : Prop := ∀ i t, i ≠ c → h[i]? = some (some t) → some t ∈ r
theorem has_of {j : Nat} (h3 : M.n = 3) {c : Nat} (hc : c < 3) (m : h ∈ KL M W k) (hB : ∀ p, Both M W k p → p.1 ∈ parts W → p.2 ∈ parts W → Both M W j p) : ∃ r ∈ KL M W j, Has c h r := by
  have b := kl_bok m
  have hl : h.length = 3 := by rw [b.len, h3]
  obtain ⟨p, q, hp, hq, hcov⟩ : ∃ p q, p < 3 ∧ q < 3 ∧ ∀ i, i < 3 → i ≠ c → i = p ∨ i = q := ⟨(c + 1) % 3, (c + 2) % 3, by omega, by omega, fun i hi hn => by omega⟩
  have gp : h[p]? = some h[p] := List.getElem?_eq_getElem (by omega)
  have gq : h[q]? = some h[q] := List.getElem?_eq_getElem (by omega)
  have mp : ∀ t, h[p] = some t → t ∈ parts W := fun t e => b.ps t (by rw [← e]; exact List.getElem_mem _)
  have mq : ∀ t, h[q] = some t → t ∈ parts W := fun t e => b.ps t (by rw [← e]; exact List.getElem_mem _)
  have fin : ∀ r : BS, (∀ t, h[p] = some t → some t ∈ r) → (∀ t, h[q] = some t → some t ∈ r) → Has c h r := fun r h1 h2 i t hi e => by
    have hil : i < 3 := by rw [← hl]; exact (List.getElem?_eq_some_iff.mp e).1
    rcases hcov i hil hi with rfl | rfl
    · rw [gp] at e; exact h1 t (Option.some.inj e)
    · rw [gq] at e; exact h2 t (Option.some.inj e)
  cases ep : h[p] with
  | none =>
    cases eq : h[q] with
    | none =>
      refine ⟨begin0 M (parts W), kl_mono (Nat.zero_le j) (by simp [KL, lay, bst, keysF]), fin _ (fun t e => by rw [ep] at e; cases e) (fun t e => by rw [eq] at e; cases e)⟩
    | some u =>
      obtain ⟨r, hr, h1, h2⟩ := hB (u, u) ⟨h, m, eq ▸ List.getElem_mem _, eq ▸ List.getElem_mem _⟩ (mq u eq) (mq u eq)
      exact ⟨r, hr, fin r (fun t e => by rw [ep] at e; cases e) fun t e => by rw [eq] at e; cases e; exact h1⟩
  | some t =>
    cases eq : h[q] with
    | none =>
      obtain ⟨r, hr, h1, h2⟩ := hB (t, t) ⟨h, m, ep ▸ List.getElem_mem _, ep ▸ List.getElem_mem _⟩ (mp t ep) (mp t ep)
      exact ⟨r, hr, fin r (fun t e => by rw [ep] at e; cases e; exact h1) fun t e => by rw [eq] at e; cases e⟩
    | some u =>
      obtain ⟨r, hr, h1, h2⟩ := hB (t, u) ⟨h, m, ep ▸ List.getElem_mem _, eq ▸ List.getElem_mem _⟩ (mp t ep) (mq u eq)
      exact ⟨r, hr, fin r (fun t e => by rw [ep] at e; cases e; exact h1) fun t e => by rw [eq] at e; cases e; exact h2⟩
theorem third (p q : Nat) : ∃ c, c < 3 ∧ c ≠ p ∧ c ≠ q := by
  by_cases h0 : p ≠ 0 ∧ q ≠ 0
  · exact ⟨0, by omega, by omega, by omega⟩
  · by_cases h1 : p ≠ 1 ∧ q ≠ 1
    · exact ⟨1, by omega, by omega, by omega⟩
    · exact ⟨2, by omega, by omega, by omega⟩
/-- the line, done anew where its values lie -/
theorem redo (hM : M.Ok) (h3 : M.n = 3) {r : BS} {v : T} (m : h ∈ KL M W j) (hl : l ∈ moves M) (hb : bval h l = some v) (hv : v ∈ parts W) (hr : r ∈ KL M W k) (hh : Has l.c h r) :
    ∃ r' ∈ KL M W (k + 1), some v ∈ r' ∧ Has l.c h r' := by
  have b := kl_bok m
  have br := kl_bok hr
  have hlo := (moves_mem hM).mp hl
  have hc : l.c < 3 := h3 ▸ hlo.1.c
  obtain ⟨p, q, hp, hq, hpc, hqc, hcov⟩ : ∃ p q, p < 3 ∧ q < 3 ∧ p ≠ l.c ∧ q ≠ l.c ∧ ∀ i, i < 3 → i ≠ l.c → i = p ∨ i = q := ⟨(l.c + 1) % 3, (l.c + 2) % 3, by omega, by omega, by omega, by omega, fun i hi hn => by omega⟩
  have hhl : h.length = 3 := by rw [b.len, h3]
  have hrl : r.length = 3 := by rw [br.len, h3]
  have gp : h[p]? = some h[p] := List.getElem?_eq_getElem (by omega)
  have gq : h[q]? = some h[q] := List.getElem?_eq_getElem (by omega)
  -- where the two values lie
  have place : ∀ i, i < 3 → i ≠ l.c → ∃ pi, pi < 3 ∧ ∀ t, h[i]? = some (some t) → r[pi]? = some (some t) := fun i hi hn => by
    cases e : h[i]? with
    | none => exact ⟨0, by omega, fun t z => by cases z⟩
    | some o =>
      cases o with
      | none => exact ⟨0, by omega, fun t z => by cases z⟩
      | some t =>
        obtain ⟨pi, hpi⟩ := List.mem_iff_getElem?.mp (hh i t hn e)
        exact ⟨pi, by rw [← hrl]; exact (List.getElem?_eq_some_iff.mp hpi).1, fun t' z => by cases z; exact hpi⟩
  obtain ⟨pp, hpp, kp⟩ := place p hp hpc
  obtain ⟨pq, hpq, kq⟩ := place q hq hqc
  obtain ⟨c, hc3, hcp, hcq⟩ := third pp pq
  have hsrc := bval_src hlo.1 hb
  let ρ : Nat → Nat := fun s => if s = p then pp else pq
  have hρ : ∀ s ∈ l.src, ρ s < M.n ∧ ρ s ≠ c := fun s _ => by
    show (if s = p then pp else pq) < M.n ∧ (if s = p then pp else pq) ≠ c
    split
    · exact ⟨by omega, fun e => hcp e.symm⟩
    · exact ⟨by omega, fun e => hcq e.symm⟩
  have hval : ∀ s ∈ l.src, (r[ρ s]?).getD none = (h[s]?).getD none := fun s hs => by
    have hsl : s < 3 := h3 ▸ hlo.1.src s hs
    have hsc := soft_ne hM hl s hs
    obtain ⟨u, hu⟩ := hsrc s hs
    have hu' : h[s]? = some (some u) := by
      rw [List.getElem?_eq_getElem (by omega)] at hu ⊢
      exact congrArg some (by simpa using hu)
    show (r[if s = p then pp else pq]?).getD none = _
    by_cases e : s = p
    · rw [if_pos e, hu', kp u (e ▸ hu')]
    · rw [if_neg e, hu']
      rcases hcov s hsl hsc with z | z
      · exact absurd z e
      · rw [kq u (z ▸ hu')]
  have hb' : bval r ⟨c, l.f, l.src.map ρ⟩ = some v := (bval_ren hlo.1 hval).trans hb
  refine ⟨r.set c (some v), lay_step hr (ren_ok hM hl (by omega) hρ) (nxt_of hb' hv), ?_, fun i t hi e => ?_⟩
  · exact List.mem_of_getElem? (List.getElem?_set_self (by omega))
  · have hil : i < 3 := by rw [← hhl]; exact (List.getElem?_eq_some_iff.mp e).1
    rcases hcov i hil hi with rfl | rfl
    · exact List.mem_of_getElem? ((List.getElem?_set_ne hcp).trans (kp t e))
    · exact List.mem_of_getElem? ((List.getElem?_set_ne hcq).trans (kq t e))
theorem both_step (hM : M.Ok) (h3 : M.n = 3) (hs : ∀ p ∈ upairs (parts W), Both M W (k + 1) p → Both M W k p) : ∀ p ∈ upairs (parts W), Both M W (k + 2) p → Both M W (k + 1) p := by
  have hB : ∀ p, Both M W (k + 1) p → p.1 ∈ parts W → p.2 ∈ parts W → Both M W k p := fun p hp h1 h2 => by
    rcases upairs_mem h1 h2 with z | z
    · exact hs p z hp
    · exact (hs (p.2, p.1) z hp.sym).sym
  rintro ⟨x, y⟩ _ ⟨h, m, hx, hy⟩
  rcases kl_from m with m | ⟨h', m', l, hl, e⟩
  · exact ⟨h, m, hx, hy⟩
  · obtain ⟨v, hb, hv, rfl⟩ := nxt_val e
    have hc : l.c < 3 := h3 ▸ ((moves_mem hM).mp hl).1.c
    obtain ⟨r, hr, hh⟩ := has_of h3 hc m' hB
    obtain ⟨r', hr', h1, h2⟩ := redo hM h3 m' hl hb hv hr hh
    have key : ∀ z, some z ∈ h'.set l.c (some v) → some z ∈ r' := fun z hz => by
      obtain ⟨i, hi⟩ := List.mem_iff_getElem?.mp hz
      by_cases e : i = l.c
      · subst e
        rw [List.getElem?_set_self (by rw [(kl_bok m').len]; exact ((moves_mem hM).mp hl).1.c)] at hi
        cases hi; exact h1
      · rw [List.getElem?_set_ne (Ne.symm e)] at hi
        exact h2 i z e hi
    exact ⟨r', hr', key x hx, key y hy⟩
/-- two values brought to their cells -/
theorem rearr (hM : M.Ok) (h3 : M.n = 3) {r : BS} {p q : Nat} (hp : p < 3) (hq : q < 3) (hpq : p ≠ q) {o u : Option T} (hr : r ∈ KL M W k) (ho : ∀ t, o = some t → some t ∈ r) (hu : ∀ t, u = some t → some t ∈ r) :
    ∃ r2 ∈ KL M W (k + 3), (∀ t, o = some t → r2[p]? = some (some t)) ∧ ∀ t, u = some t → r2[q]? = some (some t) := by
  have hp' : p < M.n := by omega
  have hq' : q < M.n := by omega
  cases o with
  | none =>
    cases u with
    | none => exact ⟨r, kl_mono (by omega) hr, fun t e => (by cases e), fun t e => (by cases e)⟩
    | some u =>
      obtain ⟨i, hi⟩ := List.mem_iff_getElem?.mp (hu u rfl)
      obtain ⟨r1, m1, e1, _⟩ := kl_copy hM hr hi hq'
      exact ⟨r1, kl_mono (by omega) m1, fun t e => (by cases e), fun t e => (by cases e; exact e1)⟩
  | some t =>
    obtain ⟨i, hi⟩ := List.mem_iff_getElem?.mp (ho t rfl)
    cases u with
    | none =>
      obtain ⟨r1, m1, e1, _⟩ := kl_copy hM hr hi hp'
      exact ⟨r1, kl_mono (by omega) m1, fun t e => (by cases e; exact e1), fun t e => (by cases e)⟩
    | some u =>
      obtain ⟨j, hj⟩ := List.mem_iff_getElem?.mp (hu u rfl)
      have fin : ∀ r2 : BS, r2 ∈ KL M W (k + 3) → r2[p]? = some (some t) → r2[q]? = some (some u) → ∃ r2 ∈ KL M W (k + 3), (∀ t', some t = some t' → r2[p]? = some (some t')) ∧ ∀ u', some u = some u' → r2[q]? = some (some u') :=
        fun r2 m e1 e2 => ⟨r2, m, fun t' e => (by cases e; exact e1), fun u' e => (by cases e; exact e2)⟩
      by_cases hjp : j = p
      · by_cases hiq : i = q
        · obtain ⟨c, hc3, hcp, hcq⟩ := third p q
          obtain ⟨r1, m1, e1, k1⟩ := kl_copy hM hr hi (q := c) (by omega)
          obtain ⟨r2, m2, e2, k2⟩ := kl_copy hM m1 ((k1 j (by omega)).trans hj) hq'
          obtain ⟨r3, m3, e3, k3⟩ := kl_copy hM m2 ((k2 c hcq).trans e1) hp'
          exact fin r3 m3 e3 ((k3 q (Ne.symm hpq)).trans e2)
        · obtain ⟨r1, m1, e1, k1⟩ := kl_copy hM hr hj hq'
          obtain ⟨r2, m2, e2, k2⟩ := kl_copy hM m1 ((k1 i hiq).trans hi) hp'
          exact fin r2 (kl_mono (by omega) m2) e2 ((k2 q (Ne.symm hpq)).trans e1)
      · obtain ⟨r1, m1, e1, k1⟩ := kl_copy hM hr hi hp'
        obtain ⟨r2, m2, e2, k2⟩ := kl_copy hM m1 ((k1 j hjp).trans hj) hq'
        exact fin r2 (kl_mono (by omega) m2) ((k2 p hpq).trans e1) e2
theorem goal_60_3 (hM : M.Ok) (h3 : M.n = 3) (h10 : (parts W).length ≤ 10) (m : h ∈ KL M W k) (g : goalB W h) : ∃ h' ∈ KL M W 60, goalB W h' := by
  obtain ⟨k0, hk0, hrest⟩ := chain_rest (upairs (parts W)) (Both M W) (fun k p ⟨h, m, a, b⟩ => ⟨h, kl_mono (Nat.le_succ k) m, a, b⟩) fun k => both_step hM h3
  have hul := upairs_len (ps := parts W)
  have h55 : (parts W).length * ((parts W).length + 1) ≤ 10 * 11 := Nat.mul_le_mul h10 (by omega)
  -- the first state that fulfils
  induction k with
  | zero => exact ⟨h, kl_mono (by omega) m, g⟩
  | succ k ih =>
    rcases kl_from m with m | ⟨h', m', l, hl, e⟩
    · exact ih m
    · obtain ⟨v, hb, hv, rfl⟩ := nxt_val e
      have hlo := (moves_mem hM).mp hl
      have hc : l.c < 3 := h3 ▸ hlo.1.c
      have b := kl_bok m'
      have hhl : h'.length = 3 := by rw [b.len, h3]
      by_cases hkk : k ≤ 50
      · exact ⟨_, kl_mono (by omega) m, g⟩
      have hB : ∀ p, Both M W k p → p.1 ∈ parts W → p.2 ∈ parts W → Both M W (max k0 k) p ∧ Both M W k0 p := fun p hp h1 h2 => by
        have hm : Both M W (max k0 k) p := let ⟨h, m, a, b⟩ := hp; ⟨h, kl_mono (Nat.le_max_right _ _) m, a, b⟩
        refine ⟨hm, ?_⟩
        rcases upairs_mem h1 h2 with z | z
        · exact hrest _ (Nat.le_max_left _ _) p z hm
        · exact (hrest _ (Nat.le_max_left _ _) (p.2, p.1) z hm.sym).sym
      obtain ⟨r, hr, hh⟩ := has_of h3 hc m' fun p a b c => (hB p a b c).2
      obtain ⟨p, q, hp, hq, hpq, hpc, hqc, hcov⟩ : ∃ p q, p < 3 ∧ q < 3 ∧ p ≠ q ∧ p ≠ l.c ∧ q ≠ l.c ∧ ∀ i, i < 3 → i ≠ l.c → i = p ∨ i = q := ⟨(l.c + 1) % 3, (l.c + 2) % 3, by omega, by omega, by omega, by omega, by omega, fun i hi hn => by omega⟩
      have gp : h'[p]? = some h'[p] := List.getElem?_eq_getElem (by omega)
      have gq : h'[q]? = some h'[q] := List.getElem?_eq_getElem (by omega)
      obtain ⟨r2, m2, e1, e2⟩ := rearr hM h3 hp hq hpq (o := h'[p]) (u := h'[q]) hr (fun t e => hh p t hpc (by rw [gp, e])) (fun t e => hh q t hqc (by rw [gq, e]))
      have kp : ∀ i t, i ≠ l.c → h'[i]? = some (some t) → r2[i]? = some (some t) := fun i t hi e => by
        have hil : i < 3 := by rw [← hhl]; exact (List.getElem?_eq_some_iff.mp e).1
        rcases hcov i hil hi with rfl | rfl
        · rw [gp] at e; exact e1 t (Option.some.inj e)
        · rw [gq] at e; exact e2 t (Option.some.inj e)
      have hb2 : bval r2 l = some v := by
        have := bval_ren (r := r2) (c := l.c) (ρ := id) hlo.1 (h := h') fun s hs => by
          obtain ⟨u, hu⟩ := bval_src hlo.1 hb s hs
          have hsl : s < 3 := h3 ▸ hlo.1.src s hs
          have hu' : h'[s]? = some (some u) := by
            rw [List.getElem?_eq_getElem (by omega)] at hu ⊢
            exact congrArg some (by simpa using hu)
          rw [hu']
          simp [kp s u (soft_ne hM hl s hs) hu']
        rw [List.map_id] at this
        exact this.trans hb
      have m3 := lay_step m2 hl (nxt_of hb2 hv)
      refine ⟨_, kl_mono (by omega) m3, fun w hw => ?_⟩
      have gw := g w hw
      by_cases hwc : w.1 = l.c
      · rw [hwc] at gw ⊢
        rw [List.getElem?_set_self (by omega)] at gw
        rw [List.getElem?_set_self (by rw [(kl_bok m2).len]; omega)]
        exact gw
      · rw [List.getElem?_set_ne (Ne.symm hwc)] at gw ⊢
        exact kp _ _ hwc gw
end
/-! ### two cells -/
section
variable {M : Mac} {W : List Wish} {k : Nat} {h a : BS} {l : Ln}
def One (M : Mac) (W : List Wish) (k : Nat) (p : Nat × T) : Prop := ∃ h ∈ KL M W k, h[p.1]? = some (some p.2)
abbrev ones (ps : List T) : List (Nat × T) := ps.map (fun t => (0, t)) ++ ps.map (fun t => (1, t))
theorem ones_mem {ps : List T} {i : Nat} {t : T} (hi : i < 2) (ht : t ∈ ps) : (i, t) ∈ ones ps := by
  rcases (by omega : i = 0 ∨ i = 1) with rfl | rfl
  · exact List.mem_append_left _ (List.mem_map.mpr ⟨t, ht, rfl⟩)
  · exact List.mem_append_right _ (List.mem_map.mpr ⟨t, ht, rfl⟩)
theorem redo2 (hM : M.Ok) (h2 : M.n = 2) {v : T} {j : Nat} (m : h ∈ KL M W j) (hl : l ∈ moves M) (hb : bval h l = some v) (hv : v ∈ parts W) (hB : ∀ p, One M W j p → p.1 < 2 → p.2 ∈ parts W → One M W k p) :
    ∃ r ∈ KL M W (k + 1), r[l.c]? = some (some v) ∧ ∀ i t, i ≠ l.c → h[i]? = some (some t) → r[i]? = some (some t) := by
  have b := kl_bok m
  have hlo := (moves_mem hM).mp hl
  have hc : l.c < 2 := h2 ▸ hlo.1.c
  have hhl : h.length = 2 := by rw [b.len, h2]
  have hsrc := bval_src hlo.1 hb
  have hsne : l.src ≠ [] := by
    rcases hlo.1.fn with ⟨ef, s, e2, e3⟩ | ⟨i, ef, e2⟩
    · rw [e2]; simp
    · intro z
      rw [z] at e2
      have := hM.rd _ (List.mem_of_getElem? e2)
      simp at this
  obtain ⟨s, hs⟩ := List.exists_mem_of_ne_nil _ hsne
  have hsl : s < 2 := h2 ▸ hlo.1.src s hs
  have hsc := soft_ne hM hl s hs
  obtain ⟨u, hu⟩ := hsrc s hs
  have hu' : h[s]? = some (some u) := by
    rw [List.getElem?_eq_getElem (by omega)] at hu ⊢
    exact congrArg some (by simpa using hu)
  obtain ⟨r, hr, e⟩ := hB (s, u) ⟨h, m, hu'⟩ hsl (b.ps u (List.mem_of_getElem? hu'))
  have hrl : r.length = 2 := by rw [(kl_bok hr).len, h2]
  have hb2 : bval r l = some v := by
    have := bval_ren (r := r) (c := l.c) (ρ := id) hlo.1 (h := h) fun s' hs' => by
      have h1 : s' < 2 := h2 ▸ hlo.1.src s' hs'
      have h2 := soft_ne hM hl s' hs'
      have : s' = s := by omega
      rw [this, hu']
      have e' : r[s]? = some (some u) := e
      simp [e']
    rw [List.map_id] at this
    exact this.trans hb
  refine ⟨_, lay_step hr hl (nxt_of hb2 hv), List.getElem?_set_self (by omega), fun i t hi ht => ?_⟩
  have hil : i < 2 := by rw [← hhl]; exact (List.getElem?_eq_some_iff.mp ht).1
  have : i = s := by omega
  rw [List.getElem?_set_ne (Ne.symm hi), this]
  rw [this, hu'] at ht
  cases ht
  exact e
theorem goal_60_2 (hM : M.Ok) (h2 : M.n = 2) (h10 : (parts W).length ≤ 10) (m : h ∈ KL M W k) (g : goalB W h) : ∃ h' ∈ KL M W 60, goalB W h' := by
  obtain ⟨k0, hk0, hrest⟩ := chain_rest (ones (parts W)) (One M W) (fun k p ⟨h, m, a⟩ => ⟨h, kl_mono (Nat.le_succ k) m, a⟩) fun k hs => by
    rintro ⟨i, t⟩ hm ⟨h, m, e⟩
    rcases kl_from m with m | ⟨h', m', l, hl, en⟩
    · exact ⟨h, m, e⟩
    · obtain ⟨v, hb, hv, rfl⟩ := nxt_val en
      obtain ⟨r, hr, e1, e2⟩ := redo2 (k := k) hM h2 m' hl hb hv fun p hp h1 h2 => hs p (ones_mem h1 h2) hp
      by_cases hi : i = l.c
      · subst hi
        have hc : l.c < h'.length := by rw [(kl_bok m').len]; exact ((moves_mem hM).mp hl).1.c
        have e : (h'.set l.c (some v))[l.c]? = some (some t) := e
        rw [List.getElem?_set_self hc] at e
        cases e
        exact ⟨r, hr, e1⟩
      · have e : (h'.set l.c (some v))[i]? = some (some t) := e
        rw [List.getElem?_set_ne (Ne.symm hi)] at e
        exact ⟨r, hr, e2 i t hi e⟩
  have hul : (ones (parts W)).length ≤ 20 := by simp; omega
  induction k with
  | zero => exact ⟨h, kl_mono (by omega) m, g⟩
  | succ k ih =>
    rcases kl_from m with m | ⟨h', m', l, hl, e⟩
    · exact ih m
    · obtain ⟨v, hb, hv, rfl⟩ := nxt_val e
      obtain ⟨r, hr, e1, e2⟩ := redo2 (k := k0) hM h2 m' hl hb hv fun p ⟨h, m, a⟩ h1 h2 => hrest (max k0 k) (Nat.le_max_left _ _) p (ones_mem h1 h2) ⟨h, kl_mono (Nat.le_max_right _ _) m, a⟩
      refine ⟨r, kl_mono (by omega) hr, fun w hw => ?_⟩
      have gw := g w hw
      by_cases hwc : w.1 = l.c
      · rw [hwc] at gw ⊢
        rw [List.getElem?_set_self (by rw [(kl_bok m').len]; exact ((moves_mem hM).mp hl).1.c)] at gw
        cases gw
        exact e1
      · rw [List.getElem?_set_ne (Ne.symm hwc)] at gw
        exact e2 _ _ hwc gw
theorem goal_60 (hM : M.Ok) (h10 : (parts W).length ≤ 10) (m : h ∈ KL M W k) (g : goalB W h) : ∃ h' ∈ KL M W 60, goalB W h' := by
  have h1 := hM.n1
  have h3 := hM.n3
  rcases (by omega : M.n = 1 ∨ M.n = 2 ∨ M.n = 3) with e | e | e
  · induction k with
    | zero => exact ⟨h, kl_mono (by omega) m, g⟩
    | succ k ih =>
      rcases kl_from m with m | ⟨h', m', l, hl, _⟩
      · exact ih m
      · exfalso
        have hlo := ((moves_mem hM).mp hl).1
        have hsne : l.src ≠ [] := by
          rcases hlo.fn with ⟨ef, s, e2, e3⟩ | ⟨i, ef, e2⟩
          · rw [e2]; simp
          · intro z
            rw [z] at e2
            have := hM.rd _ (List.mem_of_getElem? e2)
            simp at this
        obtain ⟨s, hs⟩ := List.exists_mem_of_ne_nil _ hsne
        have := soft_ne hM hl s hs
        have a := hlo.src s hs
        have b := hlo.c
        omega
  · exact goal_60_2 hM e h10 m g
  · exact goal_60_3 hM e h10 m g
end
/-- (c) a shortest program has at most 60 lines -/
theorem res_60 {M : Mac} {W : List Wish} {p : List Ln} (ok : SOk M W) (h : BRes M W (some p)) : p.length ≤ 60 := by
  obtain ⟨k, x, hN, hx, gx, rfl⟩ := h
  rw [lay_len k x hx]
  apply Classical.byContradiction
  intro hk
  obtain ⟨h', m', g'⟩ := goal_60 ok.m ok.sz ((lay_inv k).2 x hx) gx
  obtain ⟨j, hj, mj⟩ := key_lay m'
  exact hN j (by omega) h' mj g'
end L2.LL

/-! # LLM10 -/
set_option Elab.async false
set_option linter.all false
set_option maxRecDepth 100000
set_option maxHeartbeats 2000000
namespace L2.LL
open PySem PySem.Spec PyProof.Rows
/-! ## (f) what gets sure gets so by soft lines -/
def SureAt (h0 : List T) (P : List Ln) (i c : Nat) (t : T) : Prop := ∀ h a, ES h0 P i h a → h[c]? = some t
theorem es_run {h0 : List T} {P : List Ln} : ∀ i, i ≤ P.length → ES h0 P i (run h0 (P.take i)) 0
  | 0, _ => by simp [run]; exact ⟨rfl, rfl⟩
  | i + 1, hi => by
    have e : P[i]? = some P[i] := List.getElem?_eq_getElem (by omega)
    rw [run_succ e]
    exact ⟨P[i], e, .inl ⟨rfl, _, 0, es_run i (by omega), rfl⟩⟩
theorem depth_mem {ts : List T} {t : T} (h : t ∈ ts) : t.depth < (NestedKey.tup ts).depth := by
  rw [depth_tup]
  have := (depthAll_le (d := NestedKey.depthAll ts)).mp (Nat.le_refl _) t h
  omega
structure CoreOk (M : Mac) (P : List Ln) (i : Nat) (c : List Ln) : Prop where
  ln : ∀ l ∈ c, l.Ok M ∧ soft l = true
  tm : Tame M 4 c
  len : c.length ≤ i
  sure : ∀ k t, SureAt (firsts M.n) P i k t → (run (firsts M.n) c)[k]? = some t
theorem core_ok {M : Mac} {P : List Ln} (hM : M.Ok) (hP : LnsOk M P) (ht : Tame M 4 P) : ∀ {i c}, Core (firsts M.n) P i c → i ≤ P.length → CoreOk M P i c := by
  intro i c hc
  induction hc with
  | z =>
    intro _
    refine ⟨fun l h => (nomatch h), fun i => ?_, Nat.zero_le _, fun k t h => ?_⟩
    · simp [run]; exact firsts_ht.mono (by omega)
    · exact h _ 0 ⟨rfl, rfl⟩
  | @yes i c l hc hl hs ih =>
    intro hi
    have IH := ih (by omega)
    have hlo := hP l (List.mem_of_getElem? hl)
    obtain ⟨t, h1, h2⟩ := hs
    have hrun := es_run (h0 := firsts M.n) (P := P) i (by omega)
    have H0 := ht i
    -- the value is the same from every state
    have hval : ∀ h a, ES (firsts M.n) P i h a → l.c < h.length → val h l = t := fun h a he hlen => by
      have := h1 _ 0 ⟨l, hl, .inl ⟨rfl, h, a, he, rfl⟩⟩
      unfold did at this
      rw [List.getElem?_set_self hlen] at this
      exact Option.some.inj this
    have esl : ∀ {h a}, ES (firsts M.n) P i h a → h.length = M.n := fun {h a} he => by
      rcases es_ht hP i h a (by omega) he with rfl | ⟨j, _, H⟩
      · exact H0.len
      · exact H.len
    have hv : ∀ h a, ES (firsts M.n) P i h a → val h l = t := fun h a he => hval h a he (by rw [esl he]; exact hlo.c)
    have hkeep : (run (firsts M.n) (P.take i))[l.c]? = some t := h1 _ 1 ⟨l, hl, .inr ⟨rfl, hrun⟩⟩
    have hsoft : soft l = true := by
      cases hsf : soft l with
      | true => rfl
      | false =>
        exfalso
        have hm : l.c ∈ l.src := by
          unfold soft at hsf
          simpa using hsf
        have hvr := hv _ _ hrun
        unfold val at hvr
        rcases hlo.fn with ⟨ef, s, e2, e3⟩ | ⟨f, ef, e2⟩
        · rw [e2] at hm
          have : l.c = s := by simpa using hm
          exact e3 this.symm
        · rw [ef] at hvr
          simp only at hvr
          have : t ∈ nT f :: l.src.map fun s => (run (firsts M.n) (P.take i))[s]?.getD .none := List.mem_cons_of_mem _ (List.mem_map.mpr ⟨l.c, hm, by rw [hkeep]; rfl⟩)
          have := depth_mem this
          rw [hvr] at this
          omega
    have hsrc : ∀ s ∈ l.src, SureAt (firsts M.n) P i s ((run (firsts M.n) (P.take i))[s]?.getD .none) := fun s hs h a he => by
      have e1 := hv _ _ he
      have e2 := hv _ _ hrun
      have hsl : s < h.length := by rw [esl he]; exact hlo.src s hs
      rw [List.getElem?_eq_getElem hsl]
      have e3 : h[s]?.getD .none = h[s] := by rw [List.getElem?_eq_getElem hsl]; rfl
      rw [← e3]
      congr 1
      unfold val at e1 e2
      rcases hlo.fn with ⟨ef, s', e4, e5⟩ | ⟨f, ef, e4⟩
      · rw [ef, e4] at e1 e2
        rw [e4] at hs
        have : s = s' := by simpa using hs
        subst this
        simp only [List.head?_cons, Option.getD_some] at e1 e2
        rw [e1, e2]
      · rw [ef] at e1 e2
        simp only at e1 e2
        have e6 := NestedKey.tup.inj (e1.trans e2.symm)
        simp only [List.cons.injEq, true_and] at e6
        exact List.map_inj_left.mp e6 s hs
    have hvc : val (run (firsts M.n) c) l = t := by
      have e2 := hv _ _ hrun
      rw [← e2]
      unfold val
      rcases hlo.fn with ⟨ef, s, e4, e5⟩ | ⟨f, ef, e4⟩
      · rw [ef, e4]
        simp only [List.head?_cons, Option.getD_some]
        rw [IH.sure s _ (hsrc s (by simp [e4]))]; rfl
      · rw [ef]
        simp only
        congr 2
        refine List.map_congr_left fun s hs => ?_
        rw [IH.sure s _ (hsrc s hs)]; rfl
    have htd : t.depth ≤ 4 := (H0.wt t (List.mem_of_getElem? hkeep)).2
    refine ⟨fun x hx => ?_, tame_snoc IH.tm (did_ht IH.tm.all hlo (by rw [hvc]; exact htd)), by have := IH.len; simp; omega, fun k u hu => ?_⟩
    · rcases List.mem_append.mp hx with hx | hx
      · exact IH.ln x hx
      · have : x = l := by simpa using hx
        rw [this]; exact ⟨hlo, hsoft⟩
    · rw [run_snoc]
      unfold did
      by_cases hk : l.c = k
      · subst hk
        have hE := es_run (h0 := firsts M.n) (P := P) (i + 1) hi
        have e1 := hu _ _ hE
        have e2 := h1 _ _ hE
        rw [e1] at e2
        cases e2
        rw [List.getElem?_set_self (by rw [IH.tm.all.len]; exact hlo.c), hvc]
      · rw [List.getElem?_set_ne hk]
        refine IH.sure k u fun h a he => ?_
        have := hu _ 0 ⟨l, hl, .inl ⟨rfl, h, a, he, rfl⟩⟩
        unfold did at this
        rw [List.getElem?_set_ne hk] at this
        exact this
  | @no i c l hc hl hs ih =>
    intro hi
    have IH := ih (by omega)
    refine ⟨IH.ln, IH.tm, by have := IH.len; omega, fun k u hu => ?_⟩
    refine IH.sure k u ?_
    by_cases hk : l.c = k
    · subst hk
      apply Classical.byContradiction
      intro hn
      exact hs ⟨u, hu, hn⟩
    · intro h a he
      have := hu _ 0 ⟨l, hl, .inl ⟨rfl, h, a, he, rfl⟩⟩
      unfold did at this
      rw [List.getElem?_set_ne hk] at this
      exact this
/-- (f) the core fulfils what is sure -/
theorem core_ful {M : Mac} {P : List Ln} {W : List Wish} {c : List Ln} (hM : M.Ok) (hP : LnsOk M P) (ht : Tame M 4 P) (h7 : P.length ≤ 7) (hW : WOk M W) (hc : Core (firsts M.n) P P.length c) (hf : ∀ h a, ES (firsts M.n) P P.length h a → ful h W = true) :
    CoreOk M P P.length c ∧ ful (run (firsts M.n) c) W = true := by
  have C := core_ok hM hP ht hc (Nat.le_refl _)
  refine ⟨C, List.all_eq_true.mpr fun w hw => decide_eq_true ?_⟩
  have : (run (firsts M.n) c)[w.1]? = some w.2 := C.sure w.1 w.2 fun h a he => by
    have e := of_decide_eq_true (List.all_eq_true.mp (hf h a he) w hw)
    obtain ⟨x, hx, _⟩ := (es_ht6 hP ht h7 (Nat.le_refl _) he).get (hW.wt w hw).1
    rw [hx] at e ⊢
    exact congrArg some e
  rw [this]; rfl
theorem stL_nil' {P : List Ln} {h : List T} : ∀ i, i ≤ P.length → stL P [] h i = run h (P.take i)
  | 0, _ => by simp [stL, run]
  | i + 1, hi => by
    have e : P[i]? = some P[i] := List.getElem?_eq_getElem (by omega)
    rw [run_succ e, stL, e]
    simp only
    rw [if_neg (by simp), stL_nil' i (by omega)]
theorem stL_nil_ht {M : Mac} {P : List Ln} (ht : Tame M 4 P) (i : Nat) : HT M 7 (stL P [] (firsts M.n) i) := by
  by_cases h : i ≤ P.length
  · rw [stL_nil' i h]; exact (ht i).mono (by omega)
  · rw [stL_over i (by omega), stL_nil' _ (Nat.le_refl _)]; exact (ht _).mono (by omega)
end L2.LL

/-! # LLW25 -/
set_option Elab.async false
set_option linter.all false
set_option maxRecDepth 100000
set_option maxHeartbeats 2000000
namespace L2.LL
open PySem PySem.Spec PyProof.Rows
/-! ## the law, up to the lambda -/
abbrev lwS (g : Gp) (M : Mac) (W : List Wish) (r : Option Nat) (kk : Nat) (x7 x8 x9 x10 x11 x12 x13 x14 x15 : Option D) : SD :=
  [some (.raw (.ref g.sa)), some (.ref 0), some (.dat M.t), some (.dat (wsT W)), some (.dat (numT r)), some (.dat (nT kk)), some (.bl r.isSome), x7, x8, x9, x10, x11, x12, x13, x14, x15]
structure LwOk (g : Gp) (M : Mac) (W : List Wish) (r : Option Nat) (kk : Nat) (S : Sto) : Prop where
  ok : SOk M W
  fr : FRes M W r
  k1 : 1 ≤ kk
  k3 : kk ≤ 3
  row : ∃ o, S[0]? = some o ∧ Row g o
theorem nodup_len {α : Type} [DecidableEq α] {l u : List α} (hl : l.Nodup) (hu : u.Nodup) (h : ∀ x, x ∈ l ↔ x ∈ u) : l.length = u.length :=
  Nat.le_antisymm (nodup_sub_length hl fun x hx => (h x).mp hx) (nodup_sub_length hu fun x hx => (h x).mpr hx)
theorem w_lawA {g : Gp} {mid : BD} (hmid : ∀ M W r kk x7 x8 x9 x10 x11 x12 x13 x14 x15 S, LwOk g M W r kk S → mid endT (lwS g M W r kk x7 x8 x9 x10 x11 x12 x13 x14 x15) S) : fb_lawA g mid endT (startD N_law [.raw (.ref g.sa)]) [] := by
  unfold fb_lawA
  simp only [s_start, s_seq, s_set, s_lst, s_cons, s_nil, s_call, s_var, s_C]
  refine ⟨_, rfl, by simp, _, rfl, _, rfl, ⟨900 - 900, 900, 0, rfl, by decide, by decide, by decide⟩, fun M o1 hM hr1 => ?_⟩
  refine ⟨_, rfl, _, rfl, M, _, rfl, hM, rfl, hr1, fun W o2 hW hr2 => ?_⟩
  simp only [s_if, s_test, s_op, s_call, s_cons, s_nil, s_var, s_C]
  refine ⟨_, rfl, M, W, rfl, hM, hW, fun ps hnd hmem => ?_⟩
  have hpl : ps.length = (parts W).length := nodup_len hnd parts_nd hmem
  have h4 : ((List.set ([] ++ [AO.lst [D.raw (V.ref g.sa), D.dat (NestedKey.num 0), D.dat (NestedKey.num 900), D.dat (NestedKey.num 0)]]) ([] : Sto).length o1).set ([] : Sto).length o2)[0]? = some o2 := rfl
  generalize ((List.set ([] ++ [AO.lst [D.raw (V.ref g.sa), D.dat (NestedKey.num 0), D.dat (NestedKey.num 900), D.dat (NestedKey.num 0)]]) ([] : Sto).length o1).set ([] : Sto).length o2) = S4 at *
  have h5 : (S4 ++ [AO.lst (ps.map .dat)])[0]? = some o2 := pre_get (List.prefix_append _ _) h4
  refine (s_lenL).mpr ⟨ps.map .dat, by simp, ?_⟩
  generalize S4 ++ [AO.lst (ps.map .dat)] = S5 at *
  refine (s_cmp).mpr ?_
  rw [List.length_map, hpl]
  by_cases h10 : 10 < (parts W).length
  · have e : decide ((10 : Int) < ((parts W).length : Int)) = true := decide_eq_true (by omega)
    show (match decide ((10 : Int) < ((parts W).length : Int)) with | true => _ | false => _)
    rw [e]
    simp only [s_seq, s_ret, s_C]
  · have e : decide ((10 : Int) < ((parts W).length : Int)) = false := decide_eq_false (by omega)
    show (match decide ((10 : Int) < ((parts W).length : Int)) with | true => _ | false => _)
    rw [e]
    have sok : SOk M W := ⟨hM, hW, by omega⟩
    simp only [s_next, s_seq, s_asg, s_tup, s_call, s_cons, s_nil, s_op, s_var, s_C]
    refine ⟨_, rfl, _, rfl, M, W, rfl, rfl, rfl, sok, fun r hr => ?_⟩
    refine ⟨_, rfl, o2, h5, hr2, by decide, by decide, fun v o3 hv0 hv3 hr3 => ?_⟩
    obtain ⟨n, rfl⟩ : ∃ n : Nat, v = (n : Int) := ⟨v.toNat, by omega⟩
    simp only [s_addN]
    have ek : (1 : Int) + (n : Int) = ((1 + n : Nat) : Int) := by omega
    have eN : ∀ q : Option Nat, ∃ t, D.dat (numT q) = .dat t ∧ t = numT q := fun q => ⟨_, rfl, rfl⟩
    refine ⟨[numT r, nT (1 + n)], by rw [ek]; rfl, by simp, _, rfl, ?_⟩
    simp only [s_gT, s_gsCons, s_gsNil, s_gN]
    refine ⟨rfl, trivial, ?_⟩
    have h6 : (S5.set ([] : Sto).length o3)[0]? = some o3 := List.getElem?_set_self (List.getElem?_eq_some_iff.mp h5).1
    generalize S5.set ([] : Sto).length o3 = S6 at *
    simp only [s_seq, s_set, s_op, s_var, s_C]
    refine ⟨_, rfl, ?_⟩
    rw [s_isN]
    refine ⟨rfl, ?_⟩
    have ed : (!decide (D.dat (numT r) = D.dat NestedKey.none)) = r.isSome := by
      cases r with
      | none => rfl
      | some q => rw [decide_eq_false (fun z => by have := D.dat.inj z; cases this)]; rfl
    simp only [if_true]
    rw [ed]
    simp only [s_if, s_xNot, s_truth, s_call, s_cons, s_nil, s_var]
    refine ⟨_, rfl, _, rfl, M, W, rfl, rfl, sok, fun r' hr' => ⟨_, rfl, ?_⟩⟩
    have er := res_len hr' hr
    have ei : r'.isSome = r.isSome := by rw [er]; cases r' <;> rfl
    show (match !decide (r'.isSome = r.isSome) with | true => _ | false => _)
    rw [decide_eq_true ei]
    exact hmid M W r (1 + n) _ _ _ _ _ _ _ _ _ S6 ⟨sok, hr, by omega, by omega, o3, h6, hr3⟩
end L2.LL

/-! # LLW26 -/
set_option Elab.async false
set_option linter.all false
set_option maxRecDepth 100000
set_option maxHeartbeats 2000000
namespace L2.LL
open PySem PySem.Spec PyProof.Rows
/-! ## the law, its last part -/
def hardT : T → Bool
  | .tup [.num c, _, .tup s] => decide (NestedKey.num c ∈ s)
  | _ => false
theorem hardT_ln {l : Ln} : hardT l.t = !soft l := by
  have : hardT l.t = decide (nT l.c ∈ nTs l.src) := rfl
  rw [this]
  unfold soft
  have e : (nT l.c ∈ nTs l.src) ↔ l.c ∈ l.src := by
    constructor
    · intro z
      obtain ⟨s, hs, e⟩ := List.mem_map.mp z
      have := NestedKey.num.inj e
      have : s = l.c := by omega
      exact this ▸ hs
    · exact fun z => List.mem_map.mpr ⟨_, z, rfl⟩
  simp [e]
theorem isSome_due {M : Mac} {W : List Wish} {r : Option Nat} {c : List Ln} (hM : M.Ok) (hW : WOk M W) (hr : FRes M W r) (hc : ∀ l ∈ c, l.Ok M ∧ soft l = true) (hf : ful (run (firsts M.n) c) W = true) : r.isSome = true := by
  cases r with
  | none => exact absurd hr (res_due hM hW hc hf)
  | some _ => rfl
theorem w_lawD {g : Gp} {M : Mac} {W : List Wish} {r : Option Nat} {kk : Nat} {x7 x8 x9 x10 x11 x12 x14 x15 : Option D} {S : Sto} {P : List Ln} (h : LwOk g M W r kk S) (hP : LnsOk M P) (h7 : P.length ≤ 7) (ht : Tame M 4 P) :
    fb_lawD g endT (lwS g M W r kk x7 x8 x9 x10 x11 x12 (some (.dat (prT P))) x14 x15) S := by
  have hM := h.ok.m
  have hW := h.ok.w
  unfold fb_lawD
  simp only [s_seq, s_set, s_call, s_cons, s_nil, s_var]
  refine ⟨_, rfl, _, rfl, _, rfl, M, P, W, rfl, rfl, rfl, hM, hP, h7, ht, hW, fun _ => ?_, fun S' n c hpre hn hc hall => ?_⟩
  · simp only [s_if, s_test, s_op, s_var, s_C]
    refine ⟨_, rfl, ?_⟩
    rw [s_isN]
    refine ⟨rfl, ?_⟩
    simp only [if_neg Bool.false_ne_true, decide_true, s_seq, s_ret, s_C]
  · obtain ⟨C, hf⟩ := core_ful hM hP ht h7 hW hc hall
    simp only [s_if, s_test, s_op, s_var, s_C]
    refine ⟨_, rfl, ?_⟩
    rw [s_isN]
    refine ⟨rfl, ?_⟩
    have e1 : decide (D.ref n = D.dat NestedKey.none) = false := decide_eq_false (fun z => by cases z)
    simp only [if_neg Bool.false_ne_true]
    rw [e1]
    simp only [s_next, s_seq, s_if, s_xOr, s_xNot, s_xgc, s_test, s_op, s_lc, s_iL, s_lst, s_nil, s_var]
    intro hs
    have hn2 : S'[n]? = some (.lst ((c.map Ln.t).map .dat)) := by rw [hn]; simp [Function.comp_def]
    have hcl : c.length ≤ 7 := by have := C.len; omega
    refine ⟨.ref n, rfl, n, c.map Ln.t, rfl, hn2, ?_⟩
    refine lc_pure hardT (fun t => .dat t) hn2 (by simp; omega) (fun t R1 R0 htm h1 h0 => ?_) ?_
    · obtain ⟨l, hl, rfl⟩ := List.mem_map.mp htm
      simp only [s_gN, s_test, s_op, s_var, s_C]
      refine ⟨.dat l.t, rfl, ?_⟩
      simp only [s_ixT, s_at0, s_at2]
      refine ⟨_, rfl, .dat l.t, rfl, ?_⟩
      simp only [s_ixT, s_at2]
      refine ⟨_, rfl, ?_⟩
      simp only [s_inT]
      refine ⟨rfl, nTs_noTx, ?_⟩
      simp only [if_neg Bool.false_ne_true]
      have e2 : decide (nT l.c ∈ nTs l.src) = hardT l.t := rfl
      rw [e2, hardT_ln, (C.ln l hl).2]
      rw [hardT_ln, (C.ln l hl).2] at h0
      exact h0 rfl
    · have ef : (c.map Ln.t).filter hardT = [] := by
        rw [List.filter_eq_nil_iff]
        intro t ht2
        obtain ⟨l, hl, rfl⟩ := List.mem_map.mp ht2
        rw [hardT_ln, (C.ln l hl).2]; simp
      rw [ef]
      refine ⟨by simp, (s_eqL (n := true)).mpr ⟨[], [], by rw [List.getElem?_append_left (by simp)]; simp, by simp, shalL_nil, shalL_nil, ?_⟩⟩
      refine ⟨S', (List.prefix_append _ _).trans (List.prefix_append _ _), Nat.le_refl _, hs, ?_⟩
      simp only [if_true, decide_true, Bool.not_true, s_truth, s_var]
      refine ⟨_, rfl, ?_⟩
      rw [isSome_due hM hW h.fr C.ln hf]
      simp only [Bool.not_true, s_next, s_seq, s_set, s_call, s_cons, s_nil, s_var, s_tup]
      refine ⟨_, rfl, .ref n, rfl, ?_⟩
      refine (s_tupleOf).mpr ⟨c.map Ln.t, hn2, ?_⟩
      refine ⟨[], rfl, by simp, M, c, [], rfl, rfl, rfl, hM, fun l hl => (C.ln l hl).1, by omega, fun i => stL_nil_ht C.tm i, ?_⟩
      rw [stL_nil, List.take_length]
      simp only [s_ret]
      refine bad_eq (h := run (firsts M.n) c) hM hW (C.tm.all.mono (by omega)) rfl rfl (by decide) (by decide) (by decide) (by simp) (by simp) ?_
      rw [hf]
end L2.LL

/-! # LLW27 -/
set_option Elab.async false
set_option linter.all false
set_option maxRecDepth 100000
set_option maxHeartbeats 2000000
namespace L2.LL
open PySem PySem.Spec PyProof.Rows
/-! ## the law, behind the lambda -/
theorem dbl_mem {P : List Ln} {k : Nat} {l : Ln} (h : l ∈ dbl P k) : l ∈ P := by
  unfold dbl at h
  obtain ⟨x, hx, h⟩ := List.mem_flatMap.mp h
  rw [List.eq_of_mem_replicate h]; exact hx
theorem w_lawC {g : Gp} {M : Mac} {W : List Wish} {r : Option Nat} {kk : Nat} {x7 x8 x9 x10 x11 x12 x13 x14 x15 : Option D} {S : Sto} (h : LwOk g M W r kk S) :
    fb_lawC g endT (lwS g M W r kk x7 x8 x9 x10 x11 x12 x13 x14 x15) S := by
  have hM := h.ok.m
  obtain ⟨o, ho, hro⟩ := h.row
  unfold fb_lawC
  simp only [s_seq, s_set, s_call, s_cons, s_nil, s_var, s_C]
  refine ⟨_, rfl, _, rfl, _, rfl, M, 7, o, rfl, rfl, by decide, hM, ho, hro, fun P o1 hP hP7 hr1 => ?_⟩
  refine ⟨M, P, rfl, rfl, hM, hP, by omega, fun P1 hP1 hPl ht1 => ?_⟩
  have h1 : (S.set 0 o1)[0]? = some o1 := List.getElem?_set_self (List.getElem?_eq_some_iff.mp ho).1
  generalize S.set 0 o1 = S1 at *
  simp only [s_if, s_test, s_op, s_call, s_cons, s_nil, s_var, s_C]
  refine ⟨_, rfl, o1, h1, hr1, by decide, by decide, fun v o2 hv0 hv2 hr2 => ?_⟩
  have h2 : (S1.set 0 o2)[0]? = some o2 := List.getElem?_set_self (List.getElem?_eq_some_iff.mp h1).1
  generalize S1.set 0 o2 = S2 at *
  have hL : LwOk g M W r kk S2 := ⟨h.ok, h.fr, h.k1, h.k3, o2, h2, hr2⟩
  refine (s_eqD (n := false)).mpr ⟨rfl, rfl, ?_⟩
  simp only [if_neg Bool.false_ne_true]
  cases hd : decide (NestedKey.num v = NestedKey.num 0) with
  | false => exact w_lawD hL hP1 (by omega) ht1
  | true =>
    simp only [s_seq, s_set, s_call, s_cons, s_nil, s_cut, s_oNo, s_oAt, s_var, s_C, s_next]
    refine ⟨_, rfl, _, rfl, P1.take 3, 2, ?_, rfl, by decide, by decide, by rw [List.length_take]; omega, ?_⟩
    · have : cutA (P1.map Ln.t) none (some ((3 : Nat) : Int)) = (P1.map Ln.t).take 3 := cut_to
      rw [show (3 : Int) = ((3 : Nat) : Int) from rfl, this, ← List.map_take]
    have hl3 : (dbl (P1.take 3) 2).length ≤ 6 := by rw [dbl_len, List.length_take]; omega
    refine ⟨M, dbl (P1.take 3) 2, rfl, rfl, hM, fun l hl => hP1 l (List.mem_of_mem_take (dbl_mem hl)), by omega, fun P2 hP2 hPl2 ht2 => ?_⟩
    exact w_lawD hL hP2 (by omega) ht2
/-- what the lambda's call has told -/
inductive Told (M : Mac) (W : List Wish) (kk : Nat) : Option Nat → D → Prop
  | no : Told M W kk none (.dat (.text "none"))
  | yes {p : List Ln} : BRes M W (some p) → p.length * (kk + 1) ≤ 60 → Told M W kk (some p.length) (.dat (prT (dbl p (kk + 1))))
  | big {p : List Ln} : BRes M W (some p) → 60 < p.length * (kk + 1) → Told M W kk (some p.length) (.dat (.text "other"))
theorem w_told {g : Gp} {fB : BD} {M : Mac} {W : List Wish} {r : Option Nat} {kk : Nat} {x7 x8 x9 x10 x11 x12 x13 x14 x15 : Option D} {S : Sto} (h : LwOk g M W r kk S)
    (hB : ∀ d, Told M W kk r d → fB endT (lwS g M W r kk (some d) x8 x9 x10 x11 x12 x13 x14 x15) S) : TolD fB (lwS g M W r kk x7 x8 x9 x10 x11 x12 x13 x14 x15) S := by
  unfold TolD
  simp only [s_cons, s_nil, s_var]
  refine ⟨_, rfl, _, rfl, _, rfl, M, W, kk, rfl, rfl, rfl, h.ok, h.k1, h.k3, fun p hp => res_60 h.ok hp, fun hn => ?_, fun p hp => ⟨fun hz => ?_, fun hz => ?_⟩⟩
  · have := res_len hn h.fr
    subst this
    exact hB _ .no
  · have := res_len hp h.fr
    subst this
    exact hB _ (.yes hp hz)
  · have := res_len hp h.fr
    subst this
    exact hB _ (.big hp hz)
theorem shal_no : Shal (.text "none") := s_shx (by decide +kernel)
theorem shal_ot : Shal (.text "other") := s_shx (by decide +kernel)
theorem Told.some {M : Mac} {W : List Wish} {kk n : Nat} {d : D} (h : Told M W kk (some n) d) : (∃ p, BRes M W (some p) ∧ p.length = n ∧ n * (kk + 1) ≤ 60 ∧ d = .dat (prT (dbl p (kk + 1)))) ∨ (60 < n * (kk + 1) ∧ d = .dat (.text "other")) := by
  generalize e : (Option.some n) = r at h
  cases h with
  | no => cases e
  | yes hp hz => cases e; exact .inl ⟨_, hp, rfl, hz, rfl⟩
  | big hp hz => cases e; exact .inr ⟨hz, rfl⟩
theorem prT_shal {P : List Ln} : Shal (prT P) := shal_of (by
  rw [noTx_tup, noTxs_iff]; intro t ht
  obtain ⟨l, _, rfl⟩ := List.mem_map.mp ht
  exact ln_noTx) (by
  rw [depth_tup]
  have : NestedKey.depthAll (P.map Ln.t) ≤ 2 := depthAll_le.mpr fun t ht => by
    obtain ⟨l, _, rfl⟩ := List.mem_map.mp ht
    rw [ln_depth]; omega
  omega)
theorem w_lawB {g : Gp} {M : Mac} {W : List Wish} {r : Option Nat} {kk : Nat} {d : D} {x8 x9 x10 x11 x12 x13 x14 x15 : Option D} {S : Sto} (h : LwOk g M W r kk S) (hd : Told M W kk r d) :
    fb_lawB g endT (lwS g M W r kk (some d) x8 x9 x10 x11 x12 x13 x14 x15) S := by
  have hM := h.ok.m
  have hW := h.ok.w
  have hk1 := h.k1
  have hk3 := h.k3
  unfold fb_lawB
  simp only [s_seq, s_set, s_call, s_cons, s_nil, s_var, s_C]
  refine ⟨_, rfl, _, rfl, M, W, rfl, rfl, h.ok, fun r2 hr2 => ?_⟩
  have er := res_len hr2 h.fr
  simp only [s_if, s_xAnd, s_truth, s_var]
  refine ⟨_, rfl, ?_⟩
  cases r2 with
  | none =>
    have er : r = none := er
    subst er
    cases hd
    simp only [Option.isSome_none, s_next, s_seq, s_if, s_xAnd, s_xOr, s_xNot, s_truth, s_test, s_op, s_var, s_C]
    refine ⟨_, rfl, _, rfl, (s_eqD (n := true)).mpr ⟨shal_no, shal_no, ?_⟩⟩
    simp only [if_true, decide_true, Bool.not_true]
    refine ⟨_, rfl, ?_⟩
    rw [s_isN]
    refine ⟨rfl, ?_⟩
    have e1 : decide (D.dat (resT none) = D.dat NestedKey.none) = true := decide_eq_true rfl
    rw [e1]
    simp only [if_true, Bool.not_true, s_next, s_seq, s_if, s_truth, s_var]
    refine ⟨_, rfl, ?_⟩
    simp only [Option.isSome_none, s_next]
    exact w_lawC h
  | some p2 =>
    have er : r = some p2.length := er
    subst er
    obtain ⟨hp2, ht2, hf2⟩ := res_ok hM hW hr2
    have h60 := res_60 h.ok hr2
    have hP2 : PrOk M p2 := ⟨h60, fun l hl => (hp2 l hl).1⟩
    have hk : (kk : Int) + 1 = ((kk + 1 : Nat) : Int) := by omega
    have hrep : ∀ (S : Sto) (Q : DQ), Q (.bl true) S → F_is_repeat_proof g [.dat M.t, .dat (prT p2), .dat (nT kk), .dat (wsT W)] S Q := fun S Q q =>
      ⟨M, p2, kk, W, rfl, rfl, rfl, rfl, hk1, hk3, hM, hP2, hW, fun l hl => (hp2 l hl).2, fun i => (ht2 i).mono (by omega), hf2, q⟩
    simp only [Option.isSome_some, s_test, s_op, s_var, s_C]
    refine ⟨.dat (nT p2.length), rfl, .dat (nT kk), rfl, ?_⟩
    simp only [s_addN]
    rw [hk]
    refine (s_mulN).mpr ⟨.inr ⟨by omega, by omega⟩, ?_⟩
    have hmul : ((p2.length : Nat) : Int) * ((kk + 1 : Nat) : Int) = ((p2.length * (kk + 1) : Nat) : Int) := by rw [Int.natCast_mul]
    rw [hmul]
    show (match decide ((60 : Int) < ((p2.length * (kk + 1) : Nat) : Int)) with | true => _ | false => _)
    rcases hd.some with ⟨p, hp, hpl, hz, rfl⟩ | ⟨hz, rfl⟩
    · rw [decide_eq_false (show ¬ (60 : Int) < ((p2.length * (kk + 1) : Nat) : Int) by omega)]
      obtain ⟨hp1, ht1, hf1⟩ := res_ok hM hW hp
      have hD : PrOk M (dbl p (kk + 1)) := ⟨by rw [dbl_len, hpl]; exact hz, fun l hl => (hp1 l (dbl_mem hl)).1⟩
      simp only [s_next, s_seq, s_if, s_xAnd, s_xNot, s_truth, s_var, Option.isSome_some, Bool.not_true]
      refine ⟨_, rfl, _, rfl, ?_⟩
      simp only [s_seq, s_if, s_test, s_op, s_call, s_cons, s_nil, s_var, s_C]
      refine ⟨_, rfl, _, rfl, _, rfl, _, rfl, M, dbl p (kk + 1), kk, W, dInv M p kk, rfl, rfl, rfl, rfl, hM, hD, hW, hk1, hk3, dbl_mom hk3 hp1 ht1, fun h a hi => by rw [dInv_end hi]; exact hf1, ?_⟩
      refine (s_isB).mpr ⟨true, rfl, ?_⟩
      simp only [if_true, decide_true, Bool.not_true, s_next, s_seq, s_if, s_test, s_op, s_call, s_cons, s_nil, s_var, s_C]
      refine ⟨_, rfl, _, rfl, _, rfl, _, rfl, hrep _ _ ?_⟩
      refine (s_isB).mpr ⟨true, rfl, ?_⟩
      simp only [if_true, decide_true, Bool.not_true, s_next, s_seq, s_if, s_test, s_op, s_call, s_cons, s_nil, s_var, s_C]
      refine ⟨_, rfl, _, rfl, _, rfl, M, p2, kk, rfl, rfl, rfl, hM, hP2, hk1, hk3, hz, ?_⟩
      refine ⟨_, rfl, _, rfl, ?_⟩
      simp only [s_addN]
      refine ⟨p2, kk + 1, rfl, hk, by omega, by omega, h60, ?_⟩
      refine (s_eqD (n := true)).mpr ⟨prT_shal, prT_shal, ?_⟩
      simp only [if_true, decide_true, Bool.not_true, s_next, s_seq, s_if, s_test, s_op, s_call, s_cons, s_nil, s_var, s_C]
      refine ⟨_, rfl, ?_⟩
      simp only [s_lenT, List.length_map]
      show (match decide (((dbl p (kk + 1)).length : Int) < (11 : Int)) with | true => _ | false => _)
      by_cases h11 : (dbl p (kk + 1)).length < 11
      · rw [decide_eq_true (show ((dbl p (kk + 1)).length : Int) < 11 by omega)]
        simp only [s_seq, s_for, s_iL, s_call, s_cons, s_nil, s_var]
        refine ⟨_, rfl, ?_⟩
        simp only [s_lenT, List.length_map]
        refine ⟨_, rfl, (dbl p (kk + 1)).length, kk, rfl, rfl, by omega, hk1, hk3, fun S' j L hpre hj hL => ?_⟩
        have hend : ∀ Ls ∈ L, stL (dbl p (kk + 1)) Ls (firsts M.n) (dbl p (kk + 1)).length = run (firsts M.n) p := fun Ls hLs => stL_end hp1 (hL Ls hLs)
        have hj2 : S'[j]? = some (.lst ((L.map fun Ls => NestedKey.tup (nTs Ls)).map .dat)) := by rw [hj]; simp [Function.comp_def]
        obtain ⟨o, ho, hro⟩ := h.row
        have h' : LwOk g M W (some p2.length) kk S' := ⟨h.ok, h.fr, h.k1, h.k3, o, pre_get hpre ho, hro⟩
        refine ⟨j, L.map fun Ls => NestedKey.tup (nTs Ls), rfl, hj2, ?_⟩
        refine ⟨fun i σ S2 => S2 = S' ∧ ∃ y9 y10 y11 y12, σ = lwS g M W (some p2.length) kk (some (.dat (prT (dbl p (kk + 1))))) (some (.dat (prT p2))) y9 y10 y11 y12 x13 x14 x15, ⟨rfl, _, _, _, _, rfl⟩, fun i σ S2 e => by rw [e.1]; exact hj2, ?_, ?_⟩
        · rintro i t σ S2 hti ⟨rfl, y9, y10, y11, y12, rfl⟩
          rw [List.getElem?_map, Option.map_eq_some_iff] at hti
          obtain ⟨Ls, hLs, rfl⟩ := hti
          have hm := List.mem_of_getElem? hLs
          simp only [s_gN, s_seq, s_set, s_call, s_cons, s_nil, s_var]
          refine ⟨_, rfl, _, rfl, _, rfl, M, dbl p (kk + 1), Ls, rfl, rfl, rfl, hM, hD.2, hD.1, fun i => stL_ht hp1 (hL Ls hm) ht1 i, ?_⟩
          rw [hend Ls hm]
          simp only [s_seq, s_if]
          refine bad_ne (h := run (firsts M.n) p) hM hW (ht1.all.mono (by omega)) rfl rfl (by decide) (by decide) (by decide) (by simp) (by simp) ?_
          rw [hf1]
          simp only [Bool.not_true, s_next]
          exact ⟨trivial, _, _, _, _, rfl⟩
        · rintro σ S2 ⟨rfl, y9, y10, y11, y12, rfl⟩
          simp only [s_next]
          exact w_lawC h'
      · rw [decide_eq_false (show ¬ ((dbl p (kk + 1)).length : Int) < 11 by omega)]
        simp only [s_next]
        exact w_lawC h
    · rw [decide_eq_true (show (60 : Int) < ((p2.length * (kk + 1) : Nat) : Int) by omega)]
      simp only [s_seq, s_ret, s_dAnd, s_op, s_call, s_cons, s_nil, s_var, s_C]
      refine ⟨_, rfl, (s_eqD (n := false)).mpr ⟨shal_ot, shal_ot, ?_⟩⟩
      simp only [if_neg Bool.false_ne_true, decide_true, s_op, s_call, s_cons, s_nil, s_var, s_C]
      refine ⟨_, rfl, _, rfl, _, rfl, _, rfl, hrep _ _ ?_⟩
      exact (s_isB).mpr ⟨true, rfl, rfl⟩
end L2.LL

/-! # LLF1 -/
set_option Elab.async false
set_option linter.all false
set_option maxRecDepth 100000
set_option maxHeartbeats 2000000
namespace L2.LL
open PySem PySem.Spec PyProof.Rows
/-! ## every def keeps its promise -/
abbrev FNo : FD := fun _ _ _ => False
theorem w_depth0 {g : Gp} : ∀ ds S Q, Sco S → F_depthN 0 g ds S Q → fb_depth g FNo (EndG S Q) (startD N_depth ds) S := by
  intro ds S Q hs h
  unfold F_depthN at h
  split at h
  · obtain ⟨M, hM, hv, hd, h⟩ := h
    unfold fb_depth
    rcases hv.cases hM with ⟨i, rfl, hi⟩ | ⟨f, ts, rfl, hf, hts, hne⟩
    · simp [s_start]
      have e : (nT i).depth + 1 = 1 := by simp
      rw [e] at h
      exact gcd0 hs h
    · rw [depth_tup] at hd; omega
  · exact h.elim
theorem w_is_term0 {g : Gp} : ∀ ds S Q, Sco S → F_is_termN 0 g ds S Q → fb_is_term g FNo (EndG S Q) (startD N_is_term ds) S := by
  intro ds S Q hs h
  unfold F_is_termN at h
  split at h
  · obtain ⟨M, rfl, hM, hv, hd, hk, h⟩ := h
    unfold fb_is_term
    rcases hv.cases hM with ⟨i, rfl, hi⟩ | ⟨f, ts, rfl, hf, hts, hne⟩
    · have h1 : (i : Int) ≤ M.n - 1 := by omega
      simp [s_start, h1]
      exact gcb0 hs h
    · rw [depth_tup] at hd; omega
  · exact h.elim
theorem w_Ldeep0 {g : Gp} : ∀ ds S Q, Sco S → F_LdeepN 0 g ds S Q → fb_Ldeep g FNo (EndG S Q) (startD N_Ldeep ds) S := by
  intro ds S Q hs h
  unfold F_LdeepN at h
  split at h
  · obtain ⟨M, hM, hv, hd, h⟩ := h
    unfold fb_Ldeep
    rcases hv.cases hM with ⟨i, rfl, hi⟩ | ⟨f, ts, rfl, hf, hts, hne⟩
    · simp [s_start]
      have e : (nT i).depth + 1 = 1 := by simp
      rw [e] at h
      exact gcd0 hs h
    · rw [depth_tup] at hd; omega
  · exact h.elim
theorem w_parts_of0 {g : Gp} : ∀ ds S Q, Sco S → F_parts_ofN 0 g ds S Q → fb_parts_of g FNo (EndG S Q) (startD N_parts_of ds) S := by
  intro ds S Q hs h
  unfold F_parts_ofN at h
  split at h
  · obtain ⟨M, hM, hv, hd, hd8, h⟩ := h
    unfold fb_parts_of
    rcases hv.cases hM with ⟨i, rfl, hi⟩ | ⟨f, ts, rfl, hf, hts, hne⟩
    · simp [s_start]
      exact gcl (o := .lst [.dat (nT i)]) hs (sco_lst (ts := [nT i])) ⟨[], by simp⟩ (by simpa using h)
    · rw [depth_tup] at hd; omega
  · exact h.elim
theorem lz_is_number {g : Gp} : ∀ ds S Q, F_is_number g ds S Q → ds.length = P_is_number.length := fun ds S Q h => by
  unfold F_is_number at h
  split at h
  · rfl
  · exact h.elim
theorem ok_is_number {P : Program} {w : World} {K : PySem.W.Frag} {mg : Str → Option Value} {base : Heap} {g : Gp} (t : Tx K mg g) (tb : TxB base mg t) : FnOk P w K mg base CX0 1 t.f_is_number t.fd_is_number P_is_number (spD K w g (F_is_number g)) :=
  t.F_is_number.okG (k := 0) sc_is_number lz_is_number fun A outer s H E hr => ⟨_, dv_is_number t (k := 0)  A outer s H E hr, w_is_number⟩
theorem lz_need_machine {g : Gp} : ∀ ds S Q, F_need_machine g ds S Q → ds.length = P_need_machine.length := fun ds S Q h => by
  unfold F_need_machine at h
  split at h
  · rfl
  · exact h.elim
theorem ok_need_machine {P : Program} {w : World} {K : PySem.W.Frag} {mg : Str → Option Value} {base : Heap} {g : Gp} (t : Tx K mg g) (tb : TxB base mg t) : FnOk P w K mg base CX0 3 t.f_need_machine t.fd_need_machine P_need_machine (spD K w g (F_need_machine g)) :=
  t.F_need_machine.okG (k := 2) sc_need_machine lz_need_machine fun A outer s H E hr => ⟨_, dv_need_machine t tb (k := 1) ((ok_is_number t tb).mono (by decide)) A outer s H E hr, w_need_machine⟩
theorem lz_is_line {g : Gp} : ∀ ds S Q, F_is_line g ds S Q → ds.length = P_is_line.length := fun ds S Q h => by
  unfold F_is_line at h
  split at h
  · rfl
  · exact h.elim
theorem ok_is_line {P : Program} {w : World} {K : PySem.W.Frag} {mg : Str → Option Value} {base : Heap} {g : Gp} (t : Tx K mg g) (tb : TxB base mg t) : FnOk P w K mg base CX0 3 t.f_is_line t.fd_is_line P_is_line (spD K w g (F_is_line g)) :=
  t.F_is_line.okG (k := 2) sc_is_line lz_is_line fun A outer s H E hr => ⟨_, dv_is_line t tb (k := 1) ((ok_is_number t tb).mono (by decide)) A outer s H E hr, w_is_line⟩
theorem lz_need_program {g : Gp} : ∀ ds S Q, F_need_program g ds S Q → ds.length = P_need_program.length := fun ds S Q h => by
  unfold F_need_program at h
  split at h
  · rfl
  · exact h.elim
theorem ok_need_program {P : Program} {w : World} {K : PySem.W.Frag} {mg : Str → Option Value} {base : Heap} {g : Gp} (t : Tx K mg g) (tb : TxB base mg t) : FnOk P w K mg base CX0 4 t.f_need_program t.fd_need_program P_need_program (spD K w g (F_need_program g)) :=
  t.F_need_program.okG (k := 3) sc_need_program lz_need_program fun A outer s H E hr => ⟨_, dv_need_program t (k := 3) ((ok_is_line t tb).mono (by decide)) A outer s H E hr, w_need_program⟩
theorem lz_is_soft {g : Gp} : ∀ ds S Q, F_is_soft g ds S Q → ds.length = P_is_soft.length := fun ds S Q h => by
  unfold F_is_soft at h
  split at h
  · rfl
  · exact h.elim
theorem ok_is_soft {P : Program} {w : World} {K : PySem.W.Frag} {mg : Str → Option Value} {base : Heap} {g : Gp} (t : Tx K mg g) (tb : TxB base mg t) : FnOk P w K mg base CX0 1 t.f_is_soft t.fd_is_soft P_is_soft (spD K w g (F_is_soft g)) :=
  t.F_is_soft.okG (k := 0) sc_is_soft lz_is_soft fun A outer s H E hr => ⟨_, dv_is_soft t (k := 0)  A outer s H E hr, w_is_soft⟩
theorem lz_depth {d : Nat} {g : Gp} : ∀ ds S Q, F_depthN d g ds S Q → ds.length = P_depth.length := fun ds S Q h => by
  unfold F_depthN at h
  split at h
  · rfl
  · exact h.elim
theorem no_depth {P : Program} {w : World} {K : PySem.W.Frag} {mg : Str → Option Value} {base : Heap} {g : Gp} (t : Tx K mg g) (tb : TxB base mg t) : FnOk P w K mg base CX0 1 t.f_depth t.fd_depth P_depth (spD K w g fun _ _ _ => False) := t.F_depth.ok (k := 0) sc_depth (fun _ _ _ h => h.elim) fun A outer s H E hr => ⟨bNever, dss_never, fun _ _ _ h => h.elim⟩
theorem ok_depthN {P : Program} {w : World} {K : PySem.W.Frag} {mg : Str → Option Value} {base : Heap} {g : Gp} (t : Tx K mg g) (tb : TxB base mg t) : ∀ d : Nat, FnOk P w K mg base CX0 (2 + 1 * d) t.f_depth t.fd_depth P_depth (spD K w g (F_depthN d g))
  | 0 => by
    have G : FnOk P w K mg base CX0 1 t.f_depth t.fd_depth P_depth (spD K w g fun _ _ _ => False) := (no_depth t tb).mono (by decide)
    exact t.F_depth.okG (k := 1) sc_depth lz_depth fun A outer s H E hr => ⟨_, dv_depth t (k := 1) G A outer s H E hr, w_depth0⟩
  | d + 1 => by
    have G := ok_depthN (P := P) (w := w) t tb d
    exact (t.F_depth.okG (k := 2 + 1 * d) sc_depth lz_depth fun A outer s H E hr => ⟨_, dv_depth t (k := 2 + 1 * d) G A outer s H E hr, w_depth⟩).mono (by omega)
theorem ok_depth {P : Program} {w : World} {K : PySem.W.Frag} {mg : Str → Option Value} {base : Heap} {g : Gp} (t : Tx K mg g) (tb : TxB base mg t) : FnOk P w K mg base CX0 11 t.f_depth t.fd_depth P_depth (spD K w g (F_depth g)) := ok_depthN t tb 9
theorem lz_is_term {d : Nat} {g : Gp} : ∀ ds S Q, F_is_termN d g ds S Q → ds.length = P_is_term.length := fun ds S Q h => by
  unfold F_is_termN at h
  split at h
  · rfl
  · exact h.elim
theorem no_is_term {P : Program} {w : World} {K : PySem.W.Frag} {mg : Str → Option Value} {base : Heap} {g : Gp} (t : Tx K mg g) (tb : TxB base mg t) : FnOk P w K mg base CX0 1 t.f_is_term t.fd_is_term P_is_term (spD K w g fun _ _ _ => False) := t.F_is_term.ok (k := 0) sc_is_term (fun _ _ _ h => h.elim) fun A outer s H E hr => ⟨bNever, dss_never, fun _ _ _ h => h.elim⟩
theorem ok_is_termN {P : Program} {w : World} {K : PySem.W.Frag} {mg : Str → Option Value} {base : Heap} {g : Gp} (t : Tx K mg g) (tb : TxB base mg t) : ∀ d : Nat, FnOk P w K mg base CX0 (3 + 2 * d) t.f_is_term t.fd_is_term P_is_term (spD K w g (F_is_termN d g))
  | 0 => by
    have G : FnOk P w K mg base CX0 1 t.f_is_term t.fd_is_term P_is_term (spD K w g fun _ _ _ => False) := (no_is_term t tb).mono (by decide)
    exact t.F_is_term.okG (k := 2) sc_is_term lz_is_term fun A outer s H E hr => ⟨_, dv_is_term t tb (k := 1) ((ok_is_number t tb).mono (by decide)) G A outer s H E hr, w_is_term0⟩
  | d + 1 => by
    have G := ok_is_termN (P := P) (w := w) t tb d
    exact (t.F_is_term.okG (k := 3 + 2 * d + 1) sc_is_term lz_is_term fun A outer s H E hr => ⟨_, dv_is_term t tb (k := 3 + 2 * d) ((ok_is_number t tb).mono (by omega)) G A outer s H E hr, w_is_term⟩).mono (by omega)
theorem ok_is_term {P : Program} {w : World} {K : PySem.W.Frag} {mg : Str → Option Value} {base : Heap} {g : Gp} (t : Tx K mg g) (tb : TxB base mg t) : FnOk P w K mg base CX0 21 t.f_is_term t.fd_is_term P_is_term (spD K w g (F_is_term g)) := ok_is_termN t tb 9
theorem lz_first_terms {g : Gp} : ∀ ds S Q, F_first_terms g ds S Q → ds.length = P_first_terms.length := fun ds S Q h => by
  unfold F_first_terms at h
  split at h
  · rfl
  · exact h.elim
theorem ok_first_terms {P : Program} {w : World} {K : PySem.W.Frag} {mg : Str → Option Value} {base : Heap} {g : Gp} (t : Tx K mg g) (tb : TxB base mg t) : FnOk P w K mg base CX0 1 t.f_first_terms t.fd_first_terms P_first_terms (spD K w g (F_first_terms g)) :=
  t.F_first_terms.okG (k := 0) sc_first_terms lz_first_terms fun A outer s H E hr => ⟨_, dv_first_terms t (k := 0)  A outer s H E hr, w_first_terms⟩
theorem lz_done {g : Gp} : ∀ ds S Q, F_done g ds S Q → ds.length = P_done.length := fun ds S Q h => by
  unfold F_done at h
  split at h
  · rfl
  · exact h.elim
theorem ok_done {P : Program} {w : World} {K : PySem.W.Frag} {mg : Str → Option Value} {base : Heap} {g : Gp} (t : Tx K mg g) (tb : TxB base mg t) : FnOk P w K mg base CX0 12 t.f_done t.fd_done P_done (spD K w g (F_done g)) :=
  t.F_done.okG (k := 11) sc_done lz_done fun A outer s H E hr => ⟨_, dv_done t (k := 11) ((ok_depth t tb).mono (by decide)) A outer s H E hr, w_done⟩
theorem lz_need_many {g : Gp} : ∀ ds S Q, F_need_many g ds S Q → ds.length = P_need_many.length := fun ds S Q h => by
  unfold F_need_many at h
  split at h
  · rfl
  · exact h.elim
theorem ok_need_many {P : Program} {w : World} {K : PySem.W.Frag} {mg : Str → Option Value} {base : Heap} {g : Gp} (t : Tx K mg g) (tb : TxB base mg t) : FnOk P w K mg base CX0 2 t.f_need_many t.fd_need_many P_need_many (spD K w g (F_need_many g)) :=
  t.F_need_many.okG (k := 1) sc_need_many lz_need_many fun A outer s H E hr => ⟨_, dv_need_many t (k := 1) ((ok_is_number t tb).mono (by decide)) A outer s H E hr, w_need_many⟩
theorem lz_keep {g : Gp} : ∀ ds S Q, F_keep g ds S Q → ds.length = P_keep.length := fun ds S Q h => by
  unfold F_keep at h
  split at h
  · rfl
  · exact h.elim
theorem ok_keep {P : Program} {w : World} {K : PySem.W.Frag} {mg : Str → Option Value} {base : Heap} {g : Gp} (t : Tx K mg g) (tb : TxB base mg t) : FnOk P w K mg base CX0 1 t.f_keep t.fd_keep P_keep (spD K w g (F_keep g)) :=
  t.F_keep.ok (k := 0) sc_keep lz_keep fun A outer s H E hr => ⟨_, dv_keep t (k := 0)  A outer s H E hr, w_keep⟩
theorem lz_all_moments {g : Gp} : ∀ ds S Q, F_all_moments g ds S Q → ds.length = P_all_moments.length := fun ds S Q h => by
  unfold F_all_moments at h
  split at h
  · rfl
  · exact h.elim
theorem ok_all_moments {P : Program} {w : World} {K : PySem.W.Frag} {mg : Str → Option Value} {base : Heap} {g : Gp} (t : Tx K mg g) (tb : TxB base mg t) : FnOk P w K mg base CX0 13 t.f_all_moments t.fd_all_moments P_all_moments (spD K w g (F_all_moments g)) :=
  t.F_all_moments.ok (k := 12) sc_all_moments lz_all_moments fun A outer s H E hr => ⟨_, dv_all_moments t (k := 12) ((ok_first_terms t tb).mono (by decide)) ((ok_done t tb).mono (by decide)) ((ok_keep t tb).mono (by decide)) A outer s H E hr, w_all_moments⟩
theorem lz_is_wish {g : Gp} : ∀ ds S Q, F_is_wish g ds S Q → ds.length = P_is_wish.length := fun ds S Q h => by
  unfold F_is_wish at h
  split at h
  · rfl
  · exact h.elim
theorem ok_is_wish {P : Program} {w : World} {K : PySem.W.Frag} {mg : Str → Option Value} {base : Heap} {g : Gp} (t : Tx K mg g) (tb : TxB base mg t) : FnOk P w K mg base CX0 22 t.f_is_wish t.fd_is_wish P_is_wish (spD K w g (F_is_wish g)) :=
  t.F_is_wish.okG (k := 21) sc_is_wish lz_is_wish fun A outer s H E hr => ⟨_, dv_is_wish t (k := 21) ((ok_is_number t tb).mono (by decide)) ((ok_is_term t tb).mono (by decide)) A outer s H E hr, w_is_wish⟩
theorem lz_need_wishes {g : Gp} : ∀ ds S Q, F_need_wishes g ds S Q → ds.length = P_need_wishes.length := fun ds S Q h => by
  unfold F_need_wishes at h
  split at h
  · rfl
  · exact h.elim
theorem ok_need_wishes {P : Program} {w : World} {K : PySem.W.Frag} {mg : Str → Option Value} {base : Heap} {g : Gp} (t : Tx K mg g) (tb : TxB base mg t) : FnOk P w K mg base CX0 23 t.f_need_wishes t.fd_need_wishes P_need_wishes (spD K w g (F_need_wishes g)) :=
  t.F_need_wishes.okG (k := 22) sc_need_wishes lz_need_wishes fun A outer s H E hr => ⟨_, dv_need_wishes t (k := 22) ((ok_is_wish t tb).mono (by decide)) A outer s H E hr, w_need_wishes⟩
theorem lz_fulfilled {g : Gp} : ∀ ds S Q, F_fulfilled g ds S Q → ds.length = P_fulfilled.length := fun ds S Q h => by
  unfold F_fulfilled at h
  split at h
  · rfl
  · exact h.elim
theorem ok_fulfilled {P : Program} {w : World} {K : PySem.W.Frag} {mg : Str → Option Value} {base : Heap} {g : Gp} (t : Tx K mg g) (tb : TxB base mg t) : FnOk P w K mg base CX0 2 t.f_fulfilled t.fd_fulfilled P_fulfilled (spD K w g (F_fulfilled g)) :=
  t.F_fulfilled.okG (k := 1) sc_fulfilled lz_fulfilled fun A outer s H E hr => ⟨_, dv_fulfilled t tb (k := 0)  A outer s H E hr, w_fulfilled⟩
theorem lz_need_wished {g : Gp} : ∀ ds S Q, F_need_wished g ds S Q → ds.length = P_need_wished.length := fun ds S Q h => by
  unfold F_need_wished at h
  split at h
  · rfl
  · exact h.elim
theorem ok_need_wished {P : Program} {w : World} {K : PySem.W.Frag} {mg : Str → Option Value} {base : Heap} {g : Gp} (t : Tx K mg g) (tb : TxB base mg t) : FnOk P w K mg base CX0 24 t.f_need_wished t.fd_need_wished P_need_wished (spD K w g (F_need_wished g)) :=
  t.F_need_wished.okG (k := 23) sc_need_wished lz_need_wished fun A outer s H E hr => ⟨_, dv_need_wished t (k := 23) ((ok_need_machine t tb).mono (by decide)) ((ok_need_program t tb).mono (by decide)) ((ok_need_many t tb).mono (by decide)) ((ok_need_wishes t tb).mono (by decide)) A outer s H E hr, w_need_wished⟩
theorem lz_least_harm {g : Gp} : ∀ ds S Q, F_least_harm g ds S Q → ds.length = P_least_harm.length := fun ds S Q h => by
  unfold F_least_harm at h
  split at h
  · rfl
  · exact h.elim
theorem ok_least_harm {P : Program} {w : World} {K : PySem.W.Frag} {mg : Str → Option Value} {base : Heap} {g : Gp} (t : Tx K mg g) (tb : TxB base mg t) : FnOk P w K mg base CX0 14 t.f_least_harm t.fd_least_harm P_least_harm (spD K w g (F_least_harm g)) :=
  t.F_least_harm.okG (k := 13) sc_least_harm lz_least_harm fun A outer s H E hr => ⟨_, dv_least_harm t (k := 13) ((ok_all_moments t tb).mono (by decide)) ((ok_fulfilled t tb).mono (by decide)) A outer s H E hr, w_least_harm⟩
theorem lz_is_proof {g : Gp} : ∀ ds S Q, F_is_proof g ds S Q → ds.length = P_is_proof.length := fun ds S Q h => by
  unfold F_is_proof at h
  split at h
  · rfl
  · exact h.elim
theorem ok_is_proof {P : Program} {w : World} {K : PySem.W.Frag} {mg : Str → Option Value} {base : Heap} {g : Gp} (t : Tx K mg g) (tb : TxB base mg t) : FnOk P w K mg base CX0 25 t.f_is_proof t.fd_is_proof P_is_proof (spD K w g (F_is_proof g)) :=
  t.F_is_proof.okG (k := 24) sc_is_proof lz_is_proof fun A outer s H E hr => ⟨_, dv_is_proof t (k := 24) ((ok_need_wished t tb).mono (by decide)) ((ok_least_harm t tb).mono (by decide)) A outer s H E hr, w_is_proof⟩
theorem lz_repeated_ends {g : Gp} : ∀ ds S Q, F_repeated_ends g ds S Q → ds.length = P_repeated_ends.length := fun ds S Q h => by
  unfold F_repeated_ends at h
  split at h
  · rfl
  · exact h.elim
theorem ok_repeated_ends {P : Program} {w : World} {K : PySem.W.Frag} {mg : Str → Option Value} {base : Heap} {g : Gp} (t : Tx K mg g) (tb : TxB base mg t) : FnOk P w K mg base CX0 13 t.f_repeated_ends t.fd_repeated_ends P_repeated_ends (spD K w g (F_repeated_ends g)) :=
  t.F_repeated_ends.ok (k := 12) sc_repeated_ends lz_repeated_ends fun A outer s H E hr => ⟨_, dv_repeated_ends t (k := 12) ((ok_first_terms t tb).mono (by decide)) ((ok_done t tb).mono (by decide)) A outer s H E hr, w_repeated_ends⟩
theorem lz_is_repeat_proof {g : Gp} : ∀ ds S Q, F_is_repeat_proof g ds S Q → ds.length = P_is_repeat_proof.length := fun ds S Q h => by
  unfold F_is_repeat_proof at h
  split at h
  · rfl
  · exact h.elim
theorem ok_is_repeat_proof {P : Program} {w : World} {K : PySem.W.Frag} {mg : Str → Option Value} {base : Heap} {g : Gp} (t : Tx K mg g) (tb : TxB base mg t) : FnOk P w K mg base CX0 26 t.f_is_repeat_proof t.fd_is_repeat_proof P_is_repeat_proof (spD K w g (F_is_repeat_proof g)) :=
  t.F_is_repeat_proof.okG (k := 25) sc_is_repeat_proof lz_is_repeat_proof fun A outer s H E hr => ⟨_, dv_is_repeat_proof t tb (k := 24) ((ok_need_wished t tb).mono (by decide)) ((ok_repeated_ends t tb).mono (by decide)) ((ok_fulfilled t tb).mono (by decide)) A outer s H E hr, w_is_repeat_proof⟩
theorem lz_parts_of {d : Nat} {g : Gp} : ∀ ds S Q, F_parts_ofN d g ds S Q → ds.length = P_parts_of.length := fun ds S Q h => by
  unfold F_parts_ofN at h
  split at h
  · rfl
  · exact h.elim
theorem no_parts_of {P : Program} {w : World} {K : PySem.W.Frag} {mg : Str → Option Value} {base : Heap} {g : Gp} (t : Tx K mg g) (tb : TxB base mg t) : FnOk P w K mg base CX0 1 t.f_parts_of t.fd_parts_of P_parts_of (spD K w g fun _ _ _ => False) := t.F_parts_of.ok (k := 0) sc_parts_of (fun _ _ _ h => h.elim) fun A outer s H E hr => ⟨bNever, dss_never, fun _ _ _ h => h.elim⟩
theorem ok_parts_ofN {P : Program} {w : World} {K : PySem.W.Frag} {mg : Str → Option Value} {base : Heap} {g : Gp} (t : Tx K mg g) (tb : TxB base mg t) : ∀ d : Nat, FnOk P w K mg base CX0 (2 + 1 * d) t.f_parts_of t.fd_parts_of P_parts_of (spD K w g (F_parts_ofN d g))
  | 0 => by
    have G : FnOk P w K mg base CX0 1 t.f_parts_of t.fd_parts_of P_parts_of (spD K w g fun _ _ _ => False) := (no_parts_of t tb).mono (by decide)
    exact t.F_parts_of.okG (k := 1) sc_parts_of lz_parts_of fun A outer s H E hr => ⟨_, dv_parts_of t (k := 1) G A outer s H E hr, w_parts_of0⟩
  | d + 1 => by
    have G := ok_parts_ofN (P := P) (w := w) t tb d
    exact (t.F_parts_of.okG (k := 2 + 1 * d) sc_parts_of lz_parts_of fun A outer s H E hr => ⟨_, dv_parts_of t (k := 2 + 1 * d) G A outer s H E hr, w_parts_of⟩).mono (by omega)
theorem ok_parts_of {P : Program} {w : World} {K : PySem.W.Frag} {mg : Str → Option Value} {base : Heap} {g : Gp} (t : Tx K mg g) (tb : TxB base mg t) : FnOk P w K mg base CX0 10 t.f_parts_of t.fd_parts_of P_parts_of (spD K w g (F_parts_of g)) := ok_parts_ofN t tb 8
theorem lz_all_parts {g : Gp} : ∀ ds S Q, F_all_parts g ds S Q → ds.length = P_all_parts.length := fun ds S Q h => by
  unfold F_all_parts at h
  split at h
  · rfl
  · exact h.elim
theorem ok_all_parts {P : Program} {w : World} {K : PySem.W.Frag} {mg : Str → Option Value} {base : Heap} {g : Gp} (t : Tx K mg g) (tb : TxB base mg t) : FnOk P w K mg base CX0 11 t.f_all_parts t.fd_all_parts P_all_parts (spD K w g (F_all_parts g)) :=
  t.F_all_parts.okG (k := 10) sc_all_parts lz_all_parts fun A outer s H E hr => ⟨_, dv_all_parts t (k := 10) ((ok_parts_of t tb).mono (by decide)) A outer s H E hr, w_all_parts⟩
theorem lz_all_lines {g : Gp} : ∀ ds S Q, F_all_lines g ds S Q → ds.length = P_all_lines.length := fun ds S Q h => by
  unfold F_all_lines at h
  split at h
  · rfl
  · exact h.elim
theorem ok_all_lines {P : Program} {w : World} {K : PySem.W.Frag} {mg : Str → Option Value} {base : Heap} {g : Gp} (t : Tx K mg g) (tb : TxB base mg t) : FnOk P w K mg base CX0 1 t.f_all_lines t.fd_all_lines P_all_lines (spD K w g (F_all_lines g)) :=
  t.F_all_lines.ok (k := 0) sc_all_lines lz_all_lines fun A outer s H E hr => ⟨_, dv_all_lines t (k := 0)  A outer s H E hr, w_all_lines⟩
theorem lz_S_init {g : Gp} : ∀ ds S Q, F_S_init g ds S Q → ds.length = P_S_init.length := fun ds S Q h => by
  unfold F_S_init at h
  split at h
  · rfl
  · exact h.elim
theorem ok_S_init {P : Program} {w : World} {K : PySem.W.Frag} {mg : Str → Option Value} {base : Heap} {g : Gp} (t : Tx K mg g) (tb : TxB base mg t) : FnOk P w K mg base CX0 12 t.f_S_init t.fd_S_init P_S_init (spD K w g (F_S_init g)) :=
  t.F_S_init.ok (k := 11) sc_S_init lz_S_init fun A outer s H E hr => ⟨_, dv_S_init t (k := 11) ((ok_all_parts t tb).mono (by decide)) ((ok_all_lines t tb).mono (by decide)) ((ok_is_soft t tb).mono (by decide)) ((ok_first_terms t tb).mono (by decide)) A outer s H E hr, w_S_init⟩
theorem lz_S_behind {g : Gp} : ∀ ds S Q, F_S_behind g ds S Q → ds.length = P_S_behind.length := fun ds S Q h => by
  unfold F_S_behind at h
  split at h
  · rfl
  · exact h.elim
theorem ok_S_behind {P : Program} {w : World} {K : PySem.W.Frag} {mg : Str → Option Value} {base : Heap} {g : Gp} (t : Tx K mg g) (tb : TxB base mg t) : FnOk P w K mg base CX0 2 t.f_S_behind t.fd_S_behind P_S_behind (spD K w g (F_S_behind g)) :=
  t.F_S_behind.okG (k := 1) sc_S_behind lz_S_behind fun A outer s H E hr => ⟨_, dv_S_behind t tb (k := 0)  A outer s H E hr, w_S_behind⟩
theorem lz_S_shortest {g : Gp} : ∀ ds S Q, F_S_shortest g ds S Q → ds.length = P_S_shortest.length := fun ds S Q h => by
  unfold F_S_shortest at h
  split at h
  · rfl
  · exact h.elim
theorem ok_S_shortest {P : Program} {w : World} {K : PySem.W.Frag} {mg : Str → Option Value} {base : Heap} {g : Gp} (t : Tx K mg g) (tb : TxB base mg t) : FnOk P w K mg base CX0 4 t.f_S_shortest t.fd_S_shortest P_S_shortest (spD K w g (F_S_shortest g)) :=
  t.F_S_shortest.okG (k := 3) sc_S_shortest lz_S_shortest fun A outer s H E hr => ⟨_, dv_S_shortest t tb (k := 2) ((ok_S_behind t tb).mono (by decide)) A outer s H E hr, w_S_shortest⟩
theorem lz_best {g : Gp} : ∀ ds S Q, F_best g ds S Q → ds.length = P_best.length := fun ds S Q h => by
  unfold F_best at h
  split at h
  · rfl
  · exact h.elim
theorem ok_best {P : Program} {w : World} {K : PySem.W.Frag} {mg : Str → Option Value} {base : Heap} {g : Gp} (t : Tx K mg g) (tb : TxB base mg t) : FnOk P w K mg base CX0 14 t.f_best t.fd_best P_best (spD K w g (F_best g)) :=
  t.F_best.okG (k := 13) sc_best lz_best fun A outer s H E hr => ⟨_, dv_best t (k := 12) ((ok_S_init t tb).mono (by decide)) ((ok_S_shortest t tb).mono (by decide)) A outer s H E hr, w_best⟩
theorem lz_need_both {g : Gp} : ∀ ds S Q, F_need_both g ds S Q → ds.length = P_need_both.length := fun ds S Q h => by
  unfold F_need_both at h
  split at h
  · rfl
  · exact h.elim
theorem ok_need_both {P : Program} {w : World} {K : PySem.W.Frag} {mg : Str → Option Value} {base : Heap} {g : Gp} (t : Tx K mg g) (tb : TxB base mg t) : FnOk P w K mg base CX0 24 t.f_need_both t.fd_need_both P_need_both (spD K w g (F_need_both g)) :=
  t.F_need_both.okG (k := 23) sc_need_both lz_need_both fun A outer s H E hr => ⟨_, dv_need_both t (k := 23) ((ok_need_machine t tb).mono (by decide)) ((ok_need_wishes t tb).mono (by decide)) A outer s H E hr, w_need_both⟩
theorem lz_shortest_gentle {g : Gp} : ∀ ds S Q, F_shortest_gentle g ds S Q → ds.length = P_shortest_gentle.length := fun ds S Q h => by
  unfold F_shortest_gentle at h
  split at h
  · rfl
  · exact h.elim
theorem ok_shortest_gentle {P : Program} {w : World} {K : PySem.W.Frag} {mg : Str → Option Value} {base : Heap} {g : Gp} (t : Tx K mg g) (tb : TxB base mg t) : FnOk P w K mg base CX0 25 t.f_shortest_gentle t.fd_shortest_gentle P_shortest_gentle (spD K w g (F_shortest_gentle g)) :=
  t.F_shortest_gentle.okG (k := 24) sc_shortest_gentle lz_shortest_gentle fun A outer s H E hr => ⟨_, dv_shortest_gentle t (k := 24) ((ok_need_both t tb).mono (by decide)) ((ok_best t tb).mono (by decide)) A outer s H E hr, w_shortest_gentle⟩
theorem lz_can_be_proof {g : Gp} : ∀ ds S Q, F_can_be_proof g ds S Q → ds.length = P_can_be_proof.length := fun ds S Q h => by
  unfold F_can_be_proof at h
  split at h
  · rfl
  · exact h.elim
theorem ok_can_be_proof {P : Program} {w : World} {K : PySem.W.Frag} {mg : Str → Option Value} {base : Heap} {g : Gp} (t : Tx K mg g) (tb : TxB base mg t) : FnOk P w K mg base CX0 25 t.f_can_be_proof t.fd_can_be_proof P_can_be_proof (spD K w g (F_can_be_proof g)) :=
  t.F_can_be_proof.okG (k := 24) sc_can_be_proof lz_can_be_proof fun A outer s H E hr => ⟨_, dv_can_be_proof t (k := 24) ((ok_need_both t tb).mono (by decide)) ((ok_best t tb).mono (by decide)) A outer s H E hr, w_can_be_proof⟩
theorem lz_written {g : Gp} : ∀ ds S Q, F_written g ds S Q → ds.length = P_written.length := fun ds S Q h => by
  unfold F_written at h
  split at h
  · rfl
  · exact h.elim
theorem ok_written {P : Program} {w : World} {K : PySem.W.Frag} {mg : Str → Option Value} {base : Heap} {g : Gp} (t : Tx K mg g) (tb : TxB base mg t) : FnOk P w K mg base CX0 1 t.f_written t.fd_written P_written (spD K w g (F_written g)) :=
  t.F_written.okG (k := 0) sc_written lz_written fun A outer s H E hr => ⟨_, dv_written t (k := 0)  A outer s H E hr, w_written⟩
theorem lz_proofed {g : Gp} : ∀ ds S Q, F_proofed g ds S Q → ds.length = P_proofed.length := fun ds S Q h => by
  unfold F_proofed at h
  split at h
  · rfl
  · exact h.elim
theorem ok_proofed {P : Program} {w : World} {K : PySem.W.Frag} {mg : Str → Option Value} {base : Heap} {g : Gp} (t : Tx K mg g) (tb : TxB base mg t) : FnOk P w K mg base CX0 5 t.f_proofed t.fd_proofed P_proofed (spD K w g (F_proofed g)) :=
  t.F_proofed.okG (k := 4) sc_proofed lz_proofed fun A outer s H E hr => ⟨_, dv_proofed t (k := 4) ((ok_need_machine t tb).mono (by decide)) ((ok_need_program t tb).mono (by decide)) ((ok_need_many t tb).mono (by decide)) ((ok_written t tb).mono (by decide)) A outer s H E hr, w_proofed⟩
theorem lz_Ltaken {g : Gp} : ∀ ds S Q, F_Ltaken g ds S Q → ds.length = P_Ltaken.length := fun ds S Q h => by
  unfold F_Ltaken at h
  split at h
  · rfl
  · exact h.elim
theorem ok_Ltaken {P : Program} {w : World} {K : PySem.W.Frag} {mg : Str → Option Value} {base : Heap} {g : Gp} (t : Tx K mg g) (tb : TxB base mg t) : FnOk P w K mg base CX0 1 t.f_Ltaken t.fd_Ltaken P_Ltaken (spD K w g (F_Ltaken g)) :=
  t.F_Ltaken.okG (k := 0) sc_Ltaken lz_Ltaken fun A outer s H E hr => ⟨_, dv_Ltaken t (k := 0)  A outer s H E hr, w_Ltaken⟩
theorem lz_Lmachine {g : Gp} : ∀ ds S Q, F_Lmachine g ds S Q → ds.length = P_Lmachine.length := fun ds S Q h => by
  unfold F_Lmachine at h
  split at h
  · rfl
  · exact h.elim
theorem ok_Lmachine {P : Program} {w : World} {K : PySem.W.Frag} {mg : Str → Option Value} {base : Heap} {g : Gp} (t : Tx K mg g) (tb : TxB base mg t) : FnOk P w K mg base CX0 2 t.f_Lmachine t.fd_Lmachine P_Lmachine (spD K w g (F_Lmachine g)) :=
  t.F_Lmachine.okG (k := 1) sc_Lmachine lz_Lmachine fun A outer s H E hr => ⟨_, dv_Lmachine t (k := 1) ((ok_Ltaken t tb).mono (by decide)) A outer s H E hr, w_Lmachine⟩
theorem lz_Ldid {g : Gp} : ∀ ds S Q, F_Ldid g ds S Q → ds.length = P_Ldid.length := fun ds S Q h => by
  unfold F_Ldid at h
  split at h
  · rfl
  · exact h.elim
theorem ok_Ldid {P : Program} {w : World} {K : PySem.W.Frag} {mg : Str → Option Value} {base : Heap} {g : Gp} (t : Tx K mg g) (tb : TxB base mg t) : FnOk P w K mg base CX0 1 t.f_Ldid t.fd_Ldid P_Ldid (spD K w g (F_Ldid g)) :=
  t.F_Ldid.okG (k := 0) sc_Ldid lz_Ldid fun A outer s H E hr => ⟨_, dv_Ldid t (k := 0)  A outer s H E hr, w_Ldid⟩
theorem lz_Ldeep {d : Nat} {g : Gp} : ∀ ds S Q, F_LdeepN d g ds S Q → ds.length = P_Ldeep.length := fun ds S Q h => by
  unfold F_LdeepN at h
  split at h
  · rfl
  · exact h.elim
theorem no_Ldeep {P : Program} {w : World} {K : PySem.W.Frag} {mg : Str → Option Value} {base : Heap} {g : Gp} (t : Tx K mg g) (tb : TxB base mg t) : FnOk P w K mg base CX0 1 t.f_Ldeep t.fd_Ldeep P_Ldeep (spD K w g fun _ _ _ => False) := t.F_Ldeep.ok (k := 0) sc_Ldeep (fun _ _ _ h => h.elim) fun A outer s H E hr => ⟨bNever, dss_never, fun _ _ _ h => h.elim⟩
theorem ok_LdeepN {P : Program} {w : World} {K : PySem.W.Frag} {mg : Str → Option Value} {base : Heap} {g : Gp} (t : Tx K mg g) (tb : TxB base mg t) : ∀ d : Nat, FnOk P w K mg base CX0 (2 + 1 * d) t.f_Ldeep t.fd_Ldeep P_Ldeep (spD K w g (F_LdeepN d g))
  | 0 => by
    have G : FnOk P w K mg base CX0 1 t.f_Ldeep t.fd_Ldeep P_Ldeep (spD K w g fun _ _ _ => False) := (no_Ldeep t tb).mono (by decide)
    exact t.F_Ldeep.okG (k := 1) sc_Ldeep lz_Ldeep fun A outer s H E hr => ⟨_, dv_Ldeep t (k := 1) G A outer s H E hr, w_Ldeep0⟩
  | d + 1 => by
    have G := ok_LdeepN (P := P) (w := w) t tb d
    exact (t.F_Ldeep.okG (k := 2 + 1 * d) sc_Ldeep lz_Ldeep fun A outer s H E hr => ⟨_, dv_Ldeep t (k := 2 + 1 * d) G A outer s H E hr, w_Ldeep⟩).mono (by omega)
theorem ok_Ldeep {P : Program} {w : World} {K : PySem.W.Frag} {mg : Str → Option Value} {base : Heap} {g : Gp} (t : Tx K mg g) (tb : TxB base mg t) : FnOk P w K mg base CX0 11 t.f_Ldeep t.fd_Ldeep P_Ldeep (spD K w g (F_Ldeep g)) := ok_LdeepN t tb 9
theorem lz_Ltame {g : Gp} : ∀ ds S Q, F_Ltame g ds S Q → ds.length = P_Ltame.length := fun ds S Q h => by
  unfold F_Ltame at h
  split at h
  · rfl
  · exact h.elim
theorem ok_Ltame {P : Program} {w : World} {K : PySem.W.Frag} {mg : Str → Option Value} {base : Heap} {g : Gp} (t : Tx K mg g) (tb : TxB base mg t) : FnOk P w K mg base CX0 12 t.f_Ltame t.fd_Ltame P_Ltame (spD K w g (F_Ltame g)) :=
  t.F_Ltame.okG (k := 11) sc_Ltame lz_Ltame fun A outer s H E hr => ⟨_, dv_Ltame t (k := 11) ((ok_Ldid t tb).mono (by decide)) ((ok_Ldeep t tb).mono (by decide)) A outer s H E hr, w_Ltame⟩
theorem lz_Levery_line {g : Gp} : ∀ ds S Q, F_Levery_line g ds S Q → ds.length = P_Levery_line.length := fun ds S Q h => by
  unfold F_Levery_line at h
  split at h
  · rfl
  · exact h.elim
theorem ok_Levery_line {P : Program} {w : World} {K : PySem.W.Frag} {mg : Str → Option Value} {base : Heap} {g : Gp} (t : Tx K mg g) (tb : TxB base mg t) : FnOk P w K mg base CX0 1 t.f_Levery_line t.fd_Levery_line P_Levery_line (spD K w g (F_Levery_line g)) :=
  t.F_Levery_line.ok (k := 0) sc_Levery_line lz_Levery_line fun A outer s H E hr => ⟨_, dv_Levery_line t (k := 0)  A outer s H E hr, w_Levery_line⟩
theorem lz_Lpick {g : Gp} : ∀ ds S Q, F_Lpick g ds S Q → ds.length = P_Lpick.length := fun ds S Q h => by
  unfold F_Lpick at h
  split at h
  · rfl
  · exact h.elim
theorem ok_Lpick {P : Program} {w : World} {K : PySem.W.Frag} {mg : Str → Option Value} {base : Heap} {g : Gp} (t : Tx K mg g) (tb : TxB base mg t) : FnOk P w K mg base CX0 2 t.f_Lpick t.fd_Lpick P_Lpick (spD K w g (F_Lpick g)) :=
  t.F_Lpick.okG (k := 1) sc_Lpick lz_Lpick fun A outer s H E hr => ⟨_, dv_Lpick t (k := 1) ((ok_Ltaken t tb).mono (by decide)) A outer s H E hr, w_Lpick⟩
theorem lz_Lprogram {g : Gp} : ∀ ds S Q, F_Lprogram g ds S Q → ds.length = P_Lprogram.length := fun ds S Q h => by
  unfold F_Lprogram at h
  split at h
  · rfl
  · exact h.elim
theorem ok_Lprogram {P : Program} {w : World} {K : PySem.W.Frag} {mg : Str → Option Value} {base : Heap} {g : Gp} (t : Tx K mg g) (tb : TxB base mg t) : FnOk P w K mg base CX0 3 t.f_Lprogram t.fd_Lprogram P_Lprogram (spD K w g (F_Lprogram g)) :=
  t.F_Lprogram.okG (k := 2) sc_Lprogram lz_Lprogram fun A outer s H E hr => ⟨_, dv_Lprogram t (k := 2) ((ok_Levery_line t tb).mono (by decide)) ((ok_Ltaken t tb).mono (by decide)) ((ok_Lpick t tb).mono (by decide)) A outer s H E hr, w_Lprogram⟩
theorem lz_Lran {g : Gp} : ∀ ds S Q, F_Lran g ds S Q → ds.length = P_Lran.length := fun ds S Q h => by
  unfold F_Lran at h
  split at h
  · rfl
  · exact h.elim
theorem ok_Lran {P : Program} {w : World} {K : PySem.W.Frag} {mg : Str → Option Value} {base : Heap} {g : Gp} (t : Tx K mg g) (tb : TxB base mg t) : FnOk P w K mg base CX0 12 t.f_Lran t.fd_Lran P_Lran (spD K w g (F_Lran g)) :=
  t.F_Lran.okG (k := 11) sc_Lran lz_Lran fun A outer s H E hr => ⟨_, dv_Lran t (k := 11) ((ok_Ldid t tb).mono (by decide)) ((ok_Ldeep t tb).mono (by decide)) A outer s H E hr, w_Lran⟩
theorem lz_Lwishes {g : Gp} : ∀ ds S Q, F_Lwishes g ds S Q → ds.length = P_Lwishes.length := fun ds S Q h => by
  unfold F_Lwishes at h
  split at h
  · rfl
  · exact h.elim
theorem ok_Lwishes {P : Program} {w : World} {K : PySem.W.Frag} {mg : Str → Option Value} {base : Heap} {g : Gp} (t : Tx K mg g) (tb : TxB base mg t) : FnOk P w K mg base CX0 13 t.f_Lwishes t.fd_Lwishes P_Lwishes (spD K w g (F_Lwishes g)) :=
  t.F_Lwishes.okG (k := 12) sc_Lwishes lz_Lwishes fun A outer s H E hr => ⟨_, dv_Lwishes t (k := 12) ((ok_Ltaken t tb).mono (by decide)) ((ok_Lprogram t tb).mono (by decide)) ((ok_Ltame t tb).mono (by decide)) ((ok_Lran t tb).mono (by decide)) ((ok_Lpick t tb).mono (by decide)) A outer s H E hr, w_Lwishes⟩
theorem lz_Lparts {g : Gp} : ∀ ds S Q, F_Lparts g ds S Q → ds.length = P_Lparts.length := fun ds S Q h => by
  unfold F_Lparts at h
  split at h
  · rfl
  · exact h.elim
theorem ok_Lparts {P : Program} {w : World} {K : PySem.W.Frag} {mg : Str → Option Value} {base : Heap} {g : Gp} (t : Tx K mg g) (tb : TxB base mg t) : FnOk P w K mg base CX0 1 t.f_Lparts t.fd_Lparts P_Lparts (spD K w g (F_Lparts g)) :=
  t.F_Lparts.okG (k := 0) sc_Lparts lz_Lparts fun A outer s H E hr => ⟨_, dv_Lparts t (k := 0)  A outer s H E hr, w_Lparts⟩
theorem lz_Lfewest {g : Gp} : ∀ ds S Q, F_Lfewest g ds S Q → ds.length = P_Lfewest.length := fun ds S Q h => by
  unfold F_Lfewest at h
  split at h
  · rfl
  · exact h.elim
theorem ok_Lfewest {P : Program} {w : World} {K : PySem.W.Frag} {mg : Str → Option Value} {base : Heap} {g : Gp} (t : Tx K mg g) (tb : TxB base mg t) : FnOk P w K mg base CX0 2 t.f_Lfewest t.fd_Lfewest P_Lfewest (spD K w g (F_Lfewest g)) :=
  t.F_Lfewest.okG (k := 1) sc_Lfewest lz_Lfewest fun A outer s H E hr => ⟨_, dv_Lfewest t (k := 1) ((ok_Lparts t tb).mono (by decide)) ((ok_Levery_line t tb).mono (by decide)) ((ok_Ldid t tb).mono (by decide)) A outer s H E hr, w_Lfewest⟩
theorem lz_Lalike {g : Gp} : ∀ ds S Q, F_Lalike g ds S Q → ds.length = P_Lalike.length := fun ds S Q h => by
  unfold F_Lalike at h
  split at h
  · rfl
  · exact h.elim
theorem no_Lalike {P : Program} {w : World} {K : PySem.W.Frag} {mg : Str → Option Value} {base : Heap} {g : Gp} (t : Tx K mg g) (tb : TxB base mg t) : FnOk P w K mg base CX0 1 t.f_Lalike t.fd_Lalike P_Lalike (spD K w g fun _ _ _ => False) := t.F_Lalike.ok (k := 0) sc_Lalike (fun _ _ _ h => h.elim) fun A outer s H E hr => ⟨bNever, dss_never, fun _ _ _ h => h.elim⟩
theorem ok_Lalike {P : Program} {w : World} {K : PySem.W.Frag} {mg : Str → Option Value} {base : Heap} {g : Gp} (t : Tx K mg g) (tb : TxB base mg t) : FnOk P w K mg base CX0 2 t.f_Lalike t.fd_Lalike P_Lalike (spD K w g (F_Lalike g)) :=
  t.F_Lalike.okG (k := 1) sc_Lalike lz_Lalike fun A outer s H E hr => ⟨_, dv_Lalike t (k := 1) ((no_Lalike t tb).mono (by decide)) A outer s H E hr, w_Lalike⟩
theorem lz_Ltimes {g : Gp} : ∀ ds S Q, F_Ltimes g ds S Q → ds.length = P_Ltimes.length := fun ds S Q h => by
  unfold F_Ltimes at h
  split at h
  · rfl
  · exact h.elim
theorem ok_Ltimes {P : Program} {w : World} {K : PySem.W.Frag} {mg : Str → Option Value} {base : Heap} {g : Gp} (t : Tx K mg g) (tb : TxB base mg t) : FnOk P w K mg base CX0 1 t.f_Ltimes t.fd_Ltimes P_Ltimes (spD K w g (F_Ltimes g)) :=
  t.F_Ltimes.okG (k := 0) sc_Ltimes lz_Ltimes fun A outer s H E hr => ⟨_, dv_Ltimes t (k := 0)  A outer s H E hr, w_Ltimes⟩
theorem lz_Levery_loss {g : Gp} : ∀ ds S Q, F_Levery_loss g ds S Q → ds.length = P_Levery_loss.length := fun ds S Q h => by
  unfold F_Levery_loss at h
  split at h
  · rfl
  · exact h.elim
theorem ok_Levery_loss {P : Program} {w : World} {K : PySem.W.Frag} {mg : Str → Option Value} {base : Heap} {g : Gp} (t : Tx K mg g) (tb : TxB base mg t) : FnOk P w K mg base CX0 1 t.f_Levery_loss t.fd_Levery_loss P_Levery_loss (spD K w g (F_Levery_loss g)) :=
  t.F_Levery_loss.ok (k := 0) sc_Levery_loss lz_Levery_loss fun A outer s H E hr => ⟨_, dv_Levery_loss t (k := 0)  A outer s H E hr, w_Levery_loss⟩
theorem lz_Lshown {g : Gp} : ∀ ds S Q, F_Lshown g ds S Q → ds.length = P_Lshown.length := fun ds S Q h => by
  unfold F_Lshown at h
  split at h
  · rfl
  · exact h.elim
theorem ok_Lshown {P : Program} {w : World} {K : PySem.W.Frag} {mg : Str → Option Value} {base : Heap} {g : Gp} (t : Tx K mg g) (tb : TxB base mg t) : FnOk P w K mg base CX0 2 t.f_Lshown t.fd_Lshown P_Lshown (spD K w g (F_Lshown g)) :=
  t.F_Lshown.okG (k := 1) sc_Lshown lz_Lshown fun A outer s H E hr => ⟨_, dv_Lshown t (k := 1) ((ok_Ldid t tb).mono (by decide)) A outer s H E hr, w_Lshown⟩
-- levels: is_number 1 need_machine 3 is_line 3 need_program 4 is_soft 1 depth 11 is_term 21 first_terms 1 done 12 need_many 2 keep 1 all_moments 13 is_wish 22 need_wishes 23 fulfilled 2 need_wished 24 least_harm 14 is_proof 25 repeated_ends 13 is_repeat_proof 26 parts_of 10 all_parts 11 all_lines 1 S_init 12 S_behind 2 S_shortest 4 best 14 need_both 24 shortest_gentle 25 can_be_proof 25 written 1 proofed 5 Ltaken 1 Lmachine 2 Ldid 1 Ldeep 11 Ltame 12 Levery_line 1 Lpick 2 Lprogram 3 Lran 12 Lwishes 13 Lparts 1 Lfewest 2 Lalike 2 Ltimes 1 Levery_loss 1 Lshown 2
end L2.LL

/-! # LLH1 -/
set_option Elab.async false
set_option linter.all false
set_option maxRecDepth 100000
set_option maxHeartbeats 0
namespace L2.LL
open PySem PySem.Spec PyProof.Rows
abbrev h_is_number : He.DefD := ⟨("is_number", none), "is_number", "is_number", defArgs s_is_number, defBody s_is_number, defScope s_is_number, [], []⟩
abbrev h_need_machine : He.DefD := ⟨("need_machine", none), "need_machine", "need_machine", defArgs s_need_machine, defBody s_need_machine, defScope s_need_machine, [], []⟩
abbrev h_is_line : He.DefD := ⟨("is_line", none), "is_line", "is_line", defArgs s_is_line, defBody s_is_line, defScope s_is_line, [], []⟩
abbrev h_need_program : He.DefD := ⟨("need_program", none), "need_program", "need_program", defArgs s_need_program, defBody s_need_program, defScope s_need_program, [], []⟩
abbrev h_is_soft : He.DefD := ⟨("is_soft", none), "is_soft", "is_soft", defArgs s_is_soft, defBody s_is_soft, defScope s_is_soft, [], []⟩
abbrev h_depth : He.DefD := ⟨("depth", none), "depth", "depth", defArgs s_depth, defBody s_depth, defScope s_depth, [], []⟩
abbrev h_is_term : He.DefD := ⟨("is_term", none), "is_term", "is_term", defArgs s_is_term, defBody s_is_term, defScope s_is_term, [.int 8], []⟩
abbrev h_first_terms : He.DefD := ⟨("first_terms", none), "first_terms", "first_terms", defArgs s_first_terms, defBody s_first_terms, defScope s_first_terms, [], []⟩
abbrev h_done : He.DefD := ⟨("done", none), "done", "done", defArgs s_done, defBody s_done, defScope s_done, [], []⟩
abbrev h_need_many : He.DefD := ⟨("need_many", none), "need_many", "need_many", defArgs s_need_many, defBody s_need_many, defScope s_need_many, [], []⟩
abbrev h_all_moments : He.DefD := ⟨("all_moments", none), "all_moments", "all_moments", defArgs s_all_moments, defBody s_all_moments, defScope s_all_moments, [], []⟩
abbrev h_keep : He.DefD := ⟨("keep", none), "keep", "keep", defArgs s_keep, defBody s_keep, defScope s_keep, [], []⟩
abbrev h_is_wish : He.DefD := ⟨("is_wish", none), "is_wish", "is_wish", defArgs s_is_wish, defBody s_is_wish, defScope s_is_wish, [], []⟩
abbrev h_need_wishes : He.DefD := ⟨("need_wishes", none), "need_wishes", "need_wishes", defArgs s_need_wishes, defBody s_need_wishes, defScope s_need_wishes, [], []⟩
abbrev h_fulfilled : He.DefD := ⟨("fulfilled", none), "fulfilled", "fulfilled", defArgs s_fulfilled, defBody s_fulfilled, defScope s_fulfilled, [], []⟩
abbrev h_need_wished : He.DefD := ⟨("need_wished", none), "need_wished", "need_wished", defArgs s_need_wished, defBody s_need_wished, defScope s_need_wished, [], []⟩
abbrev h_least_harm : He.DefD := ⟨("least_harm", none), "least_harm", "least_harm", defArgs s_least_harm, defBody s_least_harm, defScope s_least_harm, [], []⟩
abbrev h_is_proof : He.DefD := ⟨("is_proof", none), "is_proof", "is_proof", defArgs s_is_proof, defBody s_is_proof, defScope s_is_proof, [], []⟩
abbrev h_repeated_ends : He.DefD := ⟨("repeated_ends", none), "repeated_ends", "repeated_ends", defArgs s_repeated_ends, defBody s_repeated_ends, defScope s_repeated_ends, [], []⟩
abbrev h_is_repeat_proof : He.DefD := ⟨("is_repeat_proof", none), "is_repeat_proof", "is_repeat_proof", defArgs s_is_repeat_proof, defBody s_is_repeat_proof, defScope s_is_repeat_proof, [], []⟩
abbrev h_parts_of : He.DefD := ⟨("parts_of", none), "parts_of", "parts_of", defArgs s_parts_of, defBody s_parts_of, defScope s_parts_of, [], []⟩
abbrev h_all_parts : He.DefD := ⟨("all_parts", none), "all_parts", "all_parts", defArgs s_all_parts, defBody s_all_parts, defScope s_all_parts, [], []⟩
abbrev h_all_lines : He.DefD := ⟨("all_lines", none), "all_lines", "all_lines", defArgs s_all_lines, defBody s_all_lines, defScope s_all_lines, [], []⟩
abbrev h_S_init : He.DefD := ⟨("Search", some "__init__"), "__init__", "Search.__init__", defArgs s_S_init, defBody s_S_init, defScope s_S_init, [], []⟩
abbrev h_S_behind : He.DefD := ⟨("Search", some "behind"), "behind", "Search.behind", defArgs s_S_behind, defBody s_S_behind, defScope s_S_behind, [], []⟩
abbrev h_S_shortest : He.DefD := ⟨("Search", some "shortest"), "shortest", "Search.shortest", defArgs s_S_shortest, defBody s_S_shortest, defScope s_S_shortest, [], []⟩
abbrev h_best : He.DefD := ⟨("best", none), "best", "best", defArgs s_best, defBody s_best, defScope s_best, [], []⟩
abbrev h_need_both : He.DefD := ⟨("need_both", none), "need_both", "need_both", defArgs s_need_both, defBody s_need_both, defScope s_need_both, [], []⟩
abbrev h_shortest_gentle : He.DefD := ⟨("shortest_gentle", none), "shortest_gentle", "shortest_gentle", defArgs s_shortest_gentle, defBody s_shortest_gentle, defScope s_shortest_gentle, [], []⟩
abbrev h_can_be_proof : He.DefD := ⟨("can_be_proof", none), "can_be_proof", "can_be_proof", defArgs s_can_be_proof, defBody s_can_be_proof, defScope s_can_be_proof, [], []⟩
abbrev h_written : He.DefD := ⟨("written", none), "written", "written", defArgs s_written, defBody s_written, defScope s_written, [], []⟩
abbrev h_proofed : He.DefD := ⟨("proofed", none), "proofed", "proofed", defArgs s_proofed, defBody s_proofed, defScope s_proofed, [], []⟩
abbrev h_proof_program : He.DefD := ⟨("proof_program", none), "proof_program", "proof_program", defArgs s_proof_program, defBody s_proof_program, defScope s_proof_program, [], []⟩
abbrev h_Ltaken : He.DefD := ⟨("_law_taken", none), "_law_taken", "_law_taken", defArgs s_Ltaken, defBody s_Ltaken, defScope s_Ltaken, [], []⟩
abbrev h_Lmachine : He.DefD := ⟨("_law_machine", none), "_law_machine", "_law_machine", defArgs s_Lmachine, defBody s_Lmachine, defScope s_Lmachine, [], []⟩
abbrev h_Ldid : He.DefD := ⟨("_law_did", none), "_law_did", "_law_did", defArgs s_Ldid, defBody s_Ldid, defScope s_Ldid, [], []⟩
abbrev h_Ldeep : He.DefD := ⟨("_law_deep", none), "_law_deep", "_law_deep", defArgs s_Ldeep, defBody s_Ldeep, defScope s_Ldeep, [], []⟩
abbrev h_Ltame : He.DefD := ⟨("_law_tame", none), "_law_tame", "_law_tame", defArgs s_Ltame, defBody s_Ltame, defScope s_Ltame, [], []⟩
abbrev h_Levery_line : He.DefD := ⟨("_law_every_line", none), "_law_every_line", "_law_every_line", defArgs s_Levery_line, defBody s_Levery_line, defScope s_Levery_line, [], []⟩
abbrev h_Lpick : He.DefD := ⟨("_law_pick", none), "_law_pick", "_law_pick", defArgs s_Lpick, defBody s_Lpick, defScope s_Lpick, [], []⟩
abbrev h_Lprogram : He.DefD := ⟨("_law_program", none), "_law_program", "_law_program", defArgs s_Lprogram, defBody s_Lprogram, defScope s_Lprogram, [], []⟩
abbrev h_Lran : He.DefD := ⟨("_law_ran", none), "_law_ran", "_law_ran", defArgs s_Lran, defBody s_Lran, defScope s_Lran, [], []⟩
abbrev h_Lwishes : He.DefD := ⟨("_law_wishes", none), "_law_wishes", "_law_wishes", defArgs s_Lwishes, defBody s_Lwishes, defScope s_Lwishes, [], []⟩
abbrev h_Lparts : He.DefD := ⟨("_law_parts", none), "_law_parts", "_law_parts", defArgs s_Lparts, defBody s_Lparts, defScope s_Lparts, [], []⟩
abbrev h_Lfewest : He.DefD := ⟨("_law_fewest", none), "_law_fewest", "_law_fewest", defArgs s_Lfewest, defBody s_Lfewest, defScope s_Lfewest, [], []⟩
abbrev h_Lalike : He.DefD := ⟨("_law_alike", none), "_law_alike", "_law_alike", defArgs s_Lalike, defBody s_Lalike, defScope s_Lalike, [], []⟩
abbrev h_Ltold : He.DefD := ⟨("_law_told", none), "_law_told", "_law_told", defArgs s_Ltold, defBody s_Ltold, defScope s_Ltold, [], []⟩
abbrev h_Ltimes : He.DefD := ⟨("_law_times", none), "_law_times", "_law_times", defArgs s_Ltimes, defBody s_Ltimes, defScope s_Ltimes, [], []⟩
abbrev h_Levery_loss : He.DefD := ⟨("_law_every_loss", none), "_law_every_loss", "_law_every_loss", defArgs s_Levery_loss, defBody s_Levery_loss, defScope s_Levery_loss, [], []⟩
abbrev h_Lshown : He.DefD := ⟨("_law_shown", none), "_law_shown", "_law_shown", defArgs s_Lshown, defBody s_Lshown, defScope s_Lshown, [], []⟩
abbrev h_law : He.DefD := ⟨("law", none), "law", "law", defArgs s_law, defBody s_law, defScope s_law, [], []⟩
abbrev h_T : He.DefD := ⟨("TooMany", some "__init__"), "__init__", "TooMany.__init__", defArgs s_T, defBody s_T, defScope s_T, [], []⟩
def hFn0 : List He.DefD := [h_is_number, h_need_machine, h_is_line, h_need_program, h_is_soft, h_depth, h_is_term, h_first_terms, h_done, h_need_many, h_all_moments, h_keep, h_is_wish, h_need_wishes, h_fulfilled, h_need_wished, h_least_harm, h_is_proof, h_repeated_ends, h_is_repeat_proof, h_parts_of, h_all_parts, h_all_lines, h_S_init, h_S_behind, h_S_shortest, h_best, h_need_both, h_shortest_gentle, h_can_be_proof]
def hFn1 : List He.DefD := [h_written, h_proofed, h_proof_program, h_Ltaken, h_Lmachine, h_Ldid, h_Ldeep, h_Ltame, h_Levery_line, h_Lpick, h_Lprogram, h_Lran, h_Lwishes, h_Lparts, h_Lfewest, h_Lalike, h_Ltold, h_Ltimes, h_Levery_loss, h_Lshown, h_law, h_T]
def hFn : List He.DefD := hFn0 ++ hFn1
def hFa0 : List He.Fa := [.glo "LinesError", .glo "NoProgram", .glo "TooMany", .glo "is_number", .glo "need_machine", .glo "is_line", .glo "need_program", .glo "is_soft", .glo "depth", .glo "is_term", .glo "first_terms", .glo "done", .glo "need_many", .glo "all_moments", .glo "keep", .glo "is_wish", .glo "need_wishes", .glo "fulfilled", .glo "need_wished", .glo "least_harm", .glo "is_proof", .glo "repeated_ends", .glo "is_repeat_proof", .glo "parts_of", .glo "all_parts", .glo "all_lines", .glo "Search", .glo "best", .glo "need_both", .glo "shortest_gentle"]
def hFa1 : List He.Fa := [.glo "can_be_proof", .glo "written", .glo "proofed", .glo "proof_program", .glo "_law_taken", .glo "_law_machine", .glo "_law_did", .glo "_law_deep", .glo "_law_tame", .glo "_law_every_line", .glo "_law_pick", .glo "_law_program", .glo "_law_ran", .glo "_law_wishes", .glo "_law_parts", .glo "_law_fewest", .glo "_law_alike", .glo "_law_told", .glo "_law_times", .glo "_law_every_loss", .glo "_law_shown", .glo "law", .free "len", .free "isinstance", .free "max", .free "int", .free "tuple", .free "list", .free "range", .free "enumerate"]
def hFa2 : List He.Fa := [.free "all", .free "any", .free "bool", .free "str", .int "MOST_CELLS" 4, .int "MOST_FUNCTIONS" 3, .int "MOST_READ" 2, .int "MOST_LINES" 60, .int "MOST_DEEP" 8, .int "MOST_LOST" 3, .int "MOST_PAIRS" 3000, .int "MOST_PARTS" 16, .int "NOTHING" (-1), .cls "Search", .mkr "Search", .meth "Search" "behind", .meth "Search" "shortest", .noat "Search" "goal", .noat "Search" "moves", .noat "Search" "parts", .noat "Search" "start", .noat "Search" "terms", .exc "NoProgram", .exm "NoProgram" "LinesError" true, .exm "TooMany" "LinesError" true, .exm "NoProgram" "NoProgram" true, .exm "TooMany" "NoProgram" false, .keep "TooMany", .keep "Search"]
def hFa : List He.Fa := hFa0 ++ hFa1 ++ hFa2
def hTf0 : List He.Defn := [("need_machine", none), ("is_line", none), ("is_term", none), ("fulfilled", none), ("is_repeat_proof", none), ("Search", some "behind"), ("Search", some "shortest"), ("law", none)]
def hTf : List He.Defn := hTf0
def hLoose0 : List Str := ["__name__", "LinesError", "BadMachine", "BadProgram", "BadWishes", "BadNumber", "NoProgram", "TooMany", "MOST_CELLS", "MOST_FUNCTIONS", "MOST_READ", "MOST_LINES", "MOST_DEEP", "is_number", "need_machine", "is_line", "need_program", "is_soft", "depth", "is_term", "first_terms", "done", "MOST_LOST", "MOST_PAIRS", "need_many", "all_moments", "keep", "is_wish", "need_wishes", "fulfilled"]
def hLoose1 : List Str := ["need_wished", "least_harm", "is_proof", "repeated_ends", "is_repeat_proof", "MOST_PARTS", "NOTHING", "parts_of", "all_parts", "all_lines", "Search", "best", "need_both", "shortest_gentle", "can_be_proof", "written", "proofed", "proof_program", "_law_taken", "_law_machine", "_law_did", "_law_deep", "_law_tame", "_law_every_line", "_law_pick", "_law_program", "_law_ran", "_law_wishes", "_law_parts", "_law_fewest"]
def hLoose2 : List Str := ["_law_alike", "_law_told", "_law_times", "_law_every_loss", "_law_shown"]
def hLoose : List Str := hLoose0 ++ hLoose1 ++ hLoose2
/-! ## more facts, of the errors' classes; the tables differ -/
def oexB (K : PySem.W.Frag) (C : Addr) : Bool := match K.lookup C with
  | some ⟨.type "type", _, .cls cd, sl⟩ => (match cd.mro with
    | .ref D :: bm => decide (D = C) && PySem.HandSPX.refsVE bm
    | _ => false) && (cd.hasDict && (!cd.hasDel && (match sl.toList with
    | [_, _, _, _, k4, _] => decide (k4 = some (.builtin "ValueError.__new__"))
    | _ => false)))
  | _ => false
theorem oexB_ok {K : PySem.W.Frag} {C : Addr} (h : oexB K C = true) : ∃ nm q N bs bm sn sub ab col dd k0 k1 k2 k3 k5, K.lookup C = some (excClassObj nm q C N bs bm true sn sub ab col dd k0 k1 k2 k3 k5 "ValueError.__new__") ∧ PySem.HandSPX.refsVE bm = true := by
  unfold oexB at h
  split at h
  · rename_i dd cd sl hl
    simp only [Bool.and_eq_true, Bool.not_eq_true'] at h
    obtain ⟨h1, h2, h3, h4⟩ := h
    split at h1
    · rename_i D bm hm
      simp only [Bool.and_eq_true, decide_eq_true_eq] at h1
      obtain ⟨rfl, hb⟩ := h1
      split at h4
      · rename_i k0 k1 k2 k3 k4 k5 hs
        have e4 := of_decide_eq_true h4
        subst e4
        obtain ⟨nm, bs, mro, ns, qn, hd, sn, sub, ab, col, del⟩ := cd
        dsimp only at hm h2 h3
        subst hm h2 h3
        obtain ⟨l⟩ := sl
        dsimp only at hs
        subst hs
        exact ⟨nm, qn, ns, bs, bm, sn, sub, ab, col, dd, k0, k1, k2, k3, k5, hl, hb⟩
      · cases h4
    · cases h1
  · cases h
def excB (K : PySem.W.Frag) (D : Addr) : Bool := He.eqO (PySem.W.findIn K (.ref D) "__getattribute__") (some (some (.builtin "BaseException.__getattribute__"))) && (He.eqO (PySem.W.findIn K (.ref D) "__getattr__") (some none) && (decide (PySem.W.subIn K (.ref D) (.type "BaseException") = some true) &&
  (PySem.W.hasDictIn K D && (He.eqO (PySem.W.findIn K (.ref D) "__class__") (some (some (.builtin "object.__class__"))) && (He.eqO (PySem.W.specialIn K (.builtin "object.__class__") "__get__") (some (some (.builtin "getset_descriptor.__get__"))) &&
  (decide (PySem.W.takesIn K (.builtin "object.__class__") = some true) && decide (PySem.W.mroIn K D (.type "object") = some true)))))))
theorem excB_ok {K : PySem.W.Frag} {D : Addr} (h : excB K D = true) : ExcC K D := by
  unfold excB at h
  simp only [Bool.and_eq_true, decide_eq_true_eq] at h
  obtain ⟨h1, h2, h3, h4, h5, h6, h7, h8⟩ := h
  exact ⟨He.eqO_ok h1, He.eqO_ok h2, h3, h4, He.eqO_ok h5, He.eqO_ok h6, h7, h8⟩
abbrev aT (K : PySem.W.Frag) : Addr := He.ga K "TooMany"
abbrev aN (K : PySem.W.Frag) : Addr := He.ga K "NoProgram"
abbrev aI (K : PySem.W.Frag) : Addr := He.fAd K ("TooMany", some "__init__")
def hEx (K : PySem.W.Frag) : Bool := oexB K (aT K) && (He.eqO (PySem.W.findIn K (.ref (aT K)) "__setattr__") (some (some (.builtin "object.__setattr__"))) && (decide (PySem.W.subIn K (.ref (aT K)) (.type "BaseException") = some true) && (decide (PySem.W.typeIn K (.ref (aT K)) = some (.type "type")) &&
  (He.eqO (PySem.W.findIn K (.ref (aT K)) "most") (some none) && (He.eqO (PySem.W.findIn K (.ref (aT K)) "__init__") (some (some (.ref (aI K)))) && (decide (PySem.W.typeIn K (.ref (aI K)) = some (.type "function")) && (excB K (aT K) && (excB K (aN K) &&
  (decide (PySem.W.kitOne K (.ref (aT K)) (.ref (aN K)) = some false) && decide ((hTf.map fun p => (He.cT K p).2).Nodup))))))))))
abbrev hR : PySem.W.OpenRow := PySem.W.OpenLaw.row PySem.Challenge.rw_lostlines_k00_whole_law
abbrev hk : PySem.W.Hook := He.hookX 4 hFa hFn [] hTf hEx
def hob (s : PySem.W.SharedT) : He.AlX := He.obsX 4 hFa hFn [] hTf hEx (HandSHeadRun.getT s)
theorem hob_eq (s : PySem.W.SharedT) : hob s = hk.obs s.abs := He.obsX_eq (HandSHeadRun.getT_eq s)
theorem hrun (w : World) : HandSHeadRun.RunEq hR (PySem.W.view hR.prog [69]) hk hob 6000 hLoose w := by
  intro os
  kernel_rfl
end L2.LL

/-! # LLH2 -/
set_option Elab.async false
set_option linter.all false
set_option maxRecDepth 100000
set_option maxHeartbeats 4000000
namespace L2.LL
open PySem PySem.Spec PyProof.Rows
/-! ## the head's facts, put together -/
theorem funC_of {K : PySem.W.Frag} {x qual : Str} {st : Stmt} {dvs : List V} {kws : List (Str × V)} {f : Addr} {fd : FuncData} (F : FunD K x qual (defArgs st) (defBody st) (defScope st) dvs kws f fd) : ∃ cdv, FunC K x qual st f fd cdv := by
  obtain ⟨oc, od, dV, kV, doc, pm, an, cdv, ct, osl, e, lk, hcd, _, _⟩ := F.ex
  exact ⟨cdv, ⟨oc, od, kV, doc, pm, an, ct, osl, dV, e, lk, hcd⟩, F.kp⟩
theorem funC_ref {K : PySem.W.Frag} {x qual : Str} {st : Stmt} {dvs : List V} {kws : List (Str × V)} {fd : FuncData} (p : Str × Option Str) (F : FunD K x qual (defArgs st) (defBody st) (defScope st) dvs kws (He.fAd K p) fd) : FunC K x qual st (He.fAd K p) fd (.ref (He.cT K p).1) := by
  obtain ⟨oc, od, dV, kV, doc, pm, an, cdv, ct, osl, e, lk, hcd, _, _⟩ := F.ex
  obtain ⟨cc, rfl⟩ := He.codeIn_ref hcd
  have ec : He.codeOf K p = cc := He.codeOf_eq lk (by rw [e])
  have e1 : (He.cT K p).1 = cc := ec
  rw [e1]
  exact ⟨⟨oc, od, kV, doc, pm, an, ct, osl, dV, e, lk, hcd⟩, F.kp⟩
abbrev hZ (K : PySem.W.Frag) : List Addr := [(He.cT K ("need_machine", none)).2, (He.cT K ("is_line", none)).2, (He.cT K ("is_term", none)).2, (He.cT K ("fulfilled", none)).2, (He.cT K ("is_repeat_proof", none)).2, (He.cT K ("Search", some "behind")).2, (He.cT K ("Search", some "shortest")).2]
abbrev hPl (K : PySem.W.Frag) : Addr := (He.cT K ("law", none)).2
abbrev hG (K : PySem.W.Frag) : Gp := ⟨hZ K, [hPl K], 0, [], He.ga K "Search"⟩
theorem mk_tx {w : World} {h : Heap} {K : PySem.W.Frag} {mg : Str → Option Value} (X : K.In h) (G : h.Ns mainGlobals mg) (c : He.SaysX hFa hFn [] hTf hEx w h K) :
    ∃ (t : Tx K mg (hG K)) (e : TxE K mg), t.pt_law = hPl K ∧ t.f_law = He.ga K "law" ∧ hPl K ∉ hZ K ∧ (∀ (s : Shared) (u : Value), BindsTo s t.fd_law ⟨[u], []⟩ [("_law_script", u)]) ∧ ∀ base : Heap, (∀ p ∈ hTf.map (He.cT K), LamX.TabB base mg p.1 p.2) → TxB base mg t := by
  have hex := c.more
  unfold hEx at hex
  simp only [Bool.and_eq_true, decide_eq_true_eq] at hex
  obtain ⟨x1, x2, x3, x4, x5, x6, x7, x8, x9, x10, x11⟩ := hex
  have nd : (hZ K ++ [hPl K]).Nodup := x11
  obtain ⟨_, _, ndj⟩ := List.nodup_append.mp nd
  have hzl : ∀ P ∈ hZ K, P ∉ [hPl K] := fun P h1 h2 => ndj P h1 P h2 rfl
  have hlz : hPl K ∉ hZ K := fun z => ndj _ z _ (List.mem_singleton.mpr rfl) rfl
  obtain ⟨fd_is_number, D_is_number⟩ := c.t.d.def_ 0 (d := h_is_number) rfl
  have b_is_number : Binds K fd_is_number P_is_number [] := D_is_number.bindsN (ps := P_is_number) fun _ _ _ _ _ _ us hl => match us, hl with | [_, _, _], _ => rfl
  obtain ⟨cd_is_number, C_is_number⟩ := funC_of (st := s_is_number) D_is_number
  obtain ⟨fd_need_machine, D_need_machine⟩ := c.t.d.def_ 1 (d := h_need_machine) rfl
  have b_need_machine : Binds K fd_need_machine P_need_machine [] := D_need_machine.bindsN (ps := P_need_machine) fun _ _ _ _ _ _ us hl => match us, hl with | [_], _ => rfl
  have C_need_machine := funC_ref (st := s_need_machine) ("need_machine", none) D_need_machine
  obtain ⟨fd_is_line, D_is_line⟩ := c.t.d.def_ 2 (d := h_is_line) rfl
  have b_is_line : Binds K fd_is_line P_is_line [] := D_is_line.bindsN (ps := P_is_line) fun _ _ _ _ _ _ us hl => match us, hl with | [_, _], _ => rfl
  have C_is_line := funC_ref (st := s_is_line) ("is_line", none) D_is_line
  obtain ⟨fd_need_program, D_need_program⟩ := c.t.d.def_ 3 (d := h_need_program) rfl
  have b_need_program : Binds K fd_need_program P_need_program [] := D_need_program.bindsN (ps := P_need_program) fun _ _ _ _ _ _ us hl => match us, hl with | [_, _], _ => rfl
  obtain ⟨cd_need_program, C_need_program⟩ := funC_of (st := s_need_program) D_need_program
  obtain ⟨fd_is_soft, D_is_soft⟩ := c.t.d.def_ 4 (d := h_is_soft) rfl
  have b_is_soft : Binds K fd_is_soft P_is_soft [] := D_is_soft.bindsN (ps := P_is_soft) fun _ _ _ _ _ _ us hl => match us, hl with | [_], _ => rfl
  obtain ⟨cd_is_soft, C_is_soft⟩ := funC_of (st := s_is_soft) D_is_soft
  obtain ⟨fd_depth, D_depth⟩ := c.t.d.def_ 5 (d := h_depth) rfl
  have b_depth : Binds K fd_depth P_depth [] := D_depth.bindsN (ps := P_depth) fun _ _ _ _ _ _ us hl => match us, hl with | [_], _ => rfl
  obtain ⟨cd_depth, C_depth⟩ := funC_of (st := s_depth) D_depth
  obtain ⟨fd_is_term, D_is_term⟩ := c.t.d.def_ 6 (d := h_is_term) rfl
  obtain ⟨ds0_is_term, v0_is_term, b_is_term⟩ := D_is_term.binds1 (ps := P_is_term) 3 1 (by simp [He.DefD.dvs]) rfl (fun _ _ _ _ _ _ _ us its hl hi => match us, its, hl, hi with | [_, _, _], [_], _, _ => ⟨_, rfl, rfl⟩)
  cases v0_is_term
  obtain ⟨ds1_is_term, v1_is_term, bd_is_term⟩ := D_is_term.binds1 (ps := P_is_term) 2 0 (by simp [He.DefD.dvs]) rfl (fun _ _ _ _ _ _ _ us its hl hi => match us, its, hl, hi with | [_, _], [_], _, _ => ⟨_, rfl, rfl⟩)
  obtain ⟨d8, ed8⟩ : ∃ d8, ds1_is_term = [d8] := by cases v1_is_term with | cons a r => cases r; exact ⟨_, rfl⟩
  subst ed8
  have C_is_term := funC_ref (st := s_is_term) ("is_term", none) D_is_term
  obtain ⟨fd_first_terms, D_first_terms⟩ := c.t.d.def_ 7 (d := h_first_terms) rfl
  have b_first_terms : Binds K fd_first_terms P_first_terms [] := D_first_terms.bindsN (ps := P_first_terms) fun _ _ _ _ _ _ us hl => match us, hl with | [_], _ => rfl
  obtain ⟨cd_first_terms, C_first_terms⟩ := funC_of (st := s_first_terms) D_first_terms
  obtain ⟨fd_done, D_done⟩ := c.t.d.def_ 8 (d := h_done) rfl
  have b_done : Binds K fd_done P_done [] := D_done.bindsN (ps := P_done) fun _ _ _ _ _ _ us hl => match us, hl with | [_, _], _ => rfl
  obtain ⟨cd_done, C_done⟩ := funC_of (st := s_done) D_done
  obtain ⟨fd_need_many, D_need_many⟩ := c.t.d.def_ 9 (d := h_need_many) rfl
  have b_need_many : Binds K fd_need_many P_need_many [] := D_need_many.bindsN (ps := P_need_many) fun _ _ _ _ _ _ us hl => match us, hl with | [_], _ => rfl
  obtain ⟨cd_need_many, C_need_many⟩ := funC_of (st := s_need_many) D_need_many
  obtain ⟨fd_all_moments, D_all_moments⟩ := c.t.d.def_ 10 (d := h_all_moments) rfl
  have b_all_moments : Binds K fd_all_moments P_all_moments [] := D_all_moments.bindsN (ps := P_all_moments) fun _ _ _ _ _ _ us hl => match us, hl with | [_, _, _], _ => rfl
  obtain ⟨cd_all_moments, C_all_moments⟩ := funC_of (st := s_all_moments) D_all_moments
  obtain ⟨fd_keep, D_keep⟩ := c.t.d.def_ 11 (d := h_keep) rfl
  have b_keep : Binds K fd_keep P_keep [] := D_keep.bindsN (ps := P_keep) fun _ _ _ _ _ _ us hl => match us, hl with | [_, _, _], _ => rfl
  obtain ⟨cd_keep, C_keep⟩ := funC_of (st := s_keep) D_keep
  obtain ⟨fd_is_wish, D_is_wish⟩ := c.t.d.def_ 12 (d := h_is_wish) rfl
  have b_is_wish : Binds K fd_is_wish P_is_wish [] := D_is_wish.bindsN (ps := P_is_wish) fun _ _ _ _ _ _ us hl => match us, hl with | [_, _], _ => rfl
  obtain ⟨cd_is_wish, C_is_wish⟩ := funC_of (st := s_is_wish) D_is_wish
  obtain ⟨fd_need_wishes, D_need_wishes⟩ := c.t.d.def_ 13 (d := h_need_wishes) rfl
  have b_need_wishes : Binds K fd_need_wishes P_need_wishes [] := D_need_wishes.bindsN (ps := P_need_wishes) fun _ _ _ _ _ _ us hl => match us, hl with | [_, _], _ => rfl
  obtain ⟨cd_need_wishes, C_need_wishes⟩ := funC_of (st := s_need_wishes) D_need_wishes
  obtain ⟨fd_fulfilled, D_fulfilled⟩ := c.t.d.def_ 14 (d := h_fulfilled) rfl
  have b_fulfilled : Binds K fd_fulfilled P_fulfilled [] := D_fulfilled.bindsN (ps := P_fulfilled) fun _ _ _ _ _ _ us hl => match us, hl with | [_, _], _ => rfl
  have C_fulfilled := funC_ref (st := s_fulfilled) ("fulfilled", none) D_fulfilled
  obtain ⟨fd_need_wished, D_need_wished⟩ := c.t.d.def_ 15 (d := h_need_wished) rfl
  have b_need_wished : Binds K fd_need_wished P_need_wished [] := D_need_wished.bindsN (ps := P_need_wished) fun _ _ _ _ _ _ us hl => match us, hl with | [_, _, _, _], _ => rfl
  obtain ⟨cd_need_wished, C_need_wished⟩ := funC_of (st := s_need_wished) D_need_wished
  obtain ⟨fd_least_harm, D_least_harm⟩ := c.t.d.def_ 16 (d := h_least_harm) rfl
  have b_least_harm : Binds K fd_least_harm P_least_harm [] := D_least_harm.bindsN (ps := P_least_harm) fun _ _ _ _ _ _ us hl => match us, hl with | [_, _, _, _], _ => rfl
  obtain ⟨cd_least_harm, C_least_harm⟩ := funC_of (st := s_least_harm) D_least_harm
  obtain ⟨fd_is_proof, D_is_proof⟩ := c.t.d.def_ 17 (d := h_is_proof) rfl
  have b_is_proof : Binds K fd_is_proof P_is_proof [] := D_is_proof.bindsN (ps := P_is_proof) fun _ _ _ _ _ _ us hl => match us, hl with | [_, _, _, _], _ => rfl
  obtain ⟨cd_is_proof, C_is_proof⟩ := funC_of (st := s_is_proof) D_is_proof
  obtain ⟨fd_repeated_ends, D_repeated_ends⟩ := c.t.d.def_ 18 (d := h_repeated_ends) rfl
  have b_repeated_ends : Binds K fd_repeated_ends P_repeated_ends [] := D_repeated_ends.bindsN (ps := P_repeated_ends) fun _ _ _ _ _ _ us hl => match us, hl with | [_, _, _], _ => rfl
  obtain ⟨cd_repeated_ends, C_repeated_ends⟩ := funC_of (st := s_repeated_ends) D_repeated_ends
  obtain ⟨fd_is_repeat_proof, D_is_repeat_proof⟩ := c.t.d.def_ 19 (d := h_is_repeat_proof) rfl
  have b_is_repeat_proof : Binds K fd_is_repeat_proof P_is_repeat_proof [] := D_is_repeat_proof.bindsN (ps := P_is_repeat_proof) fun _ _ _ _ _ _ us hl => match us, hl with | [_, _, _, _], _ => rfl
  have C_is_repeat_proof := funC_ref (st := s_is_repeat_proof) ("is_repeat_proof", none) D_is_repeat_proof
  obtain ⟨fd_parts_of, D_parts_of⟩ := c.t.d.def_ 20 (d := h_parts_of) rfl
  have b_parts_of : Binds K fd_parts_of P_parts_of [] := D_parts_of.bindsN (ps := P_parts_of) fun _ _ _ _ _ _ us hl => match us, hl with | [_], _ => rfl
  obtain ⟨cd_parts_of, C_parts_of⟩ := funC_of (st := s_parts_of) D_parts_of
  obtain ⟨fd_all_parts, D_all_parts⟩ := c.t.d.def_ 21 (d := h_all_parts) rfl
  have b_all_parts : Binds K fd_all_parts P_all_parts [] := D_all_parts.bindsN (ps := P_all_parts) fun _ _ _ _ _ _ us hl => match us, hl with | [_], _ => rfl
  obtain ⟨cd_all_parts, C_all_parts⟩ := funC_of (st := s_all_parts) D_all_parts
  obtain ⟨fd_all_lines, D_all_lines⟩ := c.t.d.def_ 22 (d := h_all_lines) rfl
  have b_all_lines : Binds K fd_all_lines P_all_lines [] := D_all_lines.bindsN (ps := P_all_lines) fun _ _ _ _ _ _ us hl => match us, hl with | [_], _ => rfl
  obtain ⟨cd_all_lines, C_all_lines⟩ := funC_of (st := s_all_lines) D_all_lines
  obtain ⟨fd_S_init, D_S_init⟩ := c.t.d.def_ 23 (d := h_S_init) rfl
  have b_S_init : Binds K fd_S_init P_S_init [] := D_S_init.bindsN (ps := P_S_init) fun _ _ _ _ _ _ us hl => match us, hl with | [_, _, _, _], _ => rfl
  obtain ⟨cd_S_init, C_S_init⟩ := funC_of (st := s_S_init) D_S_init
  obtain ⟨fd_S_behind, D_S_behind⟩ := c.t.d.def_ 24 (d := h_S_behind) rfl
  have b_S_behind : Binds K fd_S_behind P_S_behind [] := D_S_behind.bindsN (ps := P_S_behind) fun _ _ _ _ _ _ us hl => match us, hl with | [_, _, _], _ => rfl
  have C_S_behind := funC_ref (st := s_S_behind) ("Search", some "behind") D_S_behind
  obtain ⟨fd_S_shortest, D_S_shortest⟩ := c.t.d.def_ 25 (d := h_S_shortest) rfl
  have b_S_shortest : Binds K fd_S_shortest P_S_shortest [] := D_S_shortest.bindsN (ps := P_S_shortest) fun _ _ _ _ _ _ us hl => match us, hl with | [_], _ => rfl
  have C_S_shortest := funC_ref (st := s_S_shortest) ("Search", some "shortest") D_S_shortest
  obtain ⟨fd_best, D_best⟩ := c.t.d.def_ 26 (d := h_best) rfl
  have b_best : Binds K fd_best P_best [] := D_best.bindsN (ps := P_best) fun _ _ _ _ _ _ us hl => match us, hl with | [_, _, _], _ => rfl
  obtain ⟨cd_best, C_best⟩ := funC_of (st := s_best) D_best
  obtain ⟨fd_need_both, D_need_both⟩ := c.t.d.def_ 27 (d := h_need_both) rfl
  have b_need_both : Binds K fd_need_both P_need_both [] := D_need_both.bindsN (ps := P_need_both) fun _ _ _ _ _ _ us hl => match us, hl with | [_, _], _ => rfl
  obtain ⟨cd_need_both, C_need_both⟩ := funC_of (st := s_need_both) D_need_both
  obtain ⟨fd_shortest_gentle, D_shortest_gentle⟩ := c.t.d.def_ 28 (d := h_shortest_gentle) rfl
  have b_shortest_gentle : Binds K fd_shortest_gentle P_shortest_gentle [] := D_shortest_gentle.bindsN (ps := P_shortest_gentle) fun _ _ _ _ _ _ us hl => match us, hl with | [_, _], _ => rfl
  obtain ⟨cd_shortest_gentle, C_shortest_gentle⟩ := funC_of (st := s_shortest_gentle) D_shortest_gentle
  obtain ⟨fd_can_be_proof, D_can_be_proof⟩ := c.t.d.def_ 29 (d := h_can_be_proof) rfl
  have b_can_be_proof : Binds K fd_can_be_proof P_can_be_proof [] := D_can_be_proof.bindsN (ps := P_can_be_proof) fun _ _ _ _ _ _ us hl => match us, hl with | [_, _], _ => rfl
  obtain ⟨cd_can_be_proof, C_can_be_proof⟩ := funC_of (st := s_can_be_proof) D_can_be_proof
  obtain ⟨fd_written, D_written⟩ := c.t.d.def_ 30 (d := h_written) rfl
  have b_written : Binds K fd_written P_written [] := D_written.bindsN (ps := P_written) fun _ _ _ _ _ _ us hl => match us, hl with | [_, _], _ => rfl
  obtain ⟨cd_written, C_written⟩ := funC_of (st := s_written) D_written
  obtain ⟨fd_proofed, D_proofed⟩ := c.t.d.def_ 31 (d := h_proofed) rfl
  have b_proofed : Binds K fd_proofed P_proofed [] := D_proofed.bindsN (ps := P_proofed) fun _ _ _ _ _ _ us hl => match us, hl with | [_, _, _], _ => rfl
  obtain ⟨cd_proofed, C_proofed⟩ := funC_of (st := s_proofed) D_proofed
  obtain ⟨fd_proof_program, D_proof_program⟩ := c.t.d.def_ 32 (d := h_proof_program) rfl
  have b_proof_program : Binds K fd_proof_program P_proof_program [] := D_proof_program.bindsN (ps := P_proof_program) fun _ _ _ _ _ _ us hl => match us, hl with | [_, _, _], _ => rfl
  obtain ⟨cd_proof_program, C_proof_program⟩ := funC_of (st := s_proof_program) D_proof_program
  obtain ⟨fd_Ltaken, D_Ltaken⟩ := c.t.d.def_ 33 (d := h_Ltaken) rfl
  have b_Ltaken : Binds K fd_Ltaken P_Ltaken [] := D_Ltaken.bindsN (ps := P_Ltaken) fun _ _ _ _ _ _ us hl => match us, hl with | [_, _], _ => rfl
  obtain ⟨cd_Ltaken, C_Ltaken⟩ := funC_of (st := s_Ltaken) D_Ltaken
  obtain ⟨fd_Lmachine, D_Lmachine⟩ := c.t.d.def_ 34 (d := h_Lmachine) rfl
  have b_Lmachine : Binds K fd_Lmachine P_Lmachine [] := D_Lmachine.bindsN (ps := P_Lmachine) fun _ _ _ _ _ _ us hl => match us, hl with | [_], _ => rfl
  obtain ⟨cd_Lmachine, C_Lmachine⟩ := funC_of (st := s_Lmachine) D_Lmachine
  obtain ⟨fd_Ldid, D_Ldid⟩ := c.t.d.def_ 35 (d := h_Ldid) rfl
  have b_Ldid : Binds K fd_Ldid P_Ldid [] := D_Ldid.bindsN (ps := P_Ldid) fun _ _ _ _ _ _ us hl => match us, hl with | [_, _], _ => rfl
  obtain ⟨cd_Ldid, C_Ldid⟩ := funC_of (st := s_Ldid) D_Ldid
  obtain ⟨fd_Ldeep, D_Ldeep⟩ := c.t.d.def_ 36 (d := h_Ldeep) rfl
  have b_Ldeep : Binds K fd_Ldeep P_Ldeep [] := D_Ldeep.bindsN (ps := P_Ldeep) fun _ _ _ _ _ _ us hl => match us, hl with | [_], _ => rfl
  obtain ⟨cd_Ldeep, C_Ldeep⟩ := funC_of (st := s_Ldeep) D_Ldeep
  obtain ⟨fd_Ltame, D_Ltame⟩ := c.t.d.def_ 37 (d := h_Ltame) rfl
  have b_Ltame : Binds K fd_Ltame P_Ltame [] := D_Ltame.bindsN (ps := P_Ltame) fun _ _ _ _ _ _ us hl => match us, hl with | [_, _], _ => rfl
  obtain ⟨cd_Ltame, C_Ltame⟩ := funC_of (st := s_Ltame) D_Ltame
  obtain ⟨fd_Levery_line, D_Levery_line⟩ := c.t.d.def_ 38 (d := h_Levery_line) rfl
  have b_Levery_line : Binds K fd_Levery_line P_Levery_line [] := D_Levery_line.bindsN (ps := P_Levery_line) fun _ _ _ _ _ _ us hl => match us, hl with | [_], _ => rfl
  obtain ⟨cd_Levery_line, C_Levery_line⟩ := funC_of (st := s_Levery_line) D_Levery_line
  obtain ⟨fd_Lpick, D_Lpick⟩ := c.t.d.def_ 39 (d := h_Lpick) rfl
  have b_Lpick : Binds K fd_Lpick P_Lpick [] := D_Lpick.bindsN (ps := P_Lpick) fun _ _ _ _ _ _ us hl => match us, hl with | [_, _], _ => rfl
  obtain ⟨cd_Lpick, C_Lpick⟩ := funC_of (st := s_Lpick) D_Lpick
  obtain ⟨fd_Lprogram, D_Lprogram⟩ := c.t.d.def_ 40 (d := h_Lprogram) rfl
  have b_Lprogram : Binds K fd_Lprogram P_Lprogram [] := D_Lprogram.bindsN (ps := P_Lprogram) fun _ _ _ _ _ _ us hl => match us, hl with | [_, _, _], _ => rfl
  obtain ⟨cd_Lprogram, C_Lprogram⟩ := funC_of (st := s_Lprogram) D_Lprogram
  obtain ⟨fd_Lran, D_Lran⟩ := c.t.d.def_ 41 (d := h_Lran) rfl
  have b_Lran : Binds K fd_Lran P_Lran [] := D_Lran.bindsN (ps := P_Lran) fun _ _ _ _ _ _ us hl => match us, hl with | [_, _, _], _ => rfl
  obtain ⟨cd_Lran, C_Lran⟩ := funC_of (st := s_Lran) D_Lran
  obtain ⟨fd_Lwishes, D_Lwishes⟩ := c.t.d.def_ 42 (d := h_Lwishes) rfl
  have b_Lwishes : Binds K fd_Lwishes P_Lwishes [] := D_Lwishes.bindsN (ps := P_Lwishes) fun _ _ _ _ _ _ us hl => match us, hl with | [_, _], _ => rfl
  obtain ⟨cd_Lwishes, C_Lwishes⟩ := funC_of (st := s_Lwishes) D_Lwishes
  obtain ⟨fd_Lparts, D_Lparts⟩ := c.t.d.def_ 43 (d := h_Lparts) rfl
  have b_Lparts : Binds K fd_Lparts P_Lparts [] := D_Lparts.bindsN (ps := P_Lparts) fun _ _ _ _ _ _ us hl => match us, hl with | [_], _ => rfl
  obtain ⟨cd_Lparts, C_Lparts⟩ := funC_of (st := s_Lparts) D_Lparts
  obtain ⟨fd_Lfewest, D_Lfewest⟩ := c.t.d.def_ 44 (d := h_Lfewest) rfl
  have b_Lfewest : Binds K fd_Lfewest P_Lfewest [] := D_Lfewest.bindsN (ps := P_Lfewest) fun _ _ _ _ _ _ us hl => match us, hl with | [_, _, _], _ => rfl
  obtain ⟨cd_Lfewest, C_Lfewest⟩ := funC_of (st := s_Lfewest) D_Lfewest
  obtain ⟨fd_Lalike, D_Lalike⟩ := c.t.d.def_ 45 (d := h_Lalike) rfl
  have b_Lalike : Binds K fd_Lalike P_Lalike [] := D_Lalike.bindsN (ps := P_Lalike) fun _ _ _ _ _ _ us hl => match us, hl with | [_, _], _ => rfl
  obtain ⟨cd_Lalike, C_Lalike⟩ := funC_of (st := s_Lalike) D_Lalike
  obtain ⟨fd_Ltold, D_Ltold⟩ := c.t.d.def_ 46 (d := h_Ltold) rfl
  have b_Ltold : Binds K fd_Ltold P_Ltold [] := D_Ltold.bindsN (ps := P_Ltold) fun _ _ _ _ _ _ us hl => match us, hl with | [_], _ => rfl
  obtain ⟨cd_Ltold, C_Ltold⟩ := funC_of (st := s_Ltold) D_Ltold
  obtain ⟨fd_Ltimes, D_Ltimes⟩ := c.t.d.def_ 47 (d := h_Ltimes) rfl
  have b_Ltimes : Binds K fd_Ltimes P_Ltimes [] := D_Ltimes.bindsN (ps := P_Ltimes) fun _ _ _ _ _ _ us hl => match us, hl with | [_, _], _ => rfl
  obtain ⟨cd_Ltimes, C_Ltimes⟩ := funC_of (st := s_Ltimes) D_Ltimes
  obtain ⟨fd_Levery_loss, D_Levery_loss⟩ := c.t.d.def_ 48 (d := h_Levery_loss) rfl
  have b_Levery_loss : Binds K fd_Levery_loss P_Levery_loss [] := D_Levery_loss.bindsN (ps := P_Levery_loss) fun _ _ _ _ _ _ us hl => match us, hl with | [_, _], _ => rfl
  obtain ⟨cd_Levery_loss, C_Levery_loss⟩ := funC_of (st := s_Levery_loss) D_Levery_loss
  obtain ⟨fd_Lshown, D_Lshown⟩ := c.t.d.def_ 49 (d := h_Lshown) rfl
  have b_Lshown : Binds K fd_Lshown P_Lshown [] := D_Lshown.bindsN (ps := P_Lshown) fun _ _ _ _ _ _ us hl => match us, hl with | [_, _, _], _ => rfl
  obtain ⟨cd_Lshown, C_Lshown⟩ := funC_of (st := s_Lshown) D_Lshown
  obtain ⟨fd_law, D_law⟩ := c.t.d.def_ 50 (d := h_law) rfl
  have b_law : Binds K fd_law P_law [] := D_law.bindsN (ps := P_law) fun _ _ _ _ _ _ us hl => match us, hl with | [_], _ => rfl
  have C_law := funC_ref (st := s_law) ("law", none) D_law
  obtain ⟨fd_T, D_T⟩ := c.t.d.def_ 51 (d := h_T) rfl
  have b_T : Binds K fd_T ["self", "most"] [] := D_T.bindsN (ps := ["self", "most"]) fun _ _ _ _ _ _ us hl => match us, hl with | [_, _], _ => rfl
  obtain ⟨cd_T, C_T⟩ := funC_of (st := s_T) D_T
  obtain ⟨k_MOST_CELLS, c_MOST_CELLS⟩ := He.int_ok X G (c.t.d.fact 64 (f := .int "MOST_CELLS" 4) rfl)
  obtain ⟨k_MOST_FUNCTIONS, c_MOST_FUNCTIONS⟩ := He.int_ok X G (c.t.d.fact 65 (f := .int "MOST_FUNCTIONS" 3) rfl)
  obtain ⟨k_MOST_READ, c_MOST_READ⟩ := He.int_ok X G (c.t.d.fact 66 (f := .int "MOST_READ" 2) rfl)
  obtain ⟨k_MOST_LINES, c_MOST_LINES⟩ := He.int_ok X G (c.t.d.fact 67 (f := .int "MOST_LINES" 60) rfl)
  obtain ⟨k_MOST_DEEP, c_MOST_DEEP⟩ := He.int_ok X G (c.t.d.fact 68 (f := .int "MOST_DEEP" 8) rfl)
  obtain ⟨k_MOST_LOST, c_MOST_LOST⟩ := He.int_ok X G (c.t.d.fact 69 (f := .int "MOST_LOST" 3) rfl)
  obtain ⟨k_MOST_PAIRS, c_MOST_PAIRS⟩ := He.int_ok X G (c.t.d.fact 70 (f := .int "MOST_PAIRS" 3000) rfl)
  obtain ⟨k_MOST_PARTS, c_MOST_PARTS⟩ := He.int_ok X G (c.t.d.fact 71 (f := .int "MOST_PARTS" 16) rfl)
  obtain ⟨k_NOTHING, c_NOTHING⟩ := He.int_ok X G (c.t.d.fact 72 (f := .int "NOTHING" (-1)) rfl)
  have exN := He.exc_ok (c.t.d.fact 82 (f := .exc "NoProgram") rfl)
  refine ⟨{ n_len := He.free_ok X G (c.t.d.fact 52 (f := .free "len") rfl), n_isinstance := He.free_ok X G (c.t.d.fact 53 (f := .free "isinstance") rfl), n_max := He.free_ok X G (c.t.d.fact 54 (f := .free "max") rfl), n_int := He.free_ok X G (c.t.d.fact 55 (f := .free "int") rfl), n_tuple := He.free_ok X G (c.t.d.fact 56 (f := .free "tuple") rfl), n_list := He.free_ok X G (c.t.d.fact 57 (f := .free "list") rfl), n_range := He.free_ok X G (c.t.d.fact 58 (f := .free "range") rfl), n_enumerate := He.free_ok X G (c.t.d.fact 59 (f := .free "enumerate") rfl), n_all := He.free_ok X G (c.t.d.fact 60 (f := .free "all") rfl), n_any := He.free_ok X G (c.t.d.fact 61 (f := .free "any") rfl), n_bool := He.free_ok X G (c.t.d.fact 62 (f := .free "bool") rfl), n_str := He.free_ok X G (c.t.d.fact 63 (f := .free "str") rfl), k_MOST_CELLS := k_MOST_CELLS, c_MOST_CELLS := c_MOST_CELLS, k_MOST_FUNCTIONS := k_MOST_FUNCTIONS, c_MOST_FUNCTIONS := c_MOST_FUNCTIONS, k_MOST_READ := k_MOST_READ, c_MOST_READ := c_MOST_READ, k_MOST_LINES := k_MOST_LINES, c_MOST_LINES := c_MOST_LINES, k_MOST_DEEP := k_MOST_DEEP, c_MOST_DEEP := c_MOST_DEEP, k_MOST_LOST := k_MOST_LOST, c_MOST_LOST := c_MOST_LOST, k_MOST_PAIRS := k_MOST_PAIRS, c_MOST_PAIRS := c_MOST_PAIRS, k_MOST_PARTS := k_MOST_PARTS, c_MOST_PARTS := c_MOST_PARTS, k_NOTHING := k_NOTHING, c_NOTHING := c_NOTHING, m_Search := He.glo_ok X G (c.t.d.fact 26 (f := .glo "Search") rfl), clS := He.cls_ok (c.t.d.fact 73 (f := .cls "Search") rfl), na_goal := He.noat_ok (c.t.d.fact 77 (f := .noat "Search" "goal") rfl), na_moves := He.noat_ok (c.t.d.fact 78 (f := .noat "Search" "moves") rfl), na_parts := He.noat_ok (c.t.d.fact 79 (f := .noat "Search" "parts") rfl), na_start := He.noat_ok (c.t.d.fact 80 (f := .noat "Search" "start") rfl), na_terms := He.noat_ok (c.t.d.fact 81 (f := .noat "Search" "terms") rfl), f_is_number := He.fAd K ("is_number", none), fd_is_number := fd_is_number, cd_is_number := cd_is_number, F_is_number := C_is_number, m_is_number := He.glo_ok X G (c.t.d.fact 3 (f := .glo "is_number") rfl), b_is_number := b_is_number, f_need_machine := He.fAd K ("need_machine", none), fd_need_machine := fd_need_machine, cc_need_machine := (He.cT K ("need_machine", none)).1, pt_need_machine := (He.cT K ("need_machine", none)).2, z_need_machine := by simp, l_need_machine := hzl _ (by simp), F_need_machine := C_need_machine, m_need_machine := He.glo_ok X G (c.t.d.fact 4 (f := .glo "need_machine") rfl), b_need_machine := b_need_machine, f_is_line := He.fAd K ("is_line", none), fd_is_line := fd_is_line, cc_is_line := (He.cT K ("is_line", none)).1, pt_is_line := (He.cT K ("is_line", none)).2, z_is_line := by simp, l_is_line := hzl _ (by simp), F_is_line := C_is_line, m_is_line := He.glo_ok X G (c.t.d.fact 5 (f := .glo "is_line") rfl), b_is_line := b_is_line, f_need_program := He.fAd K ("need_program", none), fd_need_program := fd_need_program, cd_need_program := cd_need_program, F_need_program := C_need_program, m_need_program := He.glo_ok X G (c.t.d.fact 6 (f := .glo "need_program") rfl), b_need_program := b_need_program, f_is_soft := He.fAd K ("is_soft", none), fd_is_soft := fd_is_soft, cd_is_soft := cd_is_soft, F_is_soft := C_is_soft, m_is_soft := He.glo_ok X G (c.t.d.fact 7 (f := .glo "is_soft") rfl), b_is_soft := b_is_soft, f_depth := He.fAd K ("depth", none), fd_depth := fd_depth, cd_depth := cd_depth, F_depth := C_depth, m_depth := He.glo_ok X G (c.t.d.fact 8 (f := .glo "depth") rfl), b_depth := b_depth, f_is_term := He.fAd K ("is_term", none), fd_is_term := fd_is_term, cc_is_term := (He.cT K ("is_term", none)).1, pt_is_term := (He.cT K ("is_term", none)).2, z_is_term := by simp, l_is_term := hzl _ (by simp), F_is_term := C_is_term, m_is_term := He.glo_ok X G (c.t.d.fact 9 (f := .glo "is_term") rfl), b_is_term := b_is_term, d8 := d8, bd_is_term := bd_is_term, dv_is_term := v1_is_term, f_first_terms := He.fAd K ("first_terms", none), fd_first_terms := fd_first_terms, cd_first_terms := cd_first_terms, F_first_terms := C_first_terms, m_first_terms := He.glo_ok X G (c.t.d.fact 10 (f := .glo "first_terms") rfl), b_first_terms := b_first_terms, f_done := He.fAd K ("done", none), fd_done := fd_done, cd_done := cd_done, F_done := C_done, m_done := He.glo_ok X G (c.t.d.fact 11 (f := .glo "done") rfl), b_done := b_done, f_need_many := He.fAd K ("need_many", none), fd_need_many := fd_need_many, cd_need_many := cd_need_many, F_need_many := C_need_many, m_need_many := He.glo_ok X G (c.t.d.fact 12 (f := .glo "need_many") rfl), b_need_many := b_need_many, f_all_moments := He.fAd K ("all_moments", none), fd_all_moments := fd_all_moments, cd_all_moments := cd_all_moments, F_all_moments := C_all_moments, m_all_moments := He.glo_ok X G (c.t.d.fact 13 (f := .glo "all_moments") rfl), b_all_moments := b_all_moments, f_keep := He.fAd K ("keep", none), fd_keep := fd_keep, cd_keep := cd_keep, F_keep := C_keep, m_keep := He.glo_ok X G (c.t.d.fact 14 (f := .glo "keep") rfl), b_keep := b_keep, f_is_wish := He.fAd K ("is_wish", none), fd_is_wish := fd_is_wish, cd_is_wish := cd_is_wish, F_is_wish := C_is_wish, m_is_wish := He.glo_ok X G (c.t.d.fact 15 (f := .glo "is_wish") rfl), b_is_wish := b_is_wish, f_need_wishes := He.fAd K ("need_wishes", none), fd_need_wishes := fd_need_wishes, cd_need_wishes := cd_need_wishes, F_need_wishes := C_need_wishes, m_need_wishes := He.glo_ok X G (c.t.d.fact 16 (f := .glo "need_wishes") rfl), b_need_wishes := b_need_wishes, f_fulfilled := He.fAd K ("fulfilled", none), fd_fulfilled := fd_fulfilled, cc_fulfilled := (He.cT K ("fulfilled", none)).1, pt_fulfilled := (He.cT K ("fulfilled", none)).2, z_fulfilled := by simp, l_fulfilled := hzl _ (by simp), F_fulfilled := C_fulfilled, m_fulfilled := He.glo_ok X G (c.t.d.fact 17 (f := .glo "fulfilled") rfl), b_fulfilled := b_fulfilled, f_need_wished := He.fAd K ("need_wished", none), fd_need_wished := fd_need_wished, cd_need_wished := cd_need_wished, F_need_wished := C_need_wished, m_need_wished := He.glo_ok X G (c.t.d.fact 18 (f := .glo "need_wished") rfl), b_need_wished := b_need_wished, f_least_harm := He.fAd K ("least_harm", none), fd_least_harm := fd_least_harm, cd_least_harm := cd_least_harm, F_least_harm := C_least_harm, m_least_harm := He.glo_ok X G (c.t.d.fact 19 (f := .glo "least_harm") rfl), b_least_harm := b_least_harm, f_is_proof := He.fAd K ("is_proof", none), fd_is_proof := fd_is_proof, cd_is_proof := cd_is_proof, F_is_proof := C_is_proof, m_is_proof := He.glo_ok X G (c.t.d.fact 20 (f := .glo "is_proof") rfl), b_is_proof := b_is_proof, f_repeated_ends := He.fAd K ("repeated_ends", none), fd_repeated_ends := fd_repeated_ends, cd_repeated_ends := cd_repeated_ends, F_repeated_ends := C_repeated_ends, m_repeated_ends := He.glo_ok X G (c.t.d.fact 21 (f := .glo "repeated_ends") rfl), b_repeated_ends := b_repeated_ends, f_is_repeat_proof := He.fAd K ("is_repeat_proof", none), fd_is_repeat_proof := fd_is_repeat_proof, cc_is_repeat_proof := (He.cT K ("is_repeat_proof", none)).1, pt_is_repeat_proof := (He.cT K ("is_repeat_proof", none)).2, z_is_repeat_proof := by simp, l_is_repeat_proof := hzl _ (by simp), F_is_repeat_proof := C_is_repeat_proof, m_is_repeat_proof := He.glo_ok X G (c.t.d.fact 22 (f := .glo "is_repeat_proof") rfl), b_is_repeat_proof := b_is_repeat_proof, f_parts_of := He.fAd K ("parts_of", none), fd_parts_of := fd_parts_of, cd_parts_of := cd_parts_of, F_parts_of := C_parts_of, m_parts_of := He.glo_ok X G (c.t.d.fact 23 (f := .glo "parts_of") rfl), b_parts_of := b_parts_of, f_all_parts := He.fAd K ("all_parts", none), fd_all_parts := fd_all_parts, cd_all_parts := cd_all_parts, F_all_parts := C_all_parts, m_all_parts := He.glo_ok X G (c.t.d.fact 24 (f := .glo "all_parts") rfl), b_all_parts := b_all_parts, f_all_lines := He.fAd K ("all_lines", none), fd_all_lines := fd_all_lines, cd_all_lines := cd_all_lines, F_all_lines := C_all_lines, m_all_lines := He.glo_ok X G (c.t.d.fact 25 (f := .glo "all_lines") rfl), b_all_lines := b_all_lines, f_S_init := He.fAd K ("Search", some "__init__"), fd_S_init := fd_S_init, cd_S_init := cd_S_init, F_S_init := C_S_init, mkS := He.mkr_ok (c.t.d.fact 74 (f := .mkr "Search") rfl), b_S_init := b_S_init, f_S_behind := He.fAd K ("Search", some "behind"), fd_S_behind := fd_S_behind, cc_S_behind := (He.cT K ("Search", some "behind")).1, pt_S_behind := (He.cT K ("Search", some "behind")).2, z_S_behind := by simp, l_S_behind := hzl _ (by simp), F_S_behind := C_S_behind, me_behind := He.meth_ok (c.t.d.fact 75 (f := .meth "Search" "behind") rfl), b_S_behind := b_S_behind, f_S_shortest := He.fAd K ("Search", some "shortest"), fd_S_shortest := fd_S_shortest, cc_S_shortest := (He.cT K ("Search", some "shortest")).1, pt_S_shortest := (He.cT K ("Search", some "shortest")).2, z_S_shortest := by simp, l_S_shortest := hzl _ (by simp), F_S_shortest := C_S_shortest, me_shortest := He.meth_ok (c.t.d.fact 76 (f := .meth "Search" "shortest") rfl), b_S_shortest := b_S_shortest, f_best := He.fAd K ("best", none), fd_best := fd_best, cd_best := cd_best, F_best := C_best, m_best := He.glo_ok X G (c.t.d.fact 27 (f := .glo "best") rfl), b_best := b_best, f_need_both := He.fAd K ("need_both", none), fd_need_both := fd_need_both, cd_need_both := cd_need_both, F_need_both := C_need_both, m_need_both := He.glo_ok X G (c.t.d.fact 28 (f := .glo "need_both") rfl), b_need_both := b_need_both, f_shortest_gentle := He.fAd K ("shortest_gentle", none), fd_shortest_gentle := fd_shortest_gentle, cd_shortest_gentle := cd_shortest_gentle, F_shortest_gentle := C_shortest_gentle, m_shortest_gentle := He.glo_ok X G (c.t.d.fact 29 (f := .glo "shortest_gentle") rfl), b_shortest_gentle := b_shortest_gentle, f_can_be_proof := He.fAd K ("can_be_proof", none), fd_can_be_proof := fd_can_be_proof, cd_can_be_proof := cd_can_be_proof, F_can_be_proof := C_can_be_proof, m_can_be_proof := He.glo_ok X G (c.t.d.fact 30 (f := .glo "can_be_proof") rfl), b_can_be_proof := b_can_be_proof, f_written := He.fAd K ("written", none), fd_written := fd_written, cd_written := cd_written, F_written := C_written, m_written := He.glo_ok X G (c.t.d.fact 31 (f := .glo "written") rfl), b_written := b_written, f_proofed := He.fAd K ("proofed", none), fd_proofed := fd_proofed, cd_proofed := cd_proofed, F_proofed := C_proofed, m_proofed := He.glo_ok X G (c.t.d.fact 32 (f := .glo "proofed") rfl), b_proofed := b_proofed, f_proof_program := He.fAd K ("proof_program", none), fd_proof_program := fd_proof_program, cd_proof_program := cd_proof_program, F_proof_program := C_proof_program, m_proof_program := He.glo_ok X G (c.t.d.fact 33 (f := .glo "proof_program") rfl), b_proof_program := b_proof_program, f_Ltaken := He.fAd K ("_law_taken", none), fd_Ltaken := fd_Ltaken, cd_Ltaken := cd_Ltaken, F_Ltaken := C_Ltaken, m_Ltaken := He.glo_ok X G (c.t.d.fact 34 (f := .glo "_law_taken") rfl), b_Ltaken := b_Ltaken, f_Lmachine := He.fAd K ("_law_machine", none), fd_Lmachine := fd_Lmachine, cd_Lmachine := cd_Lmachine, F_Lmachine := C_Lmachine, m_Lmachine := He.glo_ok X G (c.t.d.fact 35 (f := .glo "_law_machine") rfl), b_Lmachine := b_Lmachine, f_Ldid := He.fAd K ("_law_did", none), fd_Ldid := fd_Ldid, cd_Ldid := cd_Ldid, F_Ldid := C_Ldid, m_Ldid := He.glo_ok X G (c.t.d.fact 36 (f := .glo "_law_did") rfl), b_Ldid := b_Ldid, f_Ldeep := He.fAd K ("_law_deep", none), fd_Ldeep := fd_Ldeep, cd_Ldeep := cd_Ldeep, F_Ldeep := C_Ldeep, m_Ldeep := He.glo_ok X G (c.t.d.fact 37 (f := .glo "_law_deep") rfl), b_Ldeep := b_Ldeep, f_Ltame := He.fAd K ("_law_tame", none), fd_Ltame := fd_Ltame, cd_Ltame := cd_Ltame, F_Ltame := C_Ltame, m_Ltame := He.glo_ok X G (c.t.d.fact 38 (f := .glo "_law_tame") rfl), b_Ltame := b_Ltame, f_Levery_line := He.fAd K ("_law_every_line", none), fd_Levery_line := fd_Levery_line, cd_Levery_line := cd_Levery_line, F_Levery_line := C_Levery_line, m_Levery_line := He.glo_ok X G (c.t.d.fact 39 (f := .glo "_law_every_line") rfl), b_Levery_line := b_Levery_line, f_Lpick := He.fAd K ("_law_pick", none), fd_Lpick := fd_Lpick, cd_Lpick := cd_Lpick, F_Lpick := C_Lpick, m_Lpick := He.glo_ok X G (c.t.d.fact 40 (f := .glo "_law_pick") rfl), b_Lpick := b_Lpick, f_Lprogram := He.fAd K ("_law_program", none), fd_Lprogram := fd_Lprogram, cd_Lprogram := cd_Lprogram, F_Lprogram := C_Lprogram, m_Lprogram := He.glo_ok X G (c.t.d.fact 41 (f := .glo "_law_program") rfl), b_Lprogram := b_Lprogram, f_Lran := He.fAd K ("_law_ran", none), fd_Lran := fd_Lran, cd_Lran := cd_Lran, F_Lran := C_Lran, m_Lran := He.glo_ok X G (c.t.d.fact 42 (f := .glo "_law_ran") rfl), b_Lran := b_Lran, f_Lwishes := He.fAd K ("_law_wishes", none), fd_Lwishes := fd_Lwishes, cd_Lwishes := cd_Lwishes, F_Lwishes := C_Lwishes, m_Lwishes := He.glo_ok X G (c.t.d.fact 43 (f := .glo "_law_wishes") rfl), b_Lwishes := b_Lwishes, f_Lparts := He.fAd K ("_law_parts", none), fd_Lparts := fd_Lparts, cd_Lparts := cd_Lparts, F_Lparts := C_Lparts, m_Lparts := He.glo_ok X G (c.t.d.fact 44 (f := .glo "_law_parts") rfl), b_Lparts := b_Lparts, f_Lfewest := He.fAd K ("_law_fewest", none), fd_Lfewest := fd_Lfewest, cd_Lfewest := cd_Lfewest, F_Lfewest := C_Lfewest, m_Lfewest := He.glo_ok X G (c.t.d.fact 45 (f := .glo "_law_fewest") rfl), b_Lfewest := b_Lfewest, f_Lalike := He.fAd K ("_law_alike", none), fd_Lalike := fd_Lalike, cd_Lalike := cd_Lalike, F_Lalike := C_Lalike, m_Lalike := He.glo_ok X G (c.t.d.fact 46 (f := .glo "_law_alike") rfl), b_Lalike := b_Lalike, f_Ltold := He.fAd K ("_law_told", none), fd_Ltold := fd_Ltold, cd_Ltold := cd_Ltold, F_Ltold := C_Ltold, m_Ltold := He.glo_ok X G (c.t.d.fact 47 (f := .glo "_law_told") rfl), b_Ltold := b_Ltold, f_Ltimes := He.fAd K ("_law_times", none), fd_Ltimes := fd_Ltimes, cd_Ltimes := cd_Ltimes, F_Ltimes := C_Ltimes, m_Ltimes := He.glo_ok X G (c.t.d.fact 48 (f := .glo "_law_times") rfl), b_Ltimes := b_Ltimes, f_Levery_loss := He.fAd K ("_law_every_loss", none), fd_Levery_loss := fd_Levery_loss, cd_Levery_loss := cd_Levery_loss, F_Levery_loss := C_Levery_loss, m_Levery_loss := He.glo_ok X G (c.t.d.fact 49 (f := .glo "_law_every_loss") rfl), b_Levery_loss := b_Levery_loss, f_Lshown := He.fAd K ("_law_shown", none), fd_Lshown := fd_Lshown, cd_Lshown := cd_Lshown, F_Lshown := C_Lshown, m_Lshown := He.glo_ok X G (c.t.d.fact 50 (f := .glo "_law_shown") rfl), b_Lshown := b_Lshown, f_law := He.fAd K ("law", none), fd_law := fd_law, cc_law := (He.cT K ("law", none)).1, pt_law := (He.cT K ("law", none)).2, F_law := C_law, m_law := He.glo_ok X G (c.t.d.fact 51 (f := .glo "law") rfl), b_law := b_law }, { cT := aT K, cN := aN K, cL := He.ga K "LinesError", fT := aI K, fdT := fd_T, cdT := cd_T, gT := He.glo_ok X G (c.t.d.fact 2 (f := .glo "TooMany") rfl), gN := He.glo_ok X G (c.t.d.fact 1 (f := .glo "NoProgram") rfl), gL := He.glo_ok X G (c.t.d.fact 0 (f := .glo "LinesError") rfl), ox := ⟨oexB_ok x1, He.eqO_ok x2, x3, x4, He.keep_ok (c.t.d.fact 87 (f := .keep "TooMany") rfl)⟩, no := He.eqO_ok x5, iT := He.eqO_ok x6, tI := x7, FT := C_T, bT := b_T, xN := exN.1, kN := exN.2.1, bN := exN.2.2.1, tN := exN.2.2.2, eT := He.exm_ok (c.t.d.fact 84 (f := .exm "TooMany" "LinesError" true) rfl), eN := He.exm_ok (c.t.d.fact 83 (f := .exm "NoProgram" "LinesError" true) rfl), cxN := excB_ok x9, cxT := excB_ok x8, kT := x10 }, rfl, rfl, hlz, fun s u => D_law.bindsA (ps := ["_law_script"]) (fun _ _ _ _ _ _ us hl => match us, hl with | [_], _ => rfl) s [u] rfl, fun base H => ?_⟩
  have g : ∀ p, p ∈ hTf → GxR.TabB base mg (He.cT K p).1 (He.cT K p).2 := fun p hp => let q := H _ (List.mem_map.mpr ⟨p, hp, rfl⟩); ⟨q.code, q.bm, q.gP⟩
  exact { tb_need_machine := g ("need_machine", none) (by simp [hTf, hTf0]), tb_is_line := g ("is_line", none) (by simp [hTf, hTf0]), tb_is_term := g ("is_term", none) (by simp [hTf, hTf0]), tb_fulfilled := g ("fulfilled", none) (by simp [hTf, hTf0]), tb_is_repeat_proof := g ("is_repeat_proof", none) (by simp [hTf, hTf0]), tb_S_behind := g ("Search", some "behind") (by simp [hTf, hTf0]), tb_S_shortest := g ("Search", some "shortest") (by simp [hTf, hTf0]), tb_law := g ("law", none) (by simp [hTf, hTf0]) }
/-- the same facts for another script, another list of tables that stay -/
def Tx.re {K : PySem.W.Frag} {mg : Str → Option Value} {Z L : List Addr} {sa cS : Addr} {ns : List Int} (t : Tx K mg ⟨Z, L, sa, ns, cS⟩) (L2 : List Addr) (hl : ∀ P, P ∉ L → P ∉ L2) (sa2 : Addr) (ns2 : List Int) : Tx K mg ⟨Z, L2, sa2, ns2, cS⟩ :=
  { t with l_need_machine := hl _ t.l_need_machine, l_is_line := hl _ t.l_is_line, l_is_term := hl _ t.l_is_term, l_fulfilled := hl _ t.l_fulfilled, l_is_repeat_proof := hl _ t.l_is_repeat_proof, l_S_behind := hl _ t.l_S_behind, l_S_shortest := hl _ t.l_S_shortest }
theorem TxB.re {K : PySem.W.Frag} {mg : Str → Option Value} {Z L : List Addr} {sa cS : Addr} {ns : List Int} {t : Tx K mg ⟨Z, L, sa, ns, cS⟩} {base : Heap} (tb : TxB base mg t) (L2 : List Addr) (hl : ∀ P, P ∉ L → P ∉ L2) (sa2 : Addr) (ns2 : List Int) : TxB base mg (t.re L2 hl sa2 ns2) :=
  { tb_need_machine := tb.tb_need_machine, tb_is_line := tb.tb_is_line, tb_is_term := tb.tb_is_term, tb_fulfilled := tb.tb_fulfilled, tb_is_repeat_proof := tb.tb_is_repeat_proof, tb_S_behind := tb.tb_S_behind, tb_S_shortest := tb.tb_S_shortest, tb_law := tb.tb_law }
end L2.LL

/-! # LLF2 -/
set_option Elab.async false
set_option linter.all false
set_option maxRecDepth 100000
set_option maxHeartbeats 4000000
namespace L2.LL
open PySem PySem.Spec PyProof.Rows
/-! ## the law -/
def spLaw (K : PySem.W.Frag) (w : World) (gm : Addr → List Int → Gp) : Sp := fun vs H Q _ => ∃ (a : Addr) (ns : List Int), vs = [.ref a] ∧ RS K w (gm a ns) [] [] H ∧ ∀ H', Q (.bl true) H'
theorem no_one {P Q : Addr} : P ∉ [Q] → P ∉ ([] : List Addr) := fun _ h => nomatch h
theorem ok_law {P : Program} {w : World} {K : PySem.W.Frag} {mg : Str → Option Value} {base : Heap} {Z : List Addr} {pl cS : Addr} (tB : Tx K mg ⟨Z, [pl], 0, [], cS⟩) (tbB : TxB base mg tB) (e : TxE K mg) (hp : tB.pt_law = pl) (hZ : pl ∉ Z) :
    FnOk P w K mg base CX0 30 tB.f_law tB.fd_law P_law (spLaw K w fun a ns => ⟨Z, [pl], a, ns, cS⟩) := by
  obtain ⟨oc, od, kV, doc, pm, an, ct, osl, dV, hfd, lk, hcd⟩ := tB.F_law.ex
  rw [hfd] at lk ⊢
  refine fn_of (k := 29) lk hcd sc_law (fun vs H Q E h => by obtain ⟨a, ns, rfl, _⟩ := h; rfl) fun A outer s H vs Q E hr ⟨a, ns, ev, R, hq⟩ => ?_
  subst ev
  let g0 : Gp := ⟨Z, [pl], a, ns, cS⟩
  let t0 : Tx K mg g0 := tB.re [pl] (fun _ h => h) a ns
  let t1 : Tx K mg (g1 g0) := tB.re [] (fun _ _ h => nomatch h) a ns
  have tb0 : TxB base mg t0 := tbB.re [pl] (fun _ h => h) a ns
  have tb1 : TxB base mg t1 := tbB.re [] (fun _ _ h => nomatch h) a ns
  have hL : t0.pt_law ∈ g0.L := List.mem_singleton.mpr hp
  have hZ0 : t0.pt_law ∉ g0.Z := fun z => hZ (hp ▸ z)
  have Gp := okX_proof_program (P := P) (w := w) t1 e (k := 22) ((ok_need_machine t1 tb1).mono (by decide)) ((ok_need_many t1 tb1).mono (by decide)) ((ok_need_wishes t1 tb1).mono (by decide)) ((ok_best t1 tb1).mono (by decide))
  have hB := dv_lawB (P := P) (w := w) t1 tb1 (k := 28) ((ok_Lshown t1 tb1).mono (by decide)) ((ok_Lran t1 tb1).mono (by decide)) ((ok_Ltaken t1 tb1).mono (by decide)) ((ok_Ltimes t1 tb1).mono (by decide)) ((ok_Ltame t1 tb1).mono (by decide)) ((ok_Lprogram t1 tb1).mono (by decide)) ((ok_is_proof t1 tb1).mono (by decide)) ((ok_is_repeat_proof t1 tb1).mono (by decide)) ((ok_proofed t1 tb1).mono (by decide)) ((ok_Levery_loss t1 tb1).mono (by decide)) ((ok_shortest_gentle t1 tb1).mono (by decide)) A outer s H E hr
  have tl := law_tail t0 tb0 e hL hZ0 Gp A outer s H E (hr.mono (by decide)) hB
  have hA := dv_lawA (P := P) (w := w) t0 tb0 (k := 28) ((ok_Lmachine t0 tb0).mono (by decide)) ((ok_Lwishes t0 tb0).mono (by decide)) ((ok_Lparts t0 tb0).mono (by decide)) ((ok_Lfewest t0 tb0).mono (by decide)) ((ok_Ltaken t0 tb0).mono (by decide)) ((ok_can_be_proof t0 tb0).mono (by decide)) ((ok_Lalike t0 tb0).mono (by decide)) A outer s H E hr tl
  refine ⟨_, hA.nox, hq, [], startD N_law [.raw (.ref a)], [], endT, R, RSl.start (.cons rfl .nil), ?_, endT_ok hq⟩
  exact w_lawA (g := g0) fun M W r kk x7 x8 x9 x10 x11 x12 x13 x14 x15 S hw => w_told hw fun d hd => w_lawB (g := g1 g0) ⟨hw.ok, hw.fr, hw.k1, hw.k3, hw.row⟩ hd
end L2.LL

/-! # LLZ -/
set_option Elab.async false
set_option linter.all false
set_option maxRecDepth 100000
set_option maxHeartbeats 4000000
namespace L2.LL
open PySem PySem.Spec PyProof.Rows
/-! ## the end -/
theorem hz_all {K : PySem.W.Frag} : hZ K ++ [hPl K] = hTf.map fun p => (He.cT K p).2 := rfl
theorem rs_start {K : PySem.W.Frag} {w : World} {H : Hp} {a : Addr} {ns : List Int} {cS : Addr} (hH : ∀ p ∈ hTf.map (He.cT K), H p.2 = some (.tbl #[])) (hS : SqL K H a (ns.map V.int)) : RS K w ⟨hZ K, [hPl K], a, ns, cS⟩ [] [] H := by
  have hT : ∀ P, P ∈ hZ K ++ [hPl K] → H P = some (.tbl #[]) := fun P hP => by
    rw [hz_all] at hP
    obtain ⟨p, hp, rfl⟩ := List.mem_map.mp hP
    exact hH _ (List.mem_map.mpr ⟨p, hp, rfl⟩)
  refine ⟨rfl, List.nodup_nil, fun n b o h1 h2 => ?_, fun P hP => ⟨#[], hT P (List.mem_append_left _ hP), True.intro⟩, fun P hP => hT P (List.mem_append_right _ hP), ?_⟩
  · simp at h1
  · rcases hS with (e | ⟨o, e⟩) | q
    · exact .inl ⟨_, e, .inl rfl, fun z => nomatch z⟩
    · exact .inl ⟨_, e, .inr ⟨o, rfl⟩, fun z => nomatch z⟩
    · exact .inr q
theorem law_at {w : World} {K : PySem.W.Frag} {mg : Str → Option Value} {fa : Addr} {h : Heap} (X : K.In h) (G : h.Ns mainGlobals mg) (hmg : mg ("law" : Str) = some (.ref fa)) (c : He.SaysX hFa hFn [] hTf hEx w h K) :
    LamX.LawAtS PySem.Challenge.rw_lostlines_k00_whole_law w K CX0 30 63 "_law_script" mg fa h := by
  obtain ⟨t, e, hpt, hf, hlz, hb, htb⟩ := mk_tx X G c
  have ef : t.f_law = fa := by
    have z := t.m_law.symm.trans hmg
    cases z
    rfl
  refine ⟨t.fd_law, hTf.map (He.cT K), spLaw K w fun a ns => ⟨hZ K, [hPl K], a, ns, He.ga K "Search"⟩, fun p hp => ?_, fun p hp => ?_, fun p hp => ?_, hb, fun H a ns _ _ hH hS => ⟨a, ns, rfl, rs_start hH hS, fun _ => rfl⟩, fun base _ _ hT => ?_⟩
  · obtain ⟨q, hq, rfl⟩ := List.mem_map.mp hp
    exact c.empty q hq
  · obtain ⟨q, hq, rfl⟩ := List.mem_map.mp hp
    exact c.out q hq
  · obtain ⟨q, hq, rfl⟩ := List.mem_map.mp hp
    exact PySem.W.codeHd_of_K X (c.hd q hq)
  · have := ok_law (P := (PySem.Challenge.rw_lostlines_k00_whole_law).prog) (w := w) t (htb base hT) e hpt hlz
    rw [ef] at this
    exact this
end L2.LL
open PySem PySem.W PySem.Calls PyProof.Rows
theorem PySem.Challenge.cw_lostlines_k00_whole_law_holds : PySem.Challenge.rw_lostlines_k00_whole_law.Holds := by
  w_on; o_law
  refine HandSHeadRun.head_any (r := L2.LL.hR) (q := PySem.W.view L2.LL.hR.prog [69]) (H := L2.LL.hk) (ob := L2.LL.hob) (M := 6000) (loose := L2.LL.hLoose) (d := HandSHeadRun.topDef L2.LL.hR.prog 69) (kwd := []) L2.LL.hob_eq
    (by kernel_rfl) (fun s => by kernel_rfl) L2.LL.hrun (by kernel_rfl) (by kernel_rfl) (by kernel_rfl) (by rfl) (by first | assumption | decide +kernel) (by decide +kernel) ⟨rfl, rfl, rfl, rfl, rfl, by decide +kernel⟩ ?hw ?hc
  case hw => w_witness2
  case hc =>
    refine LamX.walk_ofTsE (l := PySem.Challenge.rw_lostlines_k00_whole_law) (n := 63) (k := 30) (x := "_law_script") (CX := fun _ => L2.CX0) rfl (by decide) (by kernel_rfl) ⟨rfl, by decide, by decide⟩ ?F (fun _ _ _ _ _ z => z)
    intro w mg fa h Y G hmg0
    obtain ⟨K, KX, c⟩ := Y
    have hmg : mg ("law" : PySem.Str) = some (.ref fa) := by
      have e : (HandSHeadRun.topDef L2.LL.hR.prog 69).name = ("law" : PySem.Str) := by kernel_rfl
      rw [← e]
      exact hmg0
    exact ⟨K, KX, L2.LL.law_at KX G hmg c⟩
#print axioms PySem.Challenge.cw_lostlines_k00_whole_law_holds
