import PyProof.Rows.All
import Wide.All
import OpenK.AllK
import Wide.FinOn
import HandS.ForMost
import HandS.IsInst
import HandS.TupAny
import HandS.TupMul
import HandS.Zip
import HandS.SortInts
import HandS.SortRule
import HandS.Wide
import HandS.Deep
import KE.DataEq
import KE.DataMinMax
import KE.SortData
import KE.DataAny
import PySem.Challenge.RW_wayriddles_k03_whole_hands_and_clocks_as
set_option Elab.async false
set_option linter.all false
set_option maxRecDepth 100000
/-! DL: data semantics over HandS -/
namespace DL
open PySem L2

abbrev D := PyData
abbrev SZ : Nat := sizeLine
/-- the token of the law's hand -/
def hnd : D := .dict [(.none, .none)]
/-- the hand -/
structure W where
  cells : List Int
  i : Int
  rest : Int
  mix : Int
  cnt : Int

/-- a slot: nothing known, shared data, owned data (a list that the def itself made and may change) -/
inductive Slot where
  | no | sh (d : D) | ow (d : D)
abbrev Env := List Slot


/-! ### data in the heap -/
/-- a tuple that stands: tracked, or an object of the module -/
def TupAt (K : PySem.W.Frag) (H : Hp) (a : Addr) (xs : List V) : Prop :=
  H a = some (.tup xs) ∨
    ∃ (o : Obj) (its : Array Value) (n : Nat), K.lookup a = some o ∧ o.cls = .type "tuple" ∧ o.data = .seq its n ∧ its.size ≤ sizeLine ∧ Vals xs its.toList
theorem TupAt.sqt {K : PySem.W.Frag} {H : Hp} {a : Addr} {xs : List V} (h : TupAt K H a xs) : SqT K H a xs := by
  rcases h with h | h
  · exact .inl (.inl h)
  · exact .inr h
mutual
inductive Rep (K : PySem.W.Frag) (hd : Addr) (O : List Addr) (H : Hp) : V → D → Prop
  | non : Rep K hd O H .non .none
  | bl (b : Bool) : Rep K hd O H (.bl b) (.bool b)
  | int (i : Int) : Rep K hd O H (.int i) (.int i)
  | str (x : Str) : Rep K hd O H (.str x) (.str x)
  | lst {a : Addr} {xs : List V} {ds : List D} : H a = some (.lst xs) → a ∉ O → xs.length ≤ SZ → RepAll K hd O H xs ds → Rep K hd O H (.ref a) (.list ds)
  | tup {a : Addr} {xs : List V} {ds : List D} : TupAt K H a xs → xs.length ≤ SZ → RepAll K hd O H xs ds → Rep K hd O H (.ref a) (.tuple ds)
  | hand : Rep K hd O H (.ref hd) hnd
inductive RepAll (K : PySem.W.Frag) (hd : Addr) (O : List Addr) (H : Hp) : List V → List D → Prop
  | nil : RepAll K hd O H [] []
  | cons {v : V} {vs : List V} {d : D} {ds : List D} : Rep K hd O H v d → RepAll K hd O H vs ds → RepAll K hd O H (v :: vs) (d :: ds)
end

/-- what stood stands, but for the hand -/
structure Ext (hd : Addr) (H H' : Hp) : Prop where
  keep : ∀ b o, b ≠ hd → H b = some o → H' b = some o
  tups : ∀ b xs, H b = some (.tup xs) → H' b = some (.tup xs)
theorem Ext.refl {hd : Addr} {H : Hp} : Ext hd H H := ⟨fun _ _ _ h => h, fun _ _ h => h⟩
theorem Ext.trans {hd : Addr} {H H1 H2 : Hp} (a : Ext hd H H1) (b : Ext hd H1 H2) : Ext hd H H2 := ⟨fun c o n h => b.keep c o n (a.keep c o n h), fun c o h => b.tups c o (a.tups c o h)⟩
theorem Ext.new {hd : Addr} {H : Hp} {p : Addr} {o : HO} (h : H p = none) : Ext hd H (upd H p o) :=
  ⟨fun b o' _ e => by rw [upd_ne (ne_of_none e h)]; exact e, fun b o' e => by rw [upd_ne (ne_of_none e h)]; exact e⟩
/-- behind statements: the owned objects may change, owned ones be laid, be let go -/
structure Prog (O : List Addr) (H : Hp) (O' : List Addr) (H' : Hp) : Prop where
  keep : ∀ b o, b ∉ O → H b = some o → b ∉ O' ∧ H' b = some o
  tups : ∀ b xs, H b = some (.tup xs) → H' b = some (.tup xs)
theorem Prog.refl {O : List Addr} {H : Hp} : Prog O H O H := ⟨fun _ _ n h => ⟨n, h⟩, fun _ _ h => h⟩
theorem Prog.trans {O O1 O2 : List Addr} {H H1 H2 : Hp} (a : Prog O H O1 H1) (b : Prog O1 H1 O2 H2) : Prog O H O2 H2 :=
  ⟨fun c o n h => let q := a.keep c o n h; b.keep c o q.1 q.2, fun c o h => b.tups c o (a.tups c o h)⟩
theorem Ext.prog {hd : Addr} {O : List Addr} {H H' : Hp} (e : Ext hd H H') (h : hd ∈ O) : Prog O H O H' := ⟨fun b o n q => ⟨n, e.keep b o (fun z => n (z ▸ h)) q⟩, e.tups⟩

section
variable {K : PySem.W.Frag} {hd : Addr} {O O' : List Addr} {H H' : Hp}
mutual
theorem Rep.prog (hs : Prog O H O' H') : ∀ {v : V} {d : D}, Rep K hd O H v d → Rep K hd O' H' v d
  | _, _, .non => .non
  | _, _, .bl b => .bl b
  | _, _, .int i => .int i
  | _, _, .str x => .str x
  | _, _, .lst h n z r => .lst (hs.keep _ _ n h).2 (hs.keep _ _ n h).1 z (RepAll.prog hs r)
  | _, _, .tup h z r => .tup (by
      rcases h with h | h
      · exact .inl (hs.tups _ _ h)
      · exact .inr h) z (RepAll.prog hs r)
  | _, _, .hand => .hand
theorem RepAll.prog (hs : Prog O H O' H') : ∀ {vs : List V} {ds : List D}, RepAll K hd O H vs ds → RepAll K hd O' H' vs ds
  | _, _, .nil => .nil
  | _, _, .cons h t => .cons (Rep.prog hs h) (RepAll.prog hs t)
end
theorem Rep.ext {v : V} {d : D} (r : Rep K hd O H v d) (h0 : hd ∈ O) (e : Ext hd H H') : Rep K hd O H' v d := r.prog (e.prog h0)
theorem RepAll.ext {v : List V} {d : List D} (r : RepAll K hd O H v d) (h0 : hd ∈ O) (e : Ext hd H H') : RepAll K hd O H' v d := r.prog (e.prog h0)
theorem Prog.new {p : Addr} {o : HO} (h : H p = none) : Prog O H (p :: O) (upd H p o) :=
  ⟨fun b o n q => ⟨fun z => by rcases List.mem_cons.mp z with z | z; exact (by rw [z, h] at q; cases q); exact n z, by rw [upd_ne (ne_of_none q h)]; exact q⟩, fun b xs q => by rw [upd_ne (ne_of_none q h)]; exact q⟩
theorem Prog.less (h : ∀ b ∈ O', b ∈ O) : Prog O H O' H := ⟨fun b o n q => ⟨fun z => n (h b z), q⟩, fun _ _ q => q⟩
theorem Rep.less {v : V} {d : D} (r : Rep K hd O H v d) (h : ∀ b ∈ O', b ∈ O) : Rep K hd O' H v d := r.prog (.less h)
theorem RepAll.less {v : List V} {d : List D} (r : RepAll K hd O H v d) (h : ∀ b ∈ O', b ∈ O) : RepAll K hd O' H v d := r.prog (.less h)
theorem RepAll.len : ∀ {vs : List V} {ds : List D}, RepAll K hd O H vs ds → vs.length = ds.length
  | _, _, .nil => rfl
  | _, _, .cons _ t => by simp [t.len]
theorem RepAll.get : ∀ {vs : List V} {ds : List D} {i : Nat} {d : D}, RepAll K hd O H vs ds → ds[i]? = some d → ∃ v, vs[i]? = some v ∧ Rep K hd O H v d
  | _, _, _, _, .nil, e => by simp at e
  | _, _, 0, _, .cons r _, e => by simp at e; subst e; exact ⟨_, rfl, r⟩
  | _, _, i + 1, _, .cons _ t, e => by
    obtain ⟨v, h1, h2⟩ := RepAll.get (i := i) t (by simpa using e)
    exact ⟨v, by simpa using h1, h2⟩
theorem RepAll.getV : ∀ {vs : List V} {ds : List D} {i : Nat} {v : V}, RepAll K hd O H vs ds → vs[i]? = some v → ∃ d, ds[i]? = some d ∧ Rep K hd O H v d
  | _, _, _, _, .nil, e => by simp at e
  | _, _, 0, _, .cons r _, e => by simp at e; subst e; exact ⟨_, rfl, r⟩
  | _, _, i + 1, _, .cons _ t, e => by
    obtain ⟨v, h1, h2⟩ := RepAll.getV (i := i) t (by simpa using e)
    exact ⟨v, by simpa using h1, h2⟩
theorem RepAll.append : ∀ {vs ws : List V} {ds es : List D}, RepAll K hd O H vs ds → RepAll K hd O H ws es → RepAll K hd O H (vs ++ ws) (ds ++ es)
  | _, _, _, _, .nil, s => s
  | _, _, _, _, .cons r t, s => .cons r (RepAll.append t s)
theorem RepAll.take : ∀ {vs : List V} {ds : List D} (n : Nat), RepAll K hd O H vs ds → RepAll K hd O H (vs.take n) (ds.take n)
  | _, _, 0, _ => .nil
  | _, _, _ + 1, .nil => .nil
  | _, _, n + 1, .cons r t => .cons r (RepAll.take n t)
theorem RepAll.drop : ∀ {vs : List V} {ds : List D} (n : Nat), RepAll K hd O H vs ds → RepAll K hd O H (vs.drop n) (ds.drop n)
  | _, _, 0, r => r
  | _, _, _ + 1, .nil => .nil
  | _, _, n + 1, .cons _ t => RepAll.drop n t
theorem RepAll.rev : ∀ {vs : List V} {ds : List D}, RepAll K hd O H vs ds → RepAll K hd O H vs.reverse ds.reverse
  | _, _, .nil => .nil
  | _, _, .cons r t => by rw [List.reverse_cons, List.reverse_cons]; exact t.rev.append (.cons r .nil)
theorem RepAll.set : ∀ {vs : List V} {ds : List D} {v : V} {d : D} (n : Nat), RepAll K hd O H vs ds → Rep K hd O H v d → RepAll K hd O H (vs.set n v) (ds.set n d)
  | _, _, _, _, _, .nil, _ => .nil
  | _, _, _, _, 0, .cons _ t, q => .cons q t
  | _, _, _, _, n + 1, .cons r t, q => .cons r (RepAll.set n t q)
theorem RepAll.ints : ∀ (ns : List Int), RepAll K hd O H (ns.map V.int) (ns.map PyData.int)
  | [] => .nil
  | n :: r => .cons (.int n) (RepAll.ints r)
theorem RepAll.bools : ∀ (ns : List Bool), RepAll K hd O H (ns.map V.bl) (ns.map PyData.bool)
  | [] => .nil
  | n :: r => .cons (.bl n) (RepAll.bools r)
/-- a list's ints -/
def intsOf : List D → Option (List Int)
  | [] => some []
  | .int i :: r => (intsOf r).map (i :: ·)
  | _ :: _ => none
theorem intsOf_map : ∀ (l : List Int), intsOf (l.map PyData.int) = some l
  | [] => rfl
  | i :: r => by simp [intsOf, intsOf_map r]
theorem intsOf_some : ∀ {l : List D} {ns : List Int}, intsOf l = some ns → l = ns.map PyData.int
  | [], ns, h => by cases h; rfl
  | .int i :: r, ns, h => by
    simp only [intsOf, Option.map_eq_some_iff] at h
    obtain ⟨m, e, rfl⟩ := h
    rw [intsOf_some e]; rfl
  | .none :: _, _, h => by cases h
  | .bool _ :: _, _, h => by cases h
  | .str _ :: _, _, h => by cases h
  | .list _ :: _, _, h => by cases h
  | .tuple _ :: _, _, h => by cases h
  | .dict _ :: _, _, h => by cases h
theorem RepAll.toInts : ∀ {vs : List V} {ns : List Int}, RepAll K hd O H vs (ns.map PyData.int) → vs = ns.map V.int
  | _, [], h => by cases h; rfl
  | _, n :: r, h => by
    cases h with
    | cons a t => cases a; rw [t.toInts]; rfl
def boolsOf : List D → Option (List Bool)
  | [] => some []
  | .bool i :: r => (boolsOf r).map (i :: ·)
  | _ :: _ => none
theorem boolsOf_map : ∀ (l : List Bool), boolsOf (l.map PyData.bool) = some l
  | [] => rfl
  | i :: r => by simp [boolsOf, boolsOf_map r]
theorem boolsOf_some : ∀ {l : List D} {ns : List Bool}, boolsOf l = some ns → l = ns.map PyData.bool
  | [], ns, h => by cases h; rfl
  | .bool i :: r, ns, h => by
    simp only [boolsOf, Option.map_eq_some_iff] at h
    obtain ⟨m, e, rfl⟩ := h
    rw [boolsOf_some e]; rfl
  | .none :: _, _, h => by cases h
  | .int _ :: _, _, h => by cases h
  | .str _ :: _, _, h => by cases h
  | .list _ :: _, _, h => by cases h
  | .tuple _ :: _, _, h => by cases h
  | .dict _ :: _, _, h => by cases h
theorem RepAll.toBools : ∀ {vs : List V} {ns : List Bool}, RepAll K hd O H vs (ns.map PyData.bool) → vs = ns.map V.bl
  | _, [], h => by cases h; rfl
  | _, n :: r, h => by
    cases h with
    | cons a t => cases a; rw [t.toBools]; rfl
end


/-! ### modes: a value that may be an owned object itself (bo), shared data (sh), a new object (fr) -/
inductive Mode where
  | bo | sh | fr
  deriving DecidableEq
/-- as Rep, the object itself may be one of the def's own -/
def RepB (K : PySem.W.Frag) (hd : Addr) (Oe O : List Addr) (H : Hp) (v : V) (d : D) : Prop :=
  Rep K hd O H v d ∨ ∃ a xs ds, v = .ref a ∧ d = .list ds ∧ a ∉ Oe ∧ H a = some (.lst xs) ∧ xs.length ≤ SZ ∧ RepAll K hd O H xs ds
/-- H0: the heap ahead of the expression -/
def RepM (m : Mode) (K : PySem.W.Frag) (hd : Addr) (Oe : List Addr) (H0 : Hp) (O : List Addr) (H : Hp) (v : V) (d : D) : Prop :=
  match m with
  | .bo => RepB K hd Oe O H v d
  | .sh => Rep K hd O H v d
  | .fr => ∃ a xs ds, v = .ref a ∧ d = .list ds ∧ H0 a = none ∧ H a = some (.lst xs) ∧ xs.length ≤ SZ ∧ RepAll K hd (a :: O) H xs ds
section
variable {K : PySem.W.Frag} {hd : Addr} {Oe O : List Addr} {H0 H0' H H' : Hp} {v : V} {d : D}
theorem RepB.ext (r : RepB K hd Oe O H v d) (hE : hd ∈ Oe) (h0 : hd ∈ O) (e : Ext hd H H') : RepB K hd Oe O H' v d := by
  rcases r with r | ⟨a, xs, ds, e1, e2, n, s, z, r⟩
  · exact .inl (r.ext h0 e)
  · exact .inr ⟨a, xs, ds, e1, e2, n, e.keep _ _ (fun q => n (q ▸ hE)) s, z, r.ext h0 e⟩
theorem RepM.shr {m : Mode} (hm : m ≠ .bo) (r : RepM m K hd Oe H0 O H v d) (ho : ∀ b ∈ O, H0 b ≠ none) : Rep K hd O H v d := by
  cases m with
  | bo => exact absurd rfl hm
  | sh => exact r
  | fr => obtain ⟨a, xs, ds, rfl, rfl, n, s, z, r⟩ := r; exact .lst s (fun q => ho a q n) z (r.less fun _ q => List.mem_cons_of_mem _ q)
theorem RepM.b {m : Mode} (r : RepM m K hd Oe H0 O H v d) (ho : ∀ b ∈ O, H0 b ≠ none) : RepB K hd Oe O H v d := by
  cases m with
  | bo => exact r
  | sh => exact .inl r
  | fr => exact .inl (RepM.shr (m := .fr) (by decide) r ho)
theorem RepB.lst {ds : List D} (r : RepB K hd Oe O H v (.list ds)) (hE : ∀ b ∈ Oe, b ∈ O) : ∃ a xs, v = .ref a ∧ a ∉ Oe ∧ H a = some (.lst xs) ∧ xs.length ≤ SZ ∧ RepAll K hd O H xs ds := by
  rcases r with r | ⟨a, xs, ds', e1, e2, n, s, z, r⟩
  · cases r with
    | lst h n z r => exact ⟨_, _, rfl, fun q => n (hE _ q), h, z, r⟩
  · cases e2; exact ⟨a, xs, e1, n, s, z, r⟩
theorem RepB.tup {ds : List D} (r : RepB K hd Oe O H v (.tuple ds)) : ∃ a xs, v = .ref a ∧ TupAt K H a xs ∧ xs.length ≤ SZ ∧ RepAll K hd O H xs ds := by
  rcases r with r | ⟨a, xs, ds', e1, e2, n, s, z, r⟩
  · cases r with
    | tup h z r => exact ⟨_, _, rfl, h, z, r⟩
  · cases e2
theorem RepB.int {i : Int} (r : RepB K hd Oe O H v (.int i)) : v = .int i := by
  rcases r with r | ⟨a, xs, ds', e1, e2, _⟩
  · cases r; rfl
  · cases e2
theorem RepB.bl {i : Bool} (r : RepB K hd Oe O H v (.bool i)) : v = .bl i := by
  rcases r with r | ⟨a, xs, ds', e1, e2, _⟩
  · cases r; rfl
  · cases e2
theorem RepB.non (r : RepB K hd Oe O H v .none) : v = .non := by
  rcases r with r | ⟨a, xs, ds', e1, e2, _⟩
  · cases r; rfl
  · cases e2
theorem RepB.str {i : Str} (r : RepB K hd Oe O H v (.str i)) : v = .str i := by
  rcases r with r | ⟨a, xs, ds', e1, e2, _⟩
  · cases r; rfl
  · cases e2
end

/-! ### the hand stands -/
structure HandIs (hd hc : Addr) (w : W) (H : Hp) : Prop where
  at_ : H hd = some (.lst [.ref hc, .int w.i, .int w.rest, .int w.mix, .int w.cnt])
  cells : H hc = some (.lst (w.cells.map V.int))
  ne : hc ≠ hd
  sz : w.cells.length ≤ SZ
theorem HandIs.keep {hd hc : Addr} {w : W} {H H' : Hp} (h : HandIs hd hc w H) (k : H' hd = H hd) (k2 : H' hc = H hc) : HandIs hd hc w H' := ⟨k.trans h.at_, k2.trans h.cells, h.ne, h.sz⟩
theorem HandIs.new {hd hc : Addr} {w : W} {H : Hp} {p : Addr} {o : HO} (h : HandIs hd hc w H) (n : H p = none) : HandIs hd hc w (upd H p o) :=
  h.keep (upd_ne (ne_of_none h.at_ n)) (upd_ne (ne_of_none h.cells n))
/-- a new address of a later heap was new -/
theorem Ext.old {hd hc : Addr} {w : W} {H H' : Hp} {a : Addr} (e : Ext hd H H') (h : HandIs hd hc w H') (n : H' a = none) : H a = none := by
  cases q : H a with
  | none => rfl
  | some o =>
    by_cases z : a = hd
    · subst z; rw [h.at_] at n; cases n
    · rw [e.keep a o z q] at n; cases n
theorem RepM.base {m : Mode} {K : PySem.W.Frag} {hd hc : Addr} {w : W} {Oe O : List Addr} {H0 H1 H : Hp} {v : V} {d : D} (r : RepM m K hd Oe H1 O H v d) (e : Ext hd H0 H1) (h : HandIs hd hc w H1) : RepM m K hd Oe H0 O H v d := by
  cases m with
  | bo => exact r
  | sh => exact r
  | fr => obtain ⟨a, xs, ds, rfl, rfl, n, s, z, r⟩ := r; exact ⟨a, xs, ds, rfl, rfl, e.old h n, s, z, r⟩
theorem RepM.later {m : Mode} {K : PySem.W.Frag} {hd : Addr} {Oe O : List Addr} {H0 H H' : Hp} {v : V} {d : D} (r : RepM m K hd Oe H0 O H v d) (hE : hd ∈ Oe) (hO : hd ∈ O) (h0 : H0 hd ≠ none) (e : Ext hd H H') : RepM m K hd Oe H0 O H' v d := by
  cases m with
  | bo => exact RepB.ext r hE hO e
  | sh => exact Rep.ext r hO e
  | fr => obtain ⟨a, xs, ds, rfl, rfl, n, s, z, r⟩ := r; exact ⟨a, xs, ds, rfl, rfl, n, e.keep a _ (fun z => h0 (z ▸ n)) s, z, r.ext (List.mem_cons_of_mem _ hO) e⟩

/-! ### the state of a def's frame -/
def SlotOk (K : PySem.W.Frag) (hd : Addr) (H0 : Hp) (O : List Addr) (H : Hp) : Slot → Option (Option V) → Prop
  | .no, _ => True
  | .sh d, o => ∃ v, o = some (some v) ∧ Rep K hd O H v d
  | .ow d, o => ∃ a xs ds, o = some (some (.ref a)) ∧ d = .list ds ∧ H a = some (.lst xs) ∧ xs.length ≤ SZ ∧ RepAll K hd O H xs ds ∧ a ∈ O ∧ H0 a = none
structure Stt (K : PySem.W.Frag) (hd hc : Addr) (H0 : Hp) (Oe O : List Addr) (w : W) (env : Env) (σ : List (Option V)) (H : Hp) : Prop where
  ext : Ext hd H0 H
  hd0 : H0 hd ≠ none
  hc0 : H0 hc ≠ none
  hdE : hd ∈ Oe
  hcO : hc ∉ O
  sub : ∀ b ∈ Oe, b ∈ O
  oe : ∀ b ∈ Oe, H0 b ≠ none
  onn : ∀ b ∈ O, H b ≠ none
  hand : HandIs hd hc w H
  len : env.length = σ.length
  slot : ∀ (i : Nat) (s : Slot), env[i]? = some s → SlotOk K hd H0 O H s σ[i]?
  dist : ∀ (i j : Nat) (d e : D) (a : Addr), env[i]? = some (.ow d) → env[j]? = some (.ow e) → σ[i]? = some (some (.ref a)) → σ[j]? = some (some (.ref a)) → i = j
section
variable {K : PySem.W.Frag} {hd hc : Addr} {H0 : Hp} {Oe O : List Addr} {w w' : W} {env : Env} {σ : List (Option V)} {H H' : Hp}
theorem Stt.hdO (S : Stt K hd hc H0 Oe O w env σ H) : hd ∈ O := S.sub _ S.hdE
theorem Stt.neh (S : Stt K hd hc H0 Oe O w env σ H) {a : Addr} (h : H0 a = none) : a ≠ hd ∧ a ≠ hc ∧ a ∉ Oe := ⟨fun z => S.hd0 (z ▸ h), fun z => S.hc0 (z ▸ h), fun z => S.oe a z h⟩
theorem Stt.hdn (S : Stt K hd hc H0 Oe O w env σ H) : H hd ≠ none := by rw [S.hand.at_]; intro z; cases z
/-- behind an expression -/
theorem Stt.step (S : Stt K hd hc H0 Oe O w env σ H) (e : Ext hd H H') (h : HandIs hd hc w' H') : Stt K hd hc H0 Oe O w' env σ H' where
  ext := S.ext.trans e
  hd0 := S.hd0
  hc0 := S.hc0
  hdE := S.hdE
  hcO := S.hcO
  sub := S.sub
  oe := S.oe
  onn := fun b hb z => S.onn b hb (e.old h z)
  hand := h
  len := S.len
  slot := fun i s hs => by
    have q := S.slot i s hs
    cases s with
    | no => trivial
    | sh d => obtain ⟨v, e1, r⟩ := q; exact ⟨v, e1, r.ext S.hdO e⟩
    | ow d =>
      obtain ⟨a, xs, ds, e1, e2, ha, z, r, m, n⟩ := q
      exact ⟨a, xs, ds, e1, e2, e.keep a _ (S.neh n).1 ha, z, r.ext S.hdO e, m, n⟩
  dist := S.dist
end
end DL

set_option maxRecDepth 100000
/-! DL2: expressions -/
namespace DL
open PySem L2

abbrev F1 (α : Type) := Env → W → Option (α × W)

/-- t gives what f says -/
structure SndE (K : PySem.W.Frag) (m : Mode) (t : TE) (f : F1 D) : Prop where
  go : ∀ {hd hc : Addr} {H0 : Hp} {Oe O : List Addr} {w : W} {env : Env} {σ : List (Option V)} {H : Hp}, Stt K hd hc H0 Oe O w env σ H → ∀ {d : D} {w' : W}, f env w = some (d, w') →
    ∀ (Q : VK), (∀ v H', Ext hd H H' → HandIs hd hc w' H' → RepM m K hd Oe H O H' v d → Q v H') → t σ H Q
structure SndT (K : PySem.W.Frag) (t : TT) (f : F1 Bool) : Prop where
  go : ∀ {hd hc : Addr} {H0 : Hp} {Oe O : List Addr} {w : W} {env : Env} {σ : List (Option V)} {H : Hp}, Stt K hd hc H0 Oe O w env σ H → ∀ {d : Bool} {w' : W}, f env w = some (d, w') →
    ∀ (Q : Bool → Hp → Prop), (∀ H', Ext hd H H' → HandIs hd hc w' H' → Q d H') → t σ H Q

/-- values by modes: as the addresses of the new lists among them -/
inductive RepMs (K : PySem.W.Frag) (hd : Addr) (Oe O2 : List Addr) (H : Hp) : List Addr → List Mode → List V → List D → Prop
  | nil : RepMs K hd Oe O2 H [] [] [] []
  | sh {as : List Addr} {ms : List Mode} {v : V} {vs : List V} {d : D} {ds : List D} : Rep K hd O2 H v d → RepMs K hd Oe O2 H as ms vs ds → RepMs K hd Oe O2 H as (.sh :: ms) (v :: vs) (d :: ds)
  | bo {as : List Addr} {ms : List Mode} {v : V} {vs : List V} {d : D} {ds : List D} : RepB K hd Oe O2 H v d → RepMs K hd Oe O2 H as ms vs ds → RepMs K hd Oe O2 H as (.bo :: ms) (v :: vs) (d :: ds)
  | fr {as : List Addr} {ms : List Mode} {a : Addr} {xs vs : List V} {es ds : List D} : H a = some (.lst xs) → xs.length ≤ SZ → RepAll K hd O2 H xs es → RepMs K hd Oe O2 H as ms vs ds →
      RepMs K hd Oe O2 H (a :: as) (.fr :: ms) (.ref a :: vs) (.list es :: ds)
/-- the new addresses -/
structure News (H0 H : Hp) (O O2 as : List Addr) : Prop where
  new : ∀ a ∈ as, H0 a = none
  ex : ∀ a ∈ as, H a ≠ none
  nd : as.Nodup
  mem : ∀ b, b ∈ O2 ↔ b ∈ as ∨ b ∈ O
structure SndA (K : PySem.W.Frag) (ms : List Mode) (t : TA) (f : F1 (List D)) : Prop where
  go : ∀ {hd hc : Addr} {H0 : Hp} {Oe O : List Addr} {w : W} {env : Env} {σ : List (Option V)} {H : Hp}, Stt K hd hc H0 Oe O w env σ H → ∀ {d : List D} {w' : W}, f env w = some (d, w') →
    ∀ (Q : List V → Hp → Prop), (∀ vs H' as O2, Ext hd H H' → HandIs hd hc w' H' → News H H' O O2 as → RepMs K hd Oe O2 H' as ms vs d → Q vs H') → t σ H Q
section
variable {K : PySem.W.Frag} {hd hc : Addr} {Oe O O2 as : List Addr} {H0 H H' : Hp} {w : W}
theorem RepMs.len1 : ∀ {as : List Addr} {ms : List Mode} {vs : List V} {ds : List D}, RepMs K hd Oe O2 H as ms vs ds → vs.length = ms.length
  | _, _, _, _, .nil => rfl
  | _, _, _, _, .sh _ t => by simp [t.len1]
  | _, _, _, _, .bo _ t => by simp [t.len1]
  | _, _, _, _, .fr _ _ _ t => by simp [t.len1]
theorem RepMs.len2 : ∀ {as : List Addr} {ms : List Mode} {vs : List V} {ds : List D}, RepMs K hd Oe O2 H as ms vs ds → ds.length = ms.length
  | _, _, _, _, .nil => rfl
  | _, _, _, _, .sh _ t => by simp [t.len2]
  | _, _, _, _, .bo _ t => by simp [t.len2]
  | _, _, _, _, .fr _ _ _ t => by simp [t.len2]
theorem RepMs.all_ (hO : ∀ b ∈ O, b ∈ O2) : ∀ {as : List Addr} {ms : List Mode} {vs : List V} {ds : List D}, RepMs K hd Oe O2 H as ms vs ds → (∀ m ∈ ms, m ≠ .bo) → (∀ a ∈ as, a ∉ O) → RepAll K hd O H vs ds
  | _, _, _, _, .nil, _, _ => .nil
  | _, _, _, _, .sh r t, h, o => .cons (r.less hO) (t.all_ hO (fun m hm => h m (List.mem_cons_of_mem _ hm)) o)
  | _, _, _, _, .bo _ _, h, _ => absurd rfl (h _ List.mem_cons_self)
  | _, _, _, _, .fr ha z r t, h, o => .cons (.lst ha (o _ List.mem_cons_self) z (r.less hO)) (t.all_ hO (fun m hm => h m (List.mem_cons_of_mem _ hm)) fun a ha => o a (List.mem_cons_of_mem _ ha))
theorem RepMs.all {ms : List Mode} {vs : List V} {ds : List D} (r : RepMs K hd Oe O2 H as ms vs ds) (n : News H0 H O O2 as) (h : ms.all (fun m => m != .bo) = true) (ho : ∀ b ∈ O, H0 b ≠ none) : RepAll K hd O H vs ds :=
  r.all_ (fun b hb => (n.mem b).mpr (.inr hb)) (fun m hm => by simpa using List.all_eq_true.mp h m hm) fun a ha hO => ho a hO (n.new a ha)
theorem News.prog (n : News H H' O O2 as) (e : Ext hd H H') (h : hd ∈ O) : Prog O H O2 H' :=
  ⟨fun b o nb q => ⟨fun z => by
    rcases (n.mem b).mp z with z | z
    · rw [n.new b z] at q; cases q
    · exact nb z, e.keep b o (fun z => nb (z ▸ h)) q⟩, e.tups⟩
/-- a new list, laid by an expression, becomes one of the owned -/
theorem Stt.stepL {H0 : Hp} {env : Env} {σ : List (Option V)} {w' : W} (S : Stt K hd hc H0 Oe O w env σ H) (e : Ext hd H H') (h : HandIs hd hc w' H') (n : News H H' O O2 as) : Stt K hd hc H0 Oe O2 w' env σ H' := by
  have S1 := S.step e h
  have g := n.prog e S.hdO
  exact {
    ext := S1.ext, hd0 := S.hd0, hc0 := S.hc0, hdE := S.hdE, hcO := fun z => (n.mem hc).mp z |>.elim (fun z => by have := n.new hc z; rw [S.hand.cells] at this; cases this) S.hcO, sub := fun b hb => (n.mem b).mpr (.inr (S.sub b hb)), oe := S.oe,
    onn := fun b hb z => by
      rcases (n.mem b).mp hb with hb | hb
      · exact n.ex b hb z
      · exact S1.onn b hb z
    hand := h, len := S.len,
    slot := fun i s hs => by
      have q := S.slot i s hs
      cases s with
      | no => trivial
      | sh d => obtain ⟨v, e1, r⟩ := q; exact ⟨v, e1, r.prog g⟩
      | ow d =>
        obtain ⟨b, xs, ds, e1, e2, hb, z, r, m, k⟩ := q
        exact ⟨b, xs, ds, e1, e2, e.keep b _ (S.neh k).1 hb, z, r.prog g, (n.mem b).mpr (.inr m), k⟩
    dist := S.dist }
end

/-! ### what is denoted -/
def eVar (i : Nat) : F1 D := fun env w => match env[i]? with
  | some (.sh d) => some (d, w)
  | _ => none
def eBor (i : Nat) : F1 D := fun env w => match env[i]? with
  | some (.sh d) => some (d, w)
  | some (.ow d) => some (d, w)
  | _ => none
def eC (d : D) : F1 D := fun _ w => some (d, w)
def e2 (g : D → D → Option D) (fa fb : F1 D) : F1 D := fun env w => (fa env w).bind fun p => (fb env p.2).bind fun q => (g p.1 q.1).map fun d => (d, q.2)
def e1 (g : D → Option D) (fa : F1 D) : F1 D := fun env w => (fa env w).bind fun p => (g p.1).map fun d => (d, p.2)
def eA0 : F1 (List D) := fun _ w => some ([], w)
def eA (fa : F1 D) (fr : F1 (List D)) : F1 (List D) := fun env w => (fa env w).bind fun p => (fr env p.2).map fun q => (p.1 :: q.1, q.2)
def eTup (f : F1 (List D)) : F1 D := fun env w => (f env w).map fun p => (.tuple p.1, p.2)
def eLst (f : F1 (List D)) : F1 D := fun env w => (f env w).map fun p => (.list p.1, p.2)
def asB : D → Option Bool
  | .bool b => some b
  | _ => none
def bV (f : F1 D) : F1 Bool := fun env w => (f env w).bind fun p => (asB p.1).map fun b => (b, p.2)
def bAnd (f g : F1 Bool) : F1 Bool := fun env w => (f env w).bind fun p => if p.1 = true then g env p.2 else some (false, p.2)
def bOr (f g : F1 Bool) : F1 Bool := fun env w => (f env w).bind fun p => if p.1 = true then some (true, p.2) else g env p.2
def bNot (f : F1 Bool) : F1 Bool := fun env w => (f env w).map fun p => (!p.1, p.2)
def eAndV (f g : F1 D) : F1 D := fun env w => (f env w).bind fun p => (asB p.1).bind fun b => if b = true then g env p.2 else some (.bool false, p.2)
def eOrV (f g : F1 D) : F1 D := fun env w => (f env w).bind fun p => (asB p.1).bind fun b => if b = true then some (.bool true, p.2) else g env p.2
def eNotV (f : F1 D) : F1 D := fun env w => (f env w).bind fun p => (asB p.1).map fun b => (.bool (!b), p.2)
def eIf (t : F1 Bool) (f g : F1 D) : F1 D := fun env w => (t env w).bind fun p => if p.1 = true then f env p.2 else g env p.2
def eCall (g : List D → W → Option (D × W)) (fa : F1 (List D)) : F1 D := fun env w => (fa env w).bind fun p => g p.1 p.2

section
variable {K : PySem.W.Frag} {m ma mb : Mode} {ta tb : TE} {fa fb : F1 D}
theorem bindS {α β : Type} {x : Option α} {k : α → Option β} {b : β} (h : x.bind k = some b) : ∃ a, x = some a ∧ k a = some b := Option.bind_eq_some_iff.mp h
theorem mapS {α β : Type} {x : Option α} {k : α → β} {b : β} (h : x.map k = some b) : ∃ a, x = some a ∧ k a = b := Option.map_eq_some_iff.mp h

theorem SndE.bo (h : SndE K m ta fa) : SndE K .bo ta fa := ⟨fun S _ _ e Q q => h.go S e Q fun v H' e' h' r => q v H' e' h' (r.b S.onn)⟩
theorem SndE.sh (h : SndE K .fr ta fa) : SndE K .sh ta fa := ⟨fun S _ _ e Q q => h.go S e Q fun v H' e' h' r => q v H' e' h' (r.shr (by decide) S.onn)⟩

/-! ### names, constants -/
theorem sn_var (i : Nat) : SndE K .sh (tVar i) (eVar i) := ⟨fun {hd hc H0 Oe O w env σ H} S d w' e Q q => by
  unfold eVar at e
  split at e
  · rename_i d' hd'
    cases e
    obtain ⟨v, e1, r⟩ := S.slot i _ hd'
    exact ⟨v, e1, q v H .refl S.hand r⟩
  · cases e⟩
theorem sn_bor (i : Nat) : SndE K .bo (tVar i) (eBor i) := ⟨fun {hd hc H0 Oe O w env σ H} S d w' e Q q => by
  unfold eBor at e
  split at e
  · rename_i d' hd'
    cases e
    obtain ⟨v, e1, r⟩ := S.slot i _ hd'
    exact ⟨v, e1, q v H .refl S.hand (.inl r)⟩
  · rename_i d' hd'
    cases e
    obtain ⟨a, xs, ds, e1, rfl, ha, z, r, hO, hn⟩ := S.slot i _ hd'
    exact ⟨_, e1, q _ H .refl S.hand (.inr ⟨a, xs, ds, rfl, rfl, (S.neh hn).2.2, ha, z, r⟩)⟩
  · cases e⟩
theorem sn_int (i : Int) : SndE K .sh (tC (.int i)) (eC (.int i)) := ⟨fun S _ _ e Q q => by cases e; exact q _ _ .refl S.hand (.int i)⟩
theorem sn_bl (i : Bool) : SndE K .sh (tC (.bl i)) (eC (.bool i)) := ⟨fun S _ _ e Q q => by cases e; exact q _ _ .refl S.hand (.bl i)⟩
theorem sn_str (i : Str) : SndE K .sh (tC (.str i)) (eC (.str i)) := ⟨fun S _ _ e Q q => by cases e; exact q _ _ .refl S.hand (.str i)⟩
theorem sn_non : SndE K .sh (tC .non) (eC .none) := ⟨fun S _ _ e Q q => by cases e; exact q _ _ .refl S.hand .non⟩

/-! ### operators by values -/
def Op2 (K : PySem.W.Frag) (m : Mode) (r : R2) (g : D → D → Option D) : Prop :=
  ∀ {hd hc : Addr} {Oe O : List Addr} {w : W} {H : Hp} {x y : V} {dx dy d : D} {Q : VK}, hd ∈ Oe → (∀ b ∈ Oe, b ∈ O) → (∀ b ∈ O, H b ≠ none) → HandIs hd hc w H → RepB K hd Oe O H x dx → RepB K hd Oe O H y dy → g dx dy = some d →
    (∀ v H', Ext hd H H' → HandIs hd hc w H' → RepM m K hd Oe H O H' v d → Q v H') → r x y H Q
def Op1 (K : PySem.W.Frag) (m : Mode) (r : V → Hp → VK → Prop) (g : D → Option D) : Prop :=
  ∀ {hd hc : Addr} {Oe O : List Addr} {w : W} {H : Hp} {x : V} {dx d : D} {Q : VK}, hd ∈ Oe → (∀ b ∈ Oe, b ∈ O) → (∀ b ∈ O, H b ≠ none) → HandIs hd hc w H → RepB K hd Oe O H x dx → g dx = some d →
    (∀ v H', Ext hd H H' → HandIs hd hc w H' → RepM m K hd Oe H O H' v d → Q v H') → r x H Q
def Cl1 (K : PySem.W.Frag) (m : Mode) (r : List V → Hp → VK → Prop) (g : D → Option D) : Prop := Op1 K m (fun x H Q => r [x] H Q) g
def Cl2 (K : PySem.W.Frag) (m : Mode) (r : List V → Hp → VK → Prop) (g : D → D → Option D) : Prop := Op2 K m (fun x y H Q => r [x, y] H Q) g
def Mt1 (K : PySem.W.Frag) (m : Mode) (r : V → List V → Hp → VK → Prop) (g : D → D → Option D) : Prop := Op2 K m (fun x y H Q => r x [y] H Q) g

/-- two operands, one behind the other -/
theorem two (ha : SndE K ma ta fa) (hb : SndE K mb tb fb) {hd hc : Addr} {H0 : Hp} {Oe O : List Addr} {w : W} {env : Env} {σ : List (Option V)} {H : Hp} (S : Stt K hd hc H0 Oe O w env σ H)
    {x y : D} {w1 w2 : W} (e1 : fa env w = some (x, w1)) (e2 : fb env w1 = some (y, w2)) {R : V → V → Hp → Prop}
    (k : ∀ v u H2, Ext hd H H2 → Stt K hd hc H0 Oe O w2 env σ H2 → RepM ma K hd Oe H O H2 v x → RepM mb K hd Oe H O H2 u y → R v u H2) : ta σ H fun v H1 => tb σ H1 fun u H2 => R v u H2 :=
  ha.go S e1 _ fun v H1 x1 h1 r1 => hb.go (S.step x1 h1) e2 _ fun u H2 x2 h2 r2 =>
    k v u H2 (x1.trans x2) (S.step (x1.trans x2) h2) (r1.later S.hdE S.hdO S.hdn x2) (r2.base x1 h1)
theorem sn_op {r : R2} {g : D → D → Option D} (ho : Op2 K m r g) (ha : SndE K ma ta fa) (hb : SndE K mb tb fb) : SndE K m (tOp r ta tb) (e2 g fa fb) := ⟨fun {hd hc H0 Oe O w env σ H} S d w' e Q q => by
  obtain ⟨⟨x, w1⟩, h1, e⟩ := bindS e
  obtain ⟨⟨y, w2⟩, h2, e⟩ := bindS e
  obtain ⟨z, h3, e⟩ := mapS e
  cases e
  exact two ha hb S h1 h2 fun v u H2 x2 S2 r1 r2 => ho S.hdE S.sub S2.onn S2.hand (r1.b S.onn) (r2.b S.onn) h3 fun z H' x3 h3 r3 => q z H' (x2.trans x3) h3 (r3.base x2 S2.hand)⟩
theorem sn_un {r : V → Hp → VK → Prop} {g : D → Option D} (ho : Op1 K m r g) (ha : SndE K ma ta fa) : SndE K m (tUn r ta) (e1 g fa) := ⟨fun {hd hc H0 Oe O w env σ H} S d w' e Q q => by
  obtain ⟨⟨x, w1⟩, h1, e⟩ := bindS e
  obtain ⟨z, h3, e⟩ := mapS e
  cases e
  exact ha.go S h1 _ fun v H1 x1 h1 r1 => ho S.hdE S.sub (S.step x1 h1).onn h1 (r1.b S.onn) h3 fun z H' x3 h3 r3 => q z H' (x1.trans x3) h3 (r3.base x1 h1)⟩
theorem sn_cb1 {r : List V → Hp → VK → Prop} {g : D → Option D} (ho : Cl1 K m r g) (ha : SndE K ma ta fa) : SndE K m (tCB r (tCons ta tNil)) (e1 g fa) := sn_un (r := fun x H Q => r [x] H Q) ho ha
theorem sn_cb2 {r : List V → Hp → VK → Prop} {g : D → D → Option D} (ho : Cl2 K m r g) (ha : SndE K ma ta fa) (hb : SndE K mb tb fb) : SndE K m (tCB r (tCons ta (tCons tb tNil))) (e2 g fa fb) :=
  sn_op (r := fun x y H Q => r [x, y] H Q) ho ha hb

/-! ### displays, calls of own defs -/

theorem News.nil {H : Hp} {O : List Addr} : News H H O O [] := ⟨fun _ h => (nomatch h), fun _ h => (nomatch h), List.nodup_nil, fun b => by simp⟩
theorem sn_a0 : SndA K [] tNil eA0 := ⟨fun S _ _ e Q q => by cases e; exact q _ _ _ _ .refl S.hand .nil .nil⟩
theorem sn_a {ms : List Mode} {t : TA} {f : F1 (List D)} (ha : SndE K m ta fa) (ht : SndA K ms t f) : SndA K (m :: ms) (tCons ta t) (eA fa f) := ⟨fun {hd hc H0 Oe O w env σ H} S d w' e Q q => by
  obtain ⟨⟨x, w1⟩, e1, e⟩ := bindS e
  obtain ⟨⟨y, w2⟩, e2, e⟩ := mapS e
  cases e
  refine ha.go S e1 _ fun v H1 x1 h1 r1 => ?_
  cases m with
  | sh => exact ht.go (S.step x1 h1) e2 _ fun vs H2 as O2 x2 h2 n r2 => q _ H2 as O2 (x1.trans x2) h2 ⟨fun a ha => x1.old h1 (n.new a ha), n.ex, n.nd, n.mem⟩ (.sh (Rep.prog (n.prog x2 S.hdO) r1) r2)
  | bo => exact ht.go (S.step x1 h1) e2 _ fun vs H2 as O2 x2 h2 n r2 => q _ H2 as O2 (x1.trans x2) h2 ⟨fun a ha => x1.old h1 (n.new a ha), n.ex, n.nd, n.mem⟩ (.bo (by
      rcases r1 with r1 | ⟨a, xs, ds, e1, e2, na, s, z, r1⟩
      · exact .inl (r1.prog (n.prog x2 S.hdO))
      · exact .inr ⟨a, xs, ds, e1, e2, na, x2.keep _ _ (fun z => na (z ▸ S.hdE)) s, z, r1.prog (n.prog x2 S.hdO)⟩) r2)
  | fr =>
    obtain ⟨a, xs, ds, rfl, rfl, na, hA, z, r1⟩ := r1
    have ane : H1 a ≠ none := by
      rw [hA]
      intro q
      cases q
    have n1 : News H H1 O (a :: O) [a] := ⟨fun b hb => (by rw [List.mem_singleton.mp hb]; exact na), fun b hb => (by rw [List.mem_singleton.mp hb]; exact ane), (by simp), fun b => (by simp)⟩
    refine ht.go (S.stepL x1 h1 n1) e2 _ fun vs H2 as O2 x2 h2 n r2 => q _ H2 (a :: as) O2 (x1.trans x2) h2 ⟨fun b hb => ?_, fun b hb => ?_, ?_, fun b => ?_⟩ (.fr (x2.keep _ _ (fun z => S.hdn (z ▸ na)) hA) z (r1.prog (n.prog x2 (List.mem_cons_of_mem _ S.hdO))) r2)
    · rcases List.mem_cons.mp hb with rfl | hb
      · exact na
      · exact x1.old h1 (n.new b hb)
    · rcases List.mem_cons.mp hb with rfl | hb
      · rw [x2.keep _ _ (fun z => S.hdn (z ▸ na)) hA]
        intro q
        cases q
      · exact n.ex b hb
    · exact List.nodup_cons.mpr ⟨fun z => absurd (n.new a z) ane, n.nd⟩
    · rw [n.mem b]
      simp only [List.mem_cons]
      constructor
      · rintro (h | h | h)
        · exact .inl (.inr h)
        · exact .inl (.inl h)
        · exact .inr h
      · rintro ((h | h) | h)
        · exact .inr (.inl h)
        · exact .inl h
        · exact .inr (.inr h)⟩
theorem sn_tup {ms : List Mode} {t : TA} {f : F1 (List D)} (ht : SndA K ms t f) (h1 : ms.all (fun m => m != .bo) = true := by rfl) (h2 : ms.length ≤ SZ := by decide) : SndE K .sh (tTup t) (eTup f) := ⟨fun {hd hc H0 Oe O w env σ H} S d w' e Q q => by
  obtain ⟨⟨x, w1⟩, h3, e⟩ := mapS e
  cases e
  exact ht.go S h3 _ fun vs H1 as O2 x1 hh n1 r1 => by
    have l : vs.length ≤ SZ := by rw [r1.len1]; exact h2
    refine ⟨l, fun p np => q _ _ (x1.trans (.new np)) (hh.new np) ?_⟩
    have ra := r1.all n1 h1 S.onn
    exact .tup (.inl upd_same) l (ra.ext S.hdO (.new np))⟩
theorem sn_lst {ms : List Mode} {t : TA} {f : F1 (List D)} (ht : SndA K ms t f) (h1 : ms.all (fun m => m != .bo) = true := by rfl) (h2 : ms.length ≤ SZ := by decide) : SndE K .fr (tLst t) (eLst f) := ⟨fun {hd hc H0 Oe O w env σ H} S d w' e Q q => by
  obtain ⟨⟨x, w1⟩, h3, e⟩ := mapS e
  cases e
  exact ht.go S h3 _ fun vs H1 as O2 x1 hh n1 r1 => by
    have l : vs.length ≤ SZ := by rw [r1.len1]; exact h2
    refine ⟨l, fun p np => q _ _ (x1.trans (.new np)) (hh.new np) ?_⟩
    have ra := r1.all n1 h1 S.onn
    exact ⟨p, vs, x, rfl, rfl, x1.old hh np, upd_same, l, ra.prog (.new np)⟩⟩

/-- a def's promise: what g says of data -/
def spD (K : PySem.W.Frag) (n : Nat) (g : List D → W → Option (D × W)) : Sp := fun vs H Q _ => ∃ (hd hc : Addr) (Oe : List Addr) (ds : List D) (w : W) (d : D) (w' : W),
  hd ∈ Oe ∧ hc ∉ Oe ∧ (∀ b ∈ Oe, H b ≠ none) ∧ HandIs hd hc w H ∧ RepAll K hd Oe H vs ds ∧ ds.length = n ∧ g ds w = some (d, w') ∧ ∀ v H', Ext hd H H' → HandIs hd hc w' H' → Rep K hd Oe H' v d → Q v H'
theorem spD.len {n : Nat} {g : List D → W → Option (D × W)} {vs : List V} {H : Hp} {Q : VK} {E : XK} (h : spD K n g vs H Q E) : vs.length = n := by
  obtain ⟨hd, hc, Oe, ds, w, d, w', _, _, _, _, r, l, _⟩ := h
  rw [r.len, l]
theorem sn_call {n : Nat} {ms : List Mode} {t : TA} {f : F1 (List D)} {g : List D → W → Option (D × W)} {E : XK} (ht : SndA K ms t f) (h1 : ms.all (fun m => m != .bo) = true := by rfl) (h2 : ms.length = n := by rfl) :
    SndE K .sh (tCall (spD K n g) [] E t) (eCall g f) := ⟨fun {hd hc H0 Oe O w env σ H} S d w' e Q q => by
  obtain ⟨⟨x, w1⟩, h3, e⟩ := bindS e
  exact ht.go S h3 _ fun vs H1 as O2 x1 hh n1 r1 => by
    have ra := r1.all n1 h1 S.onn
    refine ⟨hd, hc, O, x, w1, d, w', S.hdO, S.hcO, (S.step x1 hh).onn, hh, by rw [List.append_nil]; exact ra, by rw [r1.len2, h2], e, fun v H' x2 h2 r2 => q v H' (x1.trans x2) h2 r2⟩⟩

/-! ### tests -/
theorem sn_tst (h : SndE K m ta fa) : SndT K (tTest ta) (bV fa) := ⟨fun {hd hc H0 Oe O w env σ H} S d w' e Q q => by
  obtain ⟨⟨x, w1⟩, h1, e⟩ := bindS e
  obtain ⟨b, h2, e⟩ := mapS e
  cases e
  refine h.go S h1 _ fun v H' x1 hh r => ?_
  cases x with
  | bool b' =>
    cases h2
    exact ⟨_, (r.b S.onn).bl, q H' x1 hh⟩
  | _ => cases h2⟩
theorem sn_tB (h : SndE K m ta fa) : SndT K (tB ta) (bV fa) := sn_tst h
variable {tt tu : TT} {ft fu : F1 Bool}
theorem sn_and (h : SndT K tt ft) (h' : SndT K tu fu) : SndT K (tAnd tt tu) (bAnd ft fu) := ⟨fun {hd hc H0 Oe O w env σ H} S d w' e Q q => by
  obtain ⟨⟨x, w1⟩, h1, e⟩ := bindS e
  refine h.go S h1 _ fun H' x1 hh => ?_
  by_cases c : x = true
  · rw [if_pos c]; rw [if_pos (show (x, w1).1 = true from c)] at e
    exact h'.go (S.step x1 hh) e _ fun H2 x2 h2 => q H2 (x1.trans x2) h2
  · rw [if_neg c]; rw [if_neg (show ¬ (x, w1).1 = true from c)] at e
    cases e; exact q H' x1 hh⟩
theorem sn_or (h : SndT K tt ft) (h' : SndT K tu fu) : SndT K (tOr tt tu) (bOr ft fu) := ⟨fun {hd hc H0 Oe O w env σ H} S d w' e Q q => by
  obtain ⟨⟨x, w1⟩, h1, e⟩ := bindS e
  refine h.go S h1 _ fun H' x1 hh => ?_
  by_cases c : x = true
  · rw [if_pos c]; rw [if_pos (show (x, w1).1 = true from c)] at e
    cases e; exact q H' x1 hh
  · rw [if_neg c]; rw [if_neg (show ¬ (x, w1).1 = true from c)] at e
    exact h'.go (S.step x1 hh) e _ fun H2 x2 h2 => q H2 (x1.trans x2) h2⟩
theorem sn_not (h : SndT K tt ft) : SndT K (tNot tt) (bNot ft) := ⟨fun {hd hc H0 Oe O w env σ H} S d w' e Q q => by
  obtain ⟨⟨x, w1⟩, h1, e⟩ := mapS e
  cases e
  exact h.go S h1 _ fun H' x1 hh => q H' x1 hh⟩
theorem sn_andV (h : SndE K ma ta fa) (h' : SndE K m tb fb) (hm : m ≠ .fr := by decide) : SndE K m (tAndV ta tb) (eAndV fa fb) := ⟨fun {hd hc H0 Oe O w env σ H} S d w' e Q q => by
  obtain ⟨⟨x, w1⟩, h1, e⟩ := bindS e
  obtain ⟨b, h2, e⟩ := bindS e
  refine h.go S h1 _ fun v H' x1 hh r => ?_
  cases x with
  | bool b' =>
    cases h2
    refine ⟨b, (r.b S.onn).bl, ?_⟩
    by_cases c : b = true
    · rw [if_pos c]; rw [if_pos c] at e
      exact h'.go (S.step x1 hh) e _ fun v H2 x2 h2 r2 => q v H2 (x1.trans x2) h2 (r2.base x1 hh)
    · rw [if_neg c]; rw [if_neg c] at e
      cases e
      refine q _ H' x1 hh ?_
      cases m with
      | bo => exact .inl (.bl false)
      | sh => exact Rep.bl false
      | fr => exact absurd rfl hm
  | _ => cases h2⟩
theorem sn_orV (h : SndE K ma ta fa) (h' : SndE K m tb fb) (hm : m ≠ .fr := by decide) : SndE K m (tOrV ta tb) (eOrV fa fb) := ⟨fun {hd hc H0 Oe O w env σ H} S d w' e Q q => by
  obtain ⟨⟨x, w1⟩, h1, e⟩ := bindS e
  obtain ⟨b, h2, e⟩ := bindS e
  refine h.go S h1 _ fun v H' x1 hh r => ?_
  cases x with
  | bool b' =>
    cases h2
    refine ⟨b, (r.b S.onn).bl, ?_⟩
    by_cases c : b = true
    · rw [if_pos c]; rw [if_pos c] at e
      cases e
      refine q _ H' x1 hh ?_
      cases m with
      | bo => exact .inl (.bl true)
      | sh => exact Rep.bl true
      | fr => exact absurd rfl hm
    · rw [if_neg c]; rw [if_neg c] at e
      exact h'.go (S.step x1 hh) e _ fun v H2 x2 h2 r2 => q v H2 (x1.trans x2) h2 (r2.base x1 hh)
  | _ => cases h2⟩
theorem sn_notV (h : SndE K ma ta fa) : SndE K .sh (tNotV ta) (eNotV fa) := ⟨fun {hd hc H0 Oe O w env σ H} S d w' e Q q => by
  obtain ⟨⟨x, w1⟩, h1, e⟩ := bindS e
  obtain ⟨b, h2, e⟩ := mapS e
  cases e
  refine h.go S h1 _ fun v H' x1 hh r => ?_
  cases x with
  | bool b' =>
    cases h2
    exact ⟨b, (r.b S.onn).bl, q _ H' x1 hh (Rep.bl _)⟩
  | _ => cases h2⟩
theorem sn_ifx (h : SndT K tt ft) (h1 : SndE K m ta fa) (h2 : SndE K m tb fb) : SndE K m (tIf tt ta tb) (eIf ft fa fb) := ⟨fun {hd hc H0 Oe O w env σ H} S d w' e Q q => by
  obtain ⟨⟨x, w1⟩, h3, e⟩ := bindS e
  refine h.go S h3 _ fun H' x1 hh => ?_
  by_cases c : x = true
  · rw [if_pos c]; rw [if_pos (show (x, w1).1 = true from c)] at e
    exact h1.go (S.step x1 hh) e _ fun v H2 x2 h2 r2 => q v H2 (x1.trans x2) h2 (r2.base x1 hh)
  · rw [if_neg c]; rw [if_neg (show ¬ (x, w1).1 = true from c)] at e
    exact h2.go (S.step x1 hh) e _ fun v H2 x2 h2 r2 => q v H2 (x1.trans x2) h2 (r2.base x1 hh)⟩
end
end DL

set_option maxRecDepth 100000
/-! DL3: statements -/
namespace DL
open PySem L2

inductive Out where
  | nx (e : Env) | rt (d : D) | bk (e : Env) | ct (e : Env)

def PostS (K : PySem.W.Frag) (hd hc : Addr) (H0 : Hp) (Oe O : List Addr) (H : Hp) (D : Ends) : Out → W → Prop
  | .nx e, w => ∀ O' σ' H', Stt K hd hc H0 Oe O' w e σ' H' → Prog O H O' H' → D.nx σ' H'
  | .rt d, w => ∀ v H', Ext hd H0 H' → HandIs hd hc w H' → Rep K hd Oe H' v d → D.rt v H'
  | .bk e, w => ∀ O' σ' H', Stt K hd hc H0 Oe O' w e σ' H' → Prog O H O' H' → D.bk σ' H'
  | .ct e, w => ∀ O' σ' H', Stt K hd hc H0 Oe O' w e σ' H' → Prog O H O' H' → D.ct σ' H'
structure SndS (K : PySem.W.Frag) (t : TS) (f : F1 Out) : Prop where
  go : ∀ {hd hc : Addr} {H0 : Hp} {Oe O : List Addr} {w : W} {env : Env} {σ : List (Option V)} {H : Hp}, Stt K hd hc H0 Oe O w env σ H → ∀ {o : Out} {w' : W}, f env w = some (o, w') →
    ∀ (Dn : Ends), PostS K hd hc H0 Oe O H Dn o w' → t Dn σ H
/-- a target: the slots that it sets are in is -/
structure SndG (K : PySem.W.Frag) (is : List Nat) (g : TG) (f : D → Env → Option Env) : Prop where
  go : ∀ {hd hc : Addr} {H0 : Hp} {Oe O : List Addr} {w : W} {env : Env} {σ : List (Option V)} {H : Hp}, Stt K hd hc H0 Oe O w env σ H → ∀ {v : V} {d : D} {env' : Env}, Rep K hd O H v d → f d env = some env' →
    ∀ (Q : List (Option V) → Hp → Prop), (∀ σ', Stt K hd hc H0 Oe O w env' σ' H → (∀ j, j ∉ is → σ'[j]? = σ[j]?) → σ'.length = σ.length → Q σ' H) → g v σ H Q
structure SndGs (K : PySem.W.Frag) (is : List Nat) (g : TGs) (f : List D → Env → Option Env) : Prop where
  go : ∀ {hd hc : Addr} {H0 : Hp} {Oe O : List Addr} {w : W} {env : Env} {σ : List (Option V)} {H : Hp}, Stt K hd hc H0 Oe O w env σ H → ∀ {v : List V} {d : List D} {env' : Env}, RepAll K hd O H v d → f d env = some env' →
    ∀ (Q : List (Option V) → Hp → Prop), (∀ σ', Stt K hd hc H0 Oe O w env' σ' H → (∀ j, j ∉ is → σ'[j]? = σ[j]?) → σ'.length = σ.length → Q σ' H) → g v σ H Q

section
variable {K : PySem.W.Frag} {hd hc : Addr} {H0 : Hp} {Oe O O1 : List Addr} {w w' : W} {env : Env} {σ : List (Option V)} {H H' H1 : Hp} {Dn : Ends}
theorem PostS.from_ {o : Out} (p : PostS K hd hc H0 Oe O H Dn o w) (g : Prog O H O1 H1) : PostS K hd hc H0 Oe O1 H1 Dn o w := by
  cases o with
  | nx e => exact fun O' σ' H' S q => p O' σ' H' S (g.trans q)
  | rt d => exact p
  | bk e => exact fun O' σ' H' S q => p O' σ' H' S (g.trans q)
  | ct e => exact fun O' σ' H' S q => p O' σ' H' S (g.trans q)

/-! ### the state, a slot set -/
theorem setSlot {α : Type} {l : List α} {i j : Nat} {a b : α} (h : (l.set i a)[j]? = some b) : (i = j ∧ b = a ∧ i < l.length) ∨ (i ≠ j ∧ l[j]? = some b) := by
  rw [List.getElem?_set] at h
  split at h
  · rename_i e
    split at h
    · cases h; exact .inl ⟨e, rfl, by assumption⟩
    · cases h
  · rename_i e
    exact .inr ⟨e, h⟩
theorem Stt.set (S : Stt K hd hc H0 Oe O w env σ H) (i : Nat) {v : V} {d : D} (r : Rep K hd O H v d) : Stt K hd hc H0 Oe O w (env.set i (.sh d)) (σ.set i (some v)) H where
  ext := S.ext
  hd0 := S.hd0
  hc0 := S.hc0
  hdE := S.hdE
  hcO := S.hcO
  sub := S.sub
  oe := S.oe
  onn := S.onn
  hand := S.hand
  len := by simp [S.len]
  slot := fun j s hs => by
    rcases setSlot hs with ⟨rfl, rfl, hl⟩ | ⟨ne, h⟩
    · exact ⟨v, by rw [List.getElem?_set_self (by rw [← S.len]; exact hl)], r⟩
    · rw [List.getElem?_set_ne ne]; exact S.slot j s h
  dist := fun j k d' e' a h1 h2 h3 h4 => by
    rcases setSlot h1 with ⟨rfl, z, hl⟩ | ⟨n1, h1⟩
    · cases z
    · rcases setSlot h2 with ⟨rfl, z, hl⟩ | ⟨n2, h2⟩
      · cases z
      · rw [List.getElem?_set_ne n1] at h3
        rw [List.getElem?_set_ne n2] at h4
        exact S.dist j k d' e' a h1 h2 h3 h4
theorem Stt.progO {a : Addr} (S : Stt K hd hc H0 Oe O w env σ H) (e : Ext hd H H') (na : H a = none) : Prog O H (a :: O) H' := ⟨fun b o n q => ⟨fun z => by
    rcases List.mem_cons.mp z with z | z
    · rw [z, na] at q; cases q
    · exact n z, e.keep b o (fun z => n (z ▸ S.hdO)) q⟩, e.tups⟩
theorem Stt.setOw (S : Stt K hd hc H0 Oe O w env σ H) (i : Nat) {a : Addr} {xs : List V} {ds : List D} (ha : H a = some (.lst xs)) (hO : a ∈ O) (h0 : H0 a = none) (z : xs.length ≤ SZ) (r : RepAll K hd O H xs ds)
    (hn : ∀ (j : Nat) (e : D), env[j]? = some (.ow e) → σ[j]? ≠ some (some (.ref a))) : Stt K hd hc H0 Oe O w (env.set i (.ow (.list ds))) (σ.set i (some (.ref a))) H where
  ext := S.ext
  hd0 := S.hd0
  hc0 := S.hc0
  hdE := S.hdE
  hcO := S.hcO
  sub := S.sub
  oe := S.oe
  onn := S.onn
  hand := S.hand
  len := by simp [S.len]
  slot := fun j s hs => by
    rcases setSlot hs with ⟨rfl, rfl, hl⟩ | ⟨ne, h⟩
    · exact ⟨a, xs, ds, by rw [List.getElem?_set_self (by rw [← S.len]; exact hl)], rfl, ha, z, r, hO, h0⟩
    · rw [List.getElem?_set_ne ne]; exact S.slot j s h
  dist := fun j k d' e' b h1 h2 h3 h4 => by
    rcases setSlot h1 with ⟨rfl, z, hl⟩ | ⟨n1, h1⟩
    · rcases setSlot h2 with ⟨rfl, z2, hl2⟩ | ⟨n2, h2⟩
      · rfl
      · rw [List.getElem?_set_self (by rw [← S.len]; exact hl)] at h3
        cases h3
        rw [List.getElem?_set_ne n2] at h4
        exact absurd h4 (hn k e' h2)
    · rcases setSlot h2 with ⟨rfl, z2, hl2⟩ | ⟨n2, h2⟩
      · rw [List.getElem?_set_self (by rw [← S.len]; exact hl2)] at h4
        cases h4
        rw [List.getElem?_set_ne n1] at h3
        exact absurd h3 (hn j d' h1)
      · rw [List.getElem?_set_ne n1] at h3
        rw [List.getElem?_set_ne n2] at h4
        exact S.dist j k d' e' b h1 h2 h3 h4
/-- an owned list is changed -/
theorem Stt.write (S : Stt K hd hc H0 Oe O w env σ H) {i : Nat} {a : Addr} {xs' : List V} {ds ds' : List D} (hi : env[i]? = some (.ow (.list ds))) (hs : σ[i]? = some (some (.ref a))) (z : xs'.length ≤ SZ) (r : RepAll K hd O H xs' ds') :
    Stt K hd hc H0 Oe O w (env.set i (.ow (.list ds'))) σ (upd H a (.lst xs')) ∧ Prog O H O (upd H a (.lst xs')) := by
  obtain ⟨a', xs0, ds0, e1, e2, ha, z0, r0, m, n⟩ := S.slot i _ hi
  rw [hs] at e1; cases e1
  obtain ⟨n1, n2, n3⟩ := S.neh n
  have g : Prog O H O (upd H a (.lst xs')) := ⟨fun b o nb q => ⟨nb, by rw [upd_ne (fun z => nb (by rw [z]; exact m))]; exact q⟩, fun b ys q => by
    rw [upd_ne (fun z => by rw [z, ha] at q; cases q)]; exact q⟩
  refine ⟨?_, g⟩
  exact {
    ext := ⟨fun b o nb q => by rw [upd_ne (ne_of_none q n)]; exact S.ext.keep b o nb q, fun b ys q => by rw [upd_ne (ne_of_none q n)]; exact S.ext.tups b ys q⟩
    hd0 := S.hd0, hc0 := S.hc0, hdE := S.hdE, hcO := S.hcO, sub := S.sub, oe := S.oe
    onn := fun b hb q => by
      by_cases e : b = a
      · rw [e, upd_same] at q; cases q
      · rw [upd_ne e] at q; exact S.onn b hb q
    hand := S.hand.keep (upd_ne (Ne.symm n1)) (upd_ne (Ne.symm n2))
    len := by simp [S.len]
    slot := fun j s hj => by
      rcases setSlot hj with ⟨rfl, rfl, hl⟩ | ⟨ne, h⟩
      · exact ⟨a, xs', ds', hs, rfl, upd_same, z, r.prog g, m, n⟩
      · have q := S.slot j s h
        cases s with
        | no => trivial
        | sh d => obtain ⟨v, e1, r⟩ := q; exact ⟨v, e1, r.prog g⟩
        | ow d =>
          obtain ⟨b, ys, es, e1, e2, hb, z', r', m', n'⟩ := q
          refine ⟨b, ys, es, e1, e2, ?_, z', r'.prog g, m', n'⟩
          rw [upd_ne (fun e => ne (S.dist i j _ _ a hi h hs (by rw [e1, e])))]
          exact hb
    dist := fun j k d' e' b h1 h2 h3 h4 => by
      have get : ∀ {j : Nat} {d' : D}, (env.set i (.ow (.list ds')))[j]? = some (.ow d') → ∃ d'', env[j]? = some (.ow d'') := fun {j d'} h => by
        rcases setSlot h with ⟨rfl, _, _⟩ | ⟨_, h⟩
        · exact ⟨_, hi⟩
        · exact ⟨_, h⟩
      obtain ⟨_, q1⟩ := get h1
      obtain ⟨_, q2⟩ := get h2
      exact S.dist j k _ _ b q1 q2 h3 h4 }
/-- an owned list is let go: it will not change any more -/
def frz (i : Nat) (env : Env) : Env := match env[i]? with
  | some (.ow d) => env.set i (.sh d)
  | _ => env
theorem Stt.frz (S : Stt K hd hc H0 Oe O w env σ H) (i : Nat) : ∃ O', Stt K hd hc H0 Oe O' w (frz i env) σ H ∧ Prog O H O' H := by
  unfold DL.frz
  split
  · rename_i d hi
    obtain ⟨a, xs, ds, e1, e2, ha, z, r, m, n⟩ := S.slot i _ hi
    subst e2
    obtain ⟨n1, n2, n3⟩ := S.neh n
    have hsub : ∀ b ∈ O.filter (fun b => b != a), b ∈ O := fun b hb => (List.mem_filter.mp hb).1
    have g : Prog O H (O.filter (fun b => b != a)) H := .less hsub
    have hne : ∀ (b : Addr), b ∈ O → b ≠ a → b ∈ O.filter (fun b => b != a) := fun b hb e => List.mem_filter.mpr ⟨hb, by simpa using e⟩
    refine ⟨O.filter (fun b => b != a), ?_, g⟩
    exact {
      ext := S.ext, hd0 := S.hd0, hc0 := S.hc0, hdE := S.hdE, hcO := fun z => S.hcO (hsub _ z)
      sub := fun b hb => hne b (S.sub b hb) fun e => n3 (e ▸ hb)
      oe := S.oe
      onn := fun b hb => S.onn b (hsub b hb)
      hand := S.hand
      len := by simp [S.len]
      slot := fun j s hj => by
        rcases setSlot hj with ⟨rfl, rfl, hl⟩ | ⟨ne, h⟩
        · exact ⟨.ref a, e1, .lst ha (fun q => by have := (List.mem_filter.mp q).2; simp at this) z (r.prog g)⟩
        · have q := S.slot j s h
          cases s with
          | no => trivial
          | sh d => obtain ⟨v, e1, r⟩ := q; exact ⟨v, e1, r.prog g⟩
          | ow d =>
            obtain ⟨b, ys, es, f1, f2, hb, z', r', m', n'⟩ := q
            exact ⟨b, ys, es, f1, f2, hb, z', r'.prog g, hne b m' fun e => ne (S.dist i j _ _ a hi h e1 (by rw [f1, e])), n'⟩
      dist := fun j k d' e' b h1 h2 h3 h4 => by
        rcases setSlot h1 with ⟨rfl, z, hl⟩ | ⟨x1, h1⟩
        · cases z
        · rcases setSlot h2 with ⟨rfl, z, hl⟩ | ⟨x2, h2⟩
          · cases z
          · exact S.dist j k d' e' b h1 h2 h3 h4 }
  · exact ⟨O, S, .refl⟩
end

/-! ### what is denoted -/
def sSeq (f g : F1 Out) : F1 Out := fun env w => (f env w).bind fun p => match p.1 with
  | .nx e => g e p.2
  | o => some (o, p.2)
def sNext : F1 Out := fun env w => some (.nx env, w)
def sBreak : F1 Out := fun env w => some (.bk env, w)
def sCont : F1 Out := fun env w => some (.ct env, w)
def sNever : F1 Out := fun _ _ => none
def sDrop (f : F1 D) : F1 Out := fun env w => (f env w).map fun p => (.nx env, p.2)
def sRet (f : F1 D) : F1 Out := fun env w => (f env w).map fun p => (.rt p.1, p.2)
def sRetN : F1 Out := fun _ w => some (.rt .none, w)
def sIf (t : F1 Bool) (f g : F1 Out) : F1 Out := fun env w => (t env w).bind fun p => if p.1 = true then f env p.2 else g env p.2
def sSet (i : Nat) (f : F1 D) : F1 Out := fun env w => (f env w).map fun p => (.nx (env.set i (.sh p.1)), p.2)
def sSetO (i : Nat) (f : F1 D) : F1 Out := fun env w => (f env w).map fun p => (.nx (env.set i (.ow p.1)), p.2)
def sAsg (f : F1 D) (g : D → Env → Option Env) : F1 Out := fun env w => (f env w).bind fun p => (g p.1 env).map fun e => (.nx e, p.2)
def sFrz (i : Nat) (f : F1 Out) : F1 Out := fun env w => f (frz i env) w
def slotOf (o : Bool) (d : D) : Slot := if o = true then .ow d else .sh d
def sPar (i j : Nat) (o1 o2 : Bool) (f : F1 (List D)) : F1 Out := fun env w => (f env w).bind fun p => match p.1 with
  | [a, b] => some (.nx ((env.set i (slotOf o1 a)).set j (slotOf o2 b)), p.2)
  | _ => none
def sAug (i : Nat) (g : D → D → Option D) (f : F1 D) : F1 Out := fun env w => (eVar i env w).bind fun p => (f env p.2).bind fun q => (g p.1 q.1).map fun d => (.nx (env.set i (.sh d)), q.2)
def sApp (i : Nat) (f : F1 D) : F1 Out := fun env w => match env[i]? with
  | some (.ow (.list ds)) => (f env w).bind fun p => if ds.length < SZ then some (.nx (env.set i (.ow (.list (ds ++ [p.1])))), p.2) else none
  | _ => none
def gSet (i : Nat) : D → Env → Option Env := fun d env => some (env.set i (.sh d))
def gsNil : List D → Env → Option Env := fun ds env => match ds with
  | [] => some env
  | _ => none
def gsCons (g : D → Env → Option Env) (gs : List D → Env → Option Env) : List D → Env → Option Env := fun ds env => match ds with
  | d :: r => (g d env).bind fun e => gs r e
  | _ => none
def gTupD (n : Nat) (gs : List D → Env → Option Env) : D → Env → Option Env := fun d env => match d with
  | .tuple ds => if ds.length = n then gs ds env else none
  | _ => none
def loopD (gs : D → Env → Option Env) (body : F1 Out) : List D → Env → W → Option (Out × W)
  | [], env, w => some (.nx env, w)
  | d :: ds, env, w => (gs d env).bind fun e1 => (body e1 w).bind fun q => match q.1 with
    | .nx e => loopD gs body ds e q.2
    | .ct e => loopD gs body ds e q.2
    | .bk e => some (.nx e, q.2)
    | .rt d => some (.rt d, q.2)
def sFor (fi : F1 (List D)) (gs : D → Env → Option Env) (body : F1 Out) : F1 Out := fun env w => (fi env w).bind fun p => loopD gs body p.1 env p.2
def whD (fc : F1 Bool) (body : F1 Out) : Nat → Env → W → Option (Out × W)
  | 0, _, _ => none
  | n + 1, env, w => (fc env w).bind fun p => if p.1 = true then (body env p.2).bind fun q => match q.1 with
      | .nx e => whD fc body n e q.2
      | .ct e => whD fc body n e q.2
      | .bk e => some (.nx e, q.2)
      | .rt d => some (.rt d, q.2)
    else some (.nx env, p.2)
def sWhile (n : Nat) (fc : F1 Bool) (body : F1 Out) : F1 Out := whD fc body n

section
variable {K : PySem.W.Frag} {m : Mode} {t u : TS} {f g : F1 Out} {te : TE} {fe : F1 D}
theorem sn_seq (h1 : SndS K t f) (h2 : SndS K u g) : SndS K (tSeq t u) (sSeq f g) := ⟨fun {hd hc H0 Oe O w env σ H} S o w' e Dn p => by
  obtain ⟨⟨o1, w1⟩, e1, e⟩ := bindS e
  refine h1.go S e1 _ ?_
  cases o1 with
  | nx e2 => exact fun O' σ' H' S' q => h2.go S' e Dn (p.from_ q)
  | rt d => cases e; exact p
  | bk e2 => cases e; exact p
  | ct e2 => cases e; exact p⟩
theorem sn_next : SndS K tNext sNext := ⟨fun S o w' e Dn p => by cases e; exact p _ _ _ S .refl⟩
theorem sn_break : SndS K tBreak sBreak := ⟨fun S o w' e Dn p => by cases e; exact p _ _ _ S .refl⟩
theorem sn_cont : SndS K tCont sCont := ⟨fun S o w' e Dn p => by cases e; exact p _ _ _ S .refl⟩
theorem sn_never : SndS K tNever sNever := ⟨fun S o w' e Dn p => by cases e⟩
theorem sn_drop (h : SndE K m te fe) : SndS K (tDrop te) (sDrop fe) := ⟨fun {hd hc H0 Oe O w env σ H} S o w' e Dn p => by
  obtain ⟨⟨d, w1⟩, e1, e⟩ := mapS e
  cases e
  exact h.go S e1 _ fun v H' x hh r => p _ _ _ (S.step x hh) (x.prog S.hdO)⟩
theorem sn_ret (h : SndE K .bo te fe) : SndS K (tRet te) (sRet fe) := ⟨fun {hd hc H0 Oe O w env σ H} S o w' e Dn p => by
  obtain ⟨⟨d, w1⟩, e1, e⟩ := mapS e
  cases e
  refine h.go S e1 _ fun v H' x hh r => p v H' (S.ext.trans x) hh ?_
  rcases r with r | ⟨a, xs, ds, rfl, rfl, n, s, z, r⟩
  · exact r.less S.sub
  · exact .lst s n z (r.less S.sub)⟩
theorem sn_retN : SndS K tRetN sRetN := ⟨fun {hd hc H0 Oe O w env σ H} S o w' e Dn p => by
  cases e
  exact p _ _ S.ext S.hand .non⟩
theorem sn_if {tc : TT} {fc : F1 Bool} (hc : SndT K tc fc) (h1 : SndS K t f) (h2 : SndS K u g) : SndS K (tIfS tc t u) (sIf fc f g) := ⟨fun {hd hc' H0 Oe O w env σ H} S o w' e Dn p => by
  obtain ⟨⟨x, w1⟩, h3, e⟩ := bindS e
  refine hc.go S h3 _ fun H' x1 hh => ?_
  by_cases c : x = true
  · rw [if_pos c]; rw [if_pos (show (x, w1).1 = true from c)] at e
    exact h1.go (S.step x1 hh) e Dn (p.from_ (x1.prog S.hdO))
  · rw [if_neg c]; rw [if_neg (show ¬ (x, w1).1 = true from c)] at e
    exact h2.go (S.step x1 hh) e Dn (p.from_ (x1.prog S.hdO))⟩
theorem sn_set (i : Nat) (h : SndE K .sh te fe) : SndS K (tAsg te (gName i)) (sSet i fe) := ⟨fun {hd hc H0 Oe O w env σ H} S o w' e Dn p => by
  obtain ⟨⟨d, w1⟩, e1, e⟩ := mapS e
  cases e
  exact h.go S e1 _ fun v H' x hh r => p _ _ _ ((S.step x hh).set i r) (x.prog S.hdO)⟩
theorem Stt.setFr {K : PySem.W.Frag} {hd hc : Addr} {H0 : Hp} {Oe O : List Addr} {w w' : W} {env : Env} {σ : List (Option V)} {H H' : Hp} {v : V} {d : D} (S : Stt K hd hc H0 Oe O w env σ H) (x : Ext hd H H') (hh : HandIs hd hc w' H')
    (r : RepM .fr K hd Oe H O H' v d) (i : Nat) : ∃ O', Stt K hd hc H0 Oe O' w' (env.set i (.ow d)) (σ.set i (some v)) H' ∧ Prog O H O' H' := by
  obtain ⟨a, xs, ds, rfl, rfl, na, ha, z, r⟩ := r
  have ane : H' a ≠ none := by
    rw [ha]
    intro q
    cases q
  have S1 := S.stepL (as := [a]) (O2 := a :: O) x hh ⟨fun b hb => (by rw [List.mem_singleton.mp hb]; exact na), fun b hb => (by rw [List.mem_singleton.mp hb]; exact ane), (by simp), fun b => (by simp)⟩
  refine ⟨a :: O, S1.setOw i ha List.mem_cons_self (S.ext.old S.hand na) z r ?_, S.progO x na⟩
  intro j e hj hs
  obtain ⟨b, ys, es, f1, f2, hb, _⟩ := S.slot j _ hj
  rw [hs] at f1; cases f1
  rw [na] at hb; cases hb
theorem sn_setO (i : Nat) (h : SndE K .fr te fe) : SndS K (tAsg te (gName i)) (sSetO i fe) := ⟨fun {hd hc H0 Oe O w env σ H} S o w' e Dn p => by
  obtain ⟨⟨d, w1⟩, e1, e⟩ := mapS e
  cases e
  refine h.go S e1 _ fun v H' x hh r => ?_
  obtain ⟨O', S', g⟩ := S.setFr x hh r i
  exact p _ _ _ S' g⟩
theorem sn_asg {is : List Nat} {tg : TG} {gs : D → Env → Option Env} (h : SndE K .sh te fe) (hg : SndG K is tg gs) : SndS K (tAsg te tg) (sAsg fe gs) := ⟨fun {hd hc H0 Oe O w env σ H} S o w' e Dn p => by
  obtain ⟨⟨d, w1⟩, e1, e⟩ := bindS e
  obtain ⟨e2, e3, e⟩ := mapS e
  cases e
  exact h.go S e1 _ fun v H' x hh r => hg.go (S.step x hh) r e3 _ fun σ' S' _ _ => p _ _ _ S' (x.prog S.hdO)⟩
theorem sn_frz (i : Nat) (h : SndS K t f) : SndS K t (sFrz i f) := ⟨fun {hd hc H0 Oe O w env σ H} S o w' e Dn p => by
  obtain ⟨O', S', g⟩ := S.frz i
  exact h.go S' e Dn (p.from_ g)⟩

/-! ### targets -/
theorem sg_name (i : Nat) : SndG K [i] (gName i) (gSet i) := ⟨fun S v d env' r e Q q => by
  cases e
  exact q _ (S.set i r) (fun j hj => List.getElem?_set_ne (fun z => hj (by simp [z]))) (List.length_set ..)⟩
theorem sgs_nil : SndGs K [] gNil gsNil := ⟨fun {hd hc H0 Oe O w env σ H} S v d env' r e Q q => by
  cases r with
  | nil => cases e; exact ⟨rfl, q _ S (fun _ _ => rfl) rfl⟩
  | cons => cases e⟩
theorem sgs_cons {is js : List Nat} {tg : TG} {gs : D → Env → Option Env} {tgs : TGs} {gss : List D → Env → Option Env} (h : SndG K is tg gs) (h' : SndGs K js tgs gss) : SndGs K (is ++ js) (gCons tg tgs) (gsCons gs gss) := ⟨fun {hd hc H0 Oe O w env σ H} S v d env' r e Q q => by
  cases r with
  | nil => cases e
  | cons r rr =>
    obtain ⟨e1, h1, e⟩ := bindS e
    exact ⟨_, _, rfl, h.go S r h1 _ fun σ' S' k l => h'.go S' rr e _ fun σ2 S2 k2 l2 => q σ2 S2 (fun j hj => by
      rw [k2 j (fun z => hj (List.mem_append_right _ z)), k j (fun z => hj (List.mem_append_left _ z))]) (l2.trans l)⟩⟩
theorem sg_tup {n : Nat} {is : List Nat} {tgs : TGs} {gss : List D → Env → Option Env} (h : SndGs K is tgs gss) : SndG K is (gTup K n tgs) (gTupD n gss) := ⟨fun {hd hc H0 Oe O w env σ H} S v d env' r e Q q => by
  cases r with
  | tup ht z r =>
    unfold gTupD at e
    simp only at e
    split at e
    · rename_i hn
      exact ⟨_, _, rfl, ht.sqt, by rw [r.len, hn], h.go S r e Q q⟩
    · cases e
  | _ => cases e⟩

/-! ### a, b = x, y -/

theorem sn_par {i j : Nat} {ta : TA} {fa : F1 (List D)} {m1 m2 : Mode} (o1 o2 : Bool) (h : SndA K [m1, m2] ta fa) (c1 : (o1 = false ∧ m1 = .sh ∨ o1 = true ∧ m1 = .fr) := by first | exact .inl ⟨rfl, rfl⟩ | exact .inr ⟨rfl, rfl⟩)
    (c2 : (o2 = false ∧ m2 = .sh ∨ o2 = true ∧ m2 = .fr) := by first | exact .inl ⟨rfl, rfl⟩ | exact .inr ⟨rfl, rfl⟩) : SndS K (tPar i j ta) (sPar i j o1 o2 fa) := ⟨fun {hd hc H0 Oe O w env σ H} S o w' e Dn p => by
  obtain ⟨⟨ds, w1⟩, e1, e⟩ := bindS e
  refine h.go S e1 _ fun vs H' as O2 x hh n r => ?_
  have S1 := S.stepL x hh n
  have g := n.prog x S.hdO
  have fresh : ∀ a ∈ as, ∀ (j : Nat) (e : D), env[j]? = some (.ow e) → σ[j]? ≠ some (some (.ref a)) := fun a ha j e hj hs => by
    obtain ⟨b, ys, es, f1, f2, hb, _⟩ := S.slot j _ hj
    rw [hs] at f1; cases f1
    rw [n.new a ha] at hb; cases hb
  have mo : ∀ a ∈ as, a ∈ O2 := fun a ha => (n.mem a).mpr (.inl ha)
  have h0 : ∀ a ∈ as, H0 a = none := fun a ha => S.ext.old S.hand (n.new a ha)
  rcases c1 with ⟨rfl, rfl⟩ | ⟨rfl, rfl⟩
  · cases r with
    | sh r1 r =>
      rcases c2 with ⟨rfl, rfl⟩ | ⟨rfl, rfl⟩
      · cases r with
        | sh r2 r =>
          cases r
          cases e
          exact ⟨_, _, rfl, p _ _ _ ((S1.set i r1).set j r2) g⟩
      · cases r with
        | fr ha z r2 r =>
          cases r
          cases e
          refine ⟨_, _, rfl, p _ _ _ ((S1.set i r1).setOw j ha (mo _ List.mem_cons_self) (h0 _ List.mem_cons_self) z r2 fun k e hk hs => ?_) g⟩
          rcases setSlot hk with ⟨_, q, _⟩ | ⟨ne, hk⟩
          · cases q
          · rw [List.getElem?_set_ne ne] at hs
            exact fresh _ List.mem_cons_self k e hk hs
  · cases r with
    | fr ha z r1 r =>
      have S2 := S1.setOw i ha (mo _ List.mem_cons_self) (h0 _ List.mem_cons_self) z r1 (fresh _ List.mem_cons_self)
      rcases c2 with ⟨rfl, rfl⟩ | ⟨rfl, rfl⟩
      · cases r with
        | sh r2 r =>
          cases r
          cases e
          exact ⟨_, _, rfl, p _ _ _ (S2.set j r2) g⟩
      · cases r with
        | fr ha2 z2 r2 r =>
          cases r
          cases e
          refine ⟨_, _, rfl, p _ _ _ (S2.setOw j ha2 (mo _ (List.mem_cons_of_mem _ List.mem_cons_self)) (h0 _ (List.mem_cons_of_mem _ List.mem_cons_self)) z2 r2 fun k e hk hs => ?_) g⟩
          rcases setSlot hk with ⟨rfl, q, hl⟩ | ⟨ne, hk⟩
          · rw [List.getElem?_set_self (by rw [← S.len]; exact hl)] at hs
            cases hs
            have := n.nd
            simp at this
          · rw [List.getElem?_set_ne ne] at hs
            exact fresh _ (List.mem_cons_of_mem _ List.mem_cons_self) k e hk hs⟩
end
end DL

set_option maxRecDepth 100000
/-! DL4: what changes a list, loops, comprehensions, defs -/
namespace DL
open PySem L2
section
variable {K : PySem.W.Frag} {m : Mode} {t u : TS} {f g : F1 Out} {te : TE} {fe : F1 D}

theorem sn_aug {ti : TIp} {g2 : D → D → Option D} (i : Nat) (ho : Op2 K .sh ti g2) (h : SndE K m te fe) : SndS K (tAug i te ti) (sAug i g2 fe) := ⟨fun {hd hc H0 Oe O w env σ H} S o w' e Dn p => by
  obtain ⟨⟨x, w1⟩, e1, e⟩ := bindS e
  obtain ⟨⟨y, w2⟩, e2, e⟩ := bindS e
  obtain ⟨z, e3, e⟩ := mapS e
  cases e
  refine (sn_var (K := K) i).go S e1 (fun v H1 => te σ H1 fun y H1 => ti v y H1 fun z H2 => Dn.nx (σ.set i (some z)) H2) fun v H1 x1 h1 r1 => ?_
  refine h.go (S.step x1 h1) e2 _ fun u H2 x2 h2 r2 => ?_
  have S2 := S.step (x1.trans x2) h2
  refine ho S.hdE S.sub S2.onn h2 (.inl (Rep.ext r1 S.hdO x2)) (r2.b (S.step x1 h1).onn) e3 fun z H3 x3 h3 r3 => ?_
  exact p _ _ _ ((S2.step x3 h3).set i r3) (((x1.trans x2).trans x3).prog S.hdO)⟩

/-- xs.append(e), xs owned -/
theorem sn_app (i : Nat) (h : SndE K .sh te fe) : SndS K (tDrop (tBM K "list" rAppend (tVar i) (tCons te tNil))) (sApp i fe) := ⟨fun {hd hc H0 Oe O w env σ H} S o w' e Dn p => by
  unfold sApp at e
  split at e
  · rename_i ds hi
    obtain ⟨⟨d, w1⟩, e1, e⟩ := bindS e
    split at e
    · rename_i hz
      cases e
      obtain ⟨a, xs, ds', f1, f2, ha, z, r, hm, hn⟩ := S.slot i _ hi
      cases f2
      refine ⟨_, f1, .inl ⟨rfl, _, SqL.of ha⟩, ?_⟩
      refine h.go S e1 (fun y H1 => rAppend (.ref a) [y] H1 fun _ H2 => Dn.nx σ H2) fun y H1 x1 h1 r1 => ?_
      have S1 := S.step x1 h1
      obtain ⟨a2, xs2, ds2, g1, g2, ha2, z2, r2, _⟩ := S1.slot i _ hi
      rw [f1] at g1; cases g1; cases g2
      have lz : xs2.length < SZ := by rw [r2.len]; exact hz
      obtain ⟨S2, g⟩ := S1.write (xs' := xs2 ++ [y]) (ds' := ds ++ [d]) hi f1 (by simp; omega) (r2.append (.cons r1 .nil))
      exact ⟨a, xs2, y, rfl, rfl, ha2, lz, p _ _ _ S2 ((x1.prog S.hdO).trans g)⟩
    · cases e
  · cases e⟩

/-- xs[k] = e, xs owned -/
def sPut (i : Nat) (fk fe : F1 D) : F1 Out := fun env w => (fe env w).bind fun p => (fk env p.2).bind fun q => match env[i]?, q.1 with
  | some (.ow (.list ds)), .int k => (ixN ds.length k).map fun j => (.nx (env.set i (.ow (.list (ds.set j p.1)))), q.2)
  | _, _ => none
theorem sn_put (i : Nat) {tk : TE} {fk : F1 D} {mk : Mode} (h : SndE K .sh te fe) (hk : SndE K mk tk fk) : SndS K (tAsg te (gSub (tVar i) tk rSetL)) (sPut i fk fe) := ⟨fun {hd hc H0 Oe O w env σ H} S o w' e Dn p => by
  obtain ⟨⟨d, w1⟩, e1, e⟩ := bindS e
  obtain ⟨⟨k, w2⟩, e2, e⟩ := bindS e
  simp only at e
  split at e
  · rename_i ds kk hi
    obtain ⟨j, e3, e⟩ := mapS e
    cases e
    refine h.go S e1 _ fun v H1 x1 h1 r1 => ?_
    have S1 := S.step x1 h1
    obtain ⟨a, xs, ds', f1, f2, ha, z, r, hm, hn⟩ := S1.slot i _ hi
    cases f2
    refine ⟨_, f1, hk.go S1 e2 _ fun kv H2 x2 h2 r2 => ?_⟩
    have S2 := S1.step x2 h2
    obtain ⟨a2, xs2, ds2, g1, g2, ha2, z2, r3, _⟩ := S2.slot i _ hi
    rw [f1] at g1; cases g1; cases g2
    obtain ⟨S3, g⟩ := S2.write (xs' := xs2.set j v) (ds' := ds.set j d) hi f1 (by simp; exact z2) (r3.set j (Rep.ext r1 S.hdO x2))
    exact ⟨a, xs2, kk, j, rfl, (r2.b S1.onn).int, ha2, by rw [r3.len]; exact e3, p _ _ _ S3 (((x1.trans x2).prog S.hdO).trans g)⟩
  · cases e⟩

/-! ### what is walked -/
structure W1 (K : PySem.W.Frag) (hd : Addr) (O2 : List Addr) (J : It) (ds : List D) (H2 : Hp) : Prop where
  stop : ∀ i, ds.length ≤ i → J.stop i H2
  go : ∀ (i : Nat) (d : D), ds[i]? = some d → J.go i H2 ∧ ∀ x H', J.yld i H2 x H' → Ext hd H2 H' ∧ (∀ hc w, HandIs hd hc w H2 → HandIs hd hc w H') ∧ Rep K hd O2 H' x d
def WalkS (K : PySem.W.Frag) (hd : Addr) (O : List Addr) (H1 : Hp) (J : It) (ds : List D) : Prop := ∀ O2 H2, Prog O H1 O2 H2 → hd ∈ O2 → W1 K hd O2 J ds H2
def WalkB (K : PySem.W.Frag) (hd : Addr) (O : List Addr) (H1 : Hp) (J : It) (ds : List D) : Prop := ∀ O2 H2, Ext hd H1 H2 → (∀ b ∈ O2, b ∈ O ∨ H1 b = none) → hd ∈ O2 → W1 K hd O2 J ds H2
theorem WalkS.b {hd : Addr} {O : List Addr} {H1 : Hp} {J : It} {ds : List D} (h : WalkS K hd O H1 J ds) (hO : hd ∈ O) : WalkB K hd O H1 J ds := fun O2 H2 e hb hn =>
  h O2 H2 ⟨fun b o nb q => ⟨fun z => (by
    rcases hb b z with z | z
    · exact nb z
    · exact absurd (z.symm.trans q) (by intro z; cases z)), e.keep b o (fun z => nb (z ▸ hO)) q⟩, e.tups⟩ hn
structure SndI (K : PySem.W.Frag) (m : Mode) (wi : TI) (fi : F1 (List D)) : Prop where
  go : ∀ {hd hc : Addr} {H0 : Hp} {Oe O : List Addr} {w : W} {env : Env} {σ : List (Option V)} {H : Hp}, Stt K hd hc H0 Oe O w env σ H → ∀ {ds : List D} {w' : W}, fi env w = some (ds, w') →
    ∀ (R : It → Hp → Prop), (∀ J H1, Ext hd H H1 → HandIs hd hc w' H1 → (match m with | .bo => WalkB K hd O H1 J ds | _ => WalkS K hd O H1 J ds) → ds.length ≤ SZ → R J H1) → wi σ H R
theorem SndI.bo {wi : TI} {fi : F1 (List D)} (h : SndI K .sh wi fi) : SndI K .bo wi fi := ⟨fun S _ _ e R q => h.go S e R fun J H1 x hh wk z => q J H1 x hh (WalkS.b wk S.hdO) z⟩

/-! ### for -/
theorem sn_for {is : List Nat} {wi : TI} {fi : F1 (List D)} {tg : TG} {gs : D → Env → Option Env} {tb : TS} {body : F1 Out} (hi : SndI K .sh wi fi) (hg : SndG K is tg gs) (hb : SndS K tb body) : SndS K (tFor wi tg tb) (sFor fi gs body) := ⟨fun {hd hc H0 Oe O w env σ H} S o w' e Dn p => by
  obtain ⟨⟨ds, w1⟩, e1, e⟩ := bindS e
  refine hi.go S e1 _ fun J H1 x1 h1 wk _ => ?_
  have g0 := x1.prog S.hdO
  refine ⟨fun i n σ' H' => n = ds.length - i ∧ i ≤ ds.length ∧ ∃ O' w2 env', Stt K hd hc H0 Oe O' w2 env' σ' H' ∧ Prog O H1 O' H' ∧ loopD gs body (ds.drop i) env' w2 = some (o, w'),
    ⟨ds.length, rfl, Nat.zero_le _, O, w1, env, S.step x1 h1, .refl, by simpa using e⟩, ?_⟩
  rintro i n σ' H' ⟨rfl, hl, O', w2, env', S', g', e'⟩
  have wk' := wk O' H' g' S'.hdO
  by_cases hlt : i < ds.length
  · have hd' : ds[i]? = some ds[i] := by simp [hlt]
    obtain ⟨go, yl⟩ := wk'.go i _ hd'
    rw [List.drop_eq_getElem_cons hlt] at e'
    obtain ⟨ev, e2, e'⟩ := bindS (show (gs ds[i] env').bind _ = some (o, w') from e')
    obtain ⟨⟨o3, w3⟩, e3, e'⟩ := bindS e'
    have run : ∀ (N : List (Option V) → Hp → Prop), (PostS K hd hc H0 Oe O' H' { Dn with nx := N, ct := N, bk := Dn.nx } o3 w3) → ∀ x H2, J.yld i H' x H2 → tg x σ' H2 fun σ2 H2 => tb { Dn with nx := N, ct := N, bk := Dn.nx } σ2 H2 := fun N hN x H2 hy => by
      obtain ⟨x2, hh2, r2⟩ := yl x H2 hy
      refine hg.go (S'.step x2 (hh2 _ _ S'.hand)) r2 e2 _ fun σ2 S2 _ _ => ?_
      exact hb.go S2 e3 _ (hN.from_ (x2.prog S'.hdO))
    cases o3 with
    | nx e4 =>
      refine .inr ⟨go, fun σ2 H2 => ∃ O2, Stt K hd hc H0 Oe O2 w3 e4 σ2 H2 ∧ Prog O H1 O2 H2, fun σ2 H2 ⟨O2, S2, g2⟩ => ⟨_, by omega, rfl, hlt, O2, w3, e4, S2, g2, e'⟩, run _ fun O2 σ2 H2 S2 g2 => ⟨O2, S2, g'.trans g2⟩⟩
    | ct e4 =>
      refine .inr ⟨go, fun σ2 H2 => ∃ O2, Stt K hd hc H0 Oe O2 w3 e4 σ2 H2 ∧ Prog O H1 O2 H2, fun σ2 H2 ⟨O2, S2, g2⟩ => ⟨_, by omega, rfl, hlt, O2, w3, e4, S2, g2, e'⟩, run _ fun O2 σ2 H2 S2 g2 => ⟨O2, S2, g'.trans g2⟩⟩
    | bk e4 =>
      cases e'
      exact .inr ⟨go, fun _ _ => False, fun _ _ z => z.elim, run _ fun O2 σ2 H2 S2 g2 => p _ _ _ S2 ((g0.trans g').trans g2)⟩
    | rt d =>
      cases e'
      exact .inr ⟨go, fun _ _ => False, fun _ _ z => z.elim, run _ p⟩
  · have hl' : i = ds.length := by omega
    subst hl'
    rw [List.drop_length] at e'
    cases e'
    exact .inl ⟨wk'.stop _ (Nat.le_refl _), p _ _ _ S' (g0.trans g')⟩⟩
theorem sn_while (n : Nat) {tc : TT} {fc : F1 Bool} {tb : TS} {body : F1 Out} (hc : SndT K tc fc) (hb : SndS K tb body) : SndS K (tWhile tc tb) (sWhile n fc body) := ⟨fun {hd hc' H0 Oe O w env σ H} S o w' e Dn p => by
  refine ⟨fun n σ' H' => ∃ O' w2 env', Stt K hd hc' H0 Oe O' w2 env' σ' H' ∧ Prog O H O' H' ∧ whD fc body n env' w2 = some (o, w'), ⟨n, O, w, env, S, .refl, e⟩, ?_⟩
  rintro n σ' H' ⟨O', w2, env', S', g', e'⟩
  cases n with
  | zero => cases e'
  | succ n =>
    obtain ⟨⟨b, w3⟩, e1, e'⟩ := bindS (show (fc env' w2).bind _ = some (o, w') from e')
    refine hc.go S' e1 _ fun H2 x2 h2 => ?_
    by_cases c : b = true
    · rw [if_pos c]; rw [if_pos (show (b, w3).1 = true from c)] at e'
      obtain ⟨⟨o3, w4⟩, e3, e'⟩ := bindS e'
      have S2 := S'.step x2 h2
      have g2 := g'.trans (x2.prog S'.hdO)
      cases o3 with
      | nx e4 => exact ⟨fun σ2 H3 => ∃ O2, Stt K hd hc' H0 Oe O2 w4 e4 σ2 H3 ∧ Prog O H O2 H3, fun σ2 H3 ⟨O2, S3, g3⟩ => ⟨n, Nat.lt_succ_self _, O2, w4, e4, S3, g3, e'⟩, hb.go S2 e3 _ fun O2 σ2 H3 S3 g3 => ⟨O2, S3, g2.trans g3⟩⟩
      | ct e4 => exact ⟨fun σ2 H3 => ∃ O2, Stt K hd hc' H0 Oe O2 w4 e4 σ2 H3 ∧ Prog O H O2 H3, fun σ2 H3 ⟨O2, S3, g3⟩ => ⟨n, Nat.lt_succ_self _, O2, w4, e4, S3, g3, e'⟩, hb.go S2 e3 _ fun O2 σ2 H3 S3 g3 => ⟨O2, S3, g2.trans g3⟩⟩
      | bk e4 =>
        cases e'
        exact ⟨fun _ _ => False, fun _ _ z => z.elim, hb.go S2 e3 _ fun O2 σ2 H3 S3 g3 => p _ _ _ S3 (g2.trans g3)⟩
      | rt d =>
        cases e'
        exact ⟨fun _ _ => False, fun _ _ z => z.elim, hb.go S2 e3 _ p⟩
    · rw [if_neg c]; rw [if_neg (show ¬ (b, w3).1 = true from c)] at e'
      cases e'
      exact p _ _ _ (S'.step x2 h2) (g'.trans (x2.prog S'.hdO))⟩

/-! ### comprehensions -/
def wipeE (env : Env) : List Nat → Env
  | [] => env
  | v :: vs => (wipeE env vs).set v .no
theorem wipe_get : ∀ {σ : List (Option V)} {vs : List Nat} {j : Nat}, (wipe σ vs)[j]? = if j ∈ vs then (if j < σ.length then some none else none) else σ[j]?
  | σ, [], j => by simp [wipe]
  | σ, v :: vs, j => by
    have hl := wipe_length σ vs
    show ((wipe σ vs).set v none)[j]? = _
    rw [List.getElem?_set, hl, wipe_get]
    by_cases h : v = j
    · subst h; simp
    · simp [h, Ne.symm h, List.mem_cons]
theorem wipe_eq {σ σ' : List (Option V)} {is vs : List Nat} (h : ∀ j, j ∉ is → σ'[j]? = (wipe σ vs)[j]?) (hl : σ'.length = (wipe σ vs).length) (hs : ∀ j ∈ is, j ∈ vs) : wipe σ' vs = wipe σ vs := by
  apply List.ext_getElem?
  intro j
  rw [wipe_get, wipe_get]
  by_cases hj : j ∈ vs
  · rw [if_pos hj, if_pos hj, hl, wipe_length]
  · rw [if_neg hj, if_neg hj, h j (fun z => hj (hs j z)), wipe_get, if_neg hj]
theorem Stt.wipe1 {hd hc : Addr} {H0 : Hp} {Oe O : List Addr} {w : W} {env : Env} {σ : List (Option V)} {H : Hp} (S : Stt K hd hc H0 Oe O w env σ H) (v : Nat) : Stt K hd hc H0 Oe O w (env.set v .no) (σ.set v none) H where
  ext := S.ext
  hd0 := S.hd0
  hc0 := S.hc0
  hdE := S.hdE
  hcO := S.hcO
  sub := S.sub
  oe := S.oe
  onn := S.onn
  hand := S.hand
  len := by simp [S.len]
  slot := fun j s hs => by
    rcases setSlot hs with ⟨rfl, rfl, hl⟩ | ⟨ne, h⟩
    · trivial
    · rw [List.getElem?_set_ne ne]; exact S.slot j s h
  dist := fun j k d' e' a h1 h2 h3 h4 => by
    rcases setSlot h1 with ⟨rfl, z, hl⟩ | ⟨n1, h1⟩
    · cases z
    · rcases setSlot h2 with ⟨rfl, z, hl⟩ | ⟨n2, h2⟩
      · cases z
      · rw [List.getElem?_set_ne n1] at h3
        rw [List.getElem?_set_ne n2] at h4
        exact S.dist j k d' e' a h1 h2 h3 h4
theorem Stt.wipe {hd hc : Addr} {H0 : Hp} {Oe O : List Addr} {w : W} {env : Env} {σ : List (Option V)} {H : Hp} (S : Stt K hd hc H0 Oe O w env σ H) : ∀ vs : List Nat, Stt K hd hc H0 Oe O w (wipeE env vs) (L2.wipe σ vs) H
  | [] => S
  | v :: vs => (S.wipe vs).wipe1 v
def bYes : F1 Bool := fun _ w => some (true, w)
theorem sn_yes : SndT K tYes bYes := ⟨fun S _ _ e Q q => by cases e; exact q _ .refl S.hand⟩
/-- the turns of a comprehension -/
def lcD (gs : D → Env → Option Env) (ft : F1 Bool) (fe : F1 D) (env : Env) : List D → W → Option (List D × W)
  | [], w => some ([], w)
  | d :: ds, w => (gs d env).bind fun e1 => (ft e1 w).bind fun q => if q.1 = true then (fe e1 q.2).bind fun r => (lcD gs ft fe env ds r.2).map fun s => (r.1 :: s.1, s.2) else lcD gs ft fe env ds q.2
def eLc (vs : List Nat) (fi : F1 (List D)) (gs : D → Env → Option Env) (ft : F1 Bool) (fe : F1 D) : F1 D := fun env w => (fi env w).bind fun p => (lcD gs ft fe (wipeE env vs) p.1 p.2).map fun q => (.list q.1, q.2)
theorem sn_lc {is vs : List Nat} {wi : TI} {fi : F1 (List D)} {tg : TG} {gs : D → Env → Option Env} {tt : TT} {ft : F1 Bool} (hi : SndI K .bo wi fi) (hg : SndG K is tg gs) (ht : SndT K tt ft) (he : SndE K .sh te fe)
    (hs : is.all (fun j => vs.contains j) = true := by rfl) : SndE K .fr (tLc wi tg tt te vs) (eLc vs fi gs ft fe) := ⟨fun {hd hc H0 Oe O w env σ H} S d w' e Q q => by
  obtain ⟨⟨ds, w1⟩, e1, e⟩ := bindS e
  obtain ⟨⟨out, w2⟩, e2, e⟩ := mapS e
  cases e
  refine hi.go S e1 _ fun J H1 x1 h1 wk hz => ?_
  intro D hD
  have wk : WalkB K hd O H1 J ds := wk
  have S1 := S.step x1 h1
  refine ⟨fun i n H' => n = ds.length - i ∧ i ≤ ds.length ∧ ∃ (w3 : W) (accV : List V) (acc rest : List PyData), Ext hd H1 H' ∧ HandIs hd hc w3 H' ∧ H' D = some (.lst accV) ∧ RepAll K hd (D :: O) H' accV acc ∧ accV.length ≤ i ∧
      lcD gs ft fe (wipeE env vs) (ds.drop i) w3 = some (rest, w2) ∧ acc ++ rest = out,
    ⟨ds.length, rfl, Nat.zero_le _, w1, [], [], out, .new hD, h1.new hD, upd_same, .nil, Nat.le_refl _, by simpa using e2, rfl⟩, ?_⟩
  rintro i n H' ⟨rfl, hl, w3, accV, acc, rest, x2, h2, hA, rA, hlen, e', ho⟩
  have hDne : H' D ≠ none := by
    rw [hA]
    intro z
    cases z
  have nw : News H1 H' O (D :: O) [D] := ⟨fun b hb => (by rw [List.mem_singleton.mp hb]; exact hD), fun b hb => (by rw [List.mem_singleton.mp hb]; exact hDne), (by simp), fun b => (by simp)⟩
  have S2 := S1.stepL x2 h2 nw
  have wk' := wk (D :: O) H' x2 (fun b hb => by
    rcases List.mem_cons.mp hb with z | z
    · exact .inr (z ▸ hD)
    · exact .inl z) S2.hdO
  by_cases hlt : i < ds.length
  · obtain ⟨go, yl⟩ := wk'.go i ds[i] (by simp [hlt])
    rw [List.drop_eq_getElem_cons hlt] at e'
    obtain ⟨ev, f1, e'⟩ := bindS (show (gs ds[i] (wipeE env vs)).bind _ = some (rest, w2) from e')
    obtain ⟨⟨b, w4⟩, f2, e'⟩ := bindS e'
    refine .inr ⟨go, fun H3 => ∃ m', m' < ds.length - i ∧ (m' = ds.length - (i + 1) ∧ i + 1 ≤ ds.length ∧ ∃ (w3 : W) (accV : List V) (acc rest : List PyData), Ext hd H1 H3 ∧ HandIs hd hc w3 H3 ∧ H3 D = some (.lst accV) ∧ RepAll K hd (D :: O) H3 accV acc ∧ accV.length ≤ i + 1 ∧
      lcD gs ft fe (wipeE env vs) (ds.drop (i + 1)) w3 = some (rest, w2) ∧ acc ++ rest = out), fun H3 h => h, fun x H3 hy => ?_⟩
    obtain ⟨x3, hh3, r3⟩ := yl x H3 hy
    have S3 := (S2.step x3 (hh3 _ _ S2.hand)).wipe vs
    refine hg.go S3 r3 f1 _ fun σ4 S4 k4 l4 => ⟨wipe_eq k4 l4 (fun j hj => by simpa using List.all_eq_true.mp hs j hj), ?_⟩
    refine ht.go S4 f2 _ fun H5 x5 h5 => ?_
    have hA5 : H5 D = some (.lst accV) := x5.keep _ _ (fun z => S1.hdn (z ▸ hD)) (x3.keep _ _ (fun z => S1.hdn (z ▸ hD)) hA)
    have rA5 : RepAll K hd (D :: O) H5 accV acc := rA.ext (List.mem_cons_of_mem _ S.hdO) (x3.trans x5)
    by_cases c : b = true
    · rw [if_pos c]; rw [if_pos (show (b, w4).1 = true from c)] at e'
      obtain ⟨⟨y, w5⟩, f3, e'⟩ := bindS e'
      obtain ⟨⟨out', w6⟩, f4, e'⟩ := mapS e'
      cases e'
      refine he.go (S4.step x5 h5) f3 _ fun v H6 x6 h6 r6 => ?_
      have hA6 : H6 D = some (.lst accV) := x6.keep _ _ (fun z => S1.hdn (z ▸ hD)) hA5
      have rA6 : RepAll K hd (D :: O) H6 accV acc := rA5.ext (List.mem_cons_of_mem _ S.hdO) x6
      have x6' : Ext hd H1 H6 := ((x2.trans x3).trans x5).trans x6
      have gp : Prog (D :: O) H6 (D :: O) (upd H6 D (.lst (accV ++ [v]))) := ⟨fun b o nb z => ⟨nb, by rw [upd_ne (fun z => nb (by rw [z]; exact List.mem_cons_self))]; exact z⟩, fun b ys z => by
        rw [upd_ne (fun z' => by rw [z', hA6] at z; cases z)]; exact z⟩
      refine ⟨accV, hA6, Nat.lt_of_le_of_lt hlen (Nat.lt_of_lt_of_le hlt hz), ds.length - (i + 1), by omega, rfl, hlt, w5, accV ++ [v], acc ++ [y], out', ⟨fun b o nb z => ?_, fun b ys z => ?_⟩, ?_, upd_same, (rA6.append (.cons r6 .nil)).prog gp, by simp; omega, f4, by simpa using ho⟩
      · rw [upd_ne (ne_of_none z hD)]; exact x6'.keep b o nb z
      · rw [upd_ne (ne_of_none z hD)]; exact x6'.tups b ys z
      · exact h6.keep (upd_ne (fun z => S1.hdn (z ▸ hD))) (upd_ne (fun z => by have := S1.hand.cells; rw [z, hD] at this; cases this))
    · rw [if_neg c]; rw [if_neg (show ¬ (b, w4).1 = true from c)] at e'
      exact ⟨_, by omega, rfl, hlt, w4, accV, acc, rest, (x2.trans x3).trans x5, h5, hA5, rA5, by omega, e', ho⟩
  · have hl' : i = ds.length := by omega
    subst hl'
    rw [List.drop_length] at e'
    cases e'
    rw [List.append_nil] at ho
    subst ho
    exact .inl ⟨wk'.stop _ (Nat.le_refl _), q _ H' (x1.trans x2) h2 ⟨D, accV, acc, rfl, rfl, x1.old h1 hD, hA, Nat.le_trans hlen hz, rA⟩⟩⟩

/-! ### defs -/
def fnD (n : Nat) (f : F1 Out) : List D → W → Option (D × W) := fun ds w => (f (ds.map Slot.sh ++ List.replicate (n - ds.length) Slot.no) w).bind fun p => match p.1 with
  | .rt d => some (d, p.2)
  | .nx _ => some (.none, p.2)
  | _ => none
theorem body_ok {N : List Str} {n : Nat} {vs : List V} {H : Hp} {Q : VK} {E : XK} (h : SndS K t f) (q : spD K n (fnD N.length f) vs H Q E) : t { nx := fun _ H' => Q .non H', rt := Q } (L2.start N vs) H := by
  obtain ⟨hd, hc, Oe, ds, w, d, w', hE, hcE, hn, hh, r, hl, e, k⟩ := q
  obtain ⟨⟨o, w1⟩, e1, e⟩ := bindS e
  have S : Stt K hd hc H Oe Oe w (ds.map Slot.sh ++ List.replicate (N.length - ds.length) Slot.no) (L2.start N vs) H := {
    ext := .refl
    hd0 := by rw [hh.at_]; intro z; cases z
    hc0 := by rw [hh.cells]; intro z; cases z
    hdE := hE, hcO := hcE, sub := fun _ q => q, oe := hn, onn := hn, hand := hh
    len := by simp [L2.start, r.len]
    slot := fun i s hs => by
      by_cases hi : i < ds.length
      · rw [List.getElem?_append_left (by simpa using hi), List.getElem?_map] at hs
        have hd' : ds[i]? = some ds[i] := by simp [hi]
        rw [hd'] at hs
        cases hs
        obtain ⟨v, e2, rv⟩ := r.get hd'
        refine ⟨v, ?_, rv⟩
        unfold L2.start
        rw [List.getElem?_append_left (by simp [r.len, hi]), List.getElem?_map, e2]; rfl
      · rw [List.getElem?_append_right (by simpa using hi)] at hs
        have := List.mem_of_getElem? hs
        rw [(List.mem_replicate.mp this).2]
        trivial
    dist := fun i j d' e' a h1 h2 h3 h4 => by
      have no : ∀ (i : Nat) (d' : D), (ds.map Slot.sh ++ List.replicate (N.length - ds.length) Slot.no)[i]? = some (.ow d') → False := fun i d' hs => by
        have := List.mem_of_getElem? hs
        rcases List.mem_append.mp this with z | z
        · obtain ⟨_, _, z⟩ := List.mem_map.mp z; cases z
        · have := (List.mem_replicate.mp z).2; cases this
      exact (no i d' h1).elim }
  refine h.go S e1 _ ?_
  cases o with
  | nx e2 =>
    cases e
    exact fun O' σ' H' S' g' => k _ _ S'.ext S'.hand .non
  | rt d2 =>
    cases e
    exact fun v H' x hh r => k v H' x hh r
  | bk e2 => cases e
  | ct e2 => cases e
end
end DL

set_option maxRecDepth 100000
/-! DL5: operators, built-ins by values -/
namespace DL
open PySem L2
section
variable {K : PySem.W.Frag}
theorem RepM.ofInt {m : Mode} {hd : Addr} {Oe O : List Addr} {H0 H : Hp} (hm : m ≠ .fr) (i : Int) : RepM m K hd Oe H0 O H (.int i) (.int i) := by
  cases m with
  | bo => exact .inl (.int i)
  | sh => exact Rep.int i
  | fr => exact absurd rfl hm
/-- a new list of items that stand -/
theorem newList {hd hc : Addr} {w : W} {Oe O : List Addr} {H : Hp} {xs : List V} {ds : List D} {p : Addr} (hh : HandIs hd hc w H) (np : H p = none) (r : RepAll K hd O H xs ds) (z : xs.length ≤ SZ) :
    Ext hd H (upd H p (.lst xs)) ∧ HandIs hd hc w (upd H p (.lst xs)) ∧ RepM .fr K hd Oe H O (upd H p (.lst xs)) (.ref p) (.list ds) :=
  ⟨.new np, hh.new np, p, xs, ds, rfl, rfl, np, upd_same, z, r.prog (.new np)⟩
theorem newTup {hd hc : Addr} {w : W} {O : List Addr} {H : Hp} {xs : List V} {ds : List D} {p : Addr} (hO : hd ∈ O) (hh : HandIs hd hc w H) (np : H p = none) (r : RepAll K hd O H xs ds) (z : xs.length ≤ SZ) :
    Ext hd H (upd H p (.tup xs)) ∧ HandIs hd hc w (upd H p (.tup xs)) ∧ Rep K hd O (upd H p (.tup xs)) (.ref p) (.tuple ds) :=
  ⟨.new np, hh.new np, .tup (.inl upd_same) z (r.ext hO (.new np))⟩

/-! ### + -/
def rAddA (K : PySem.W.Frag) : R2 := fun x y H Q => rI0 (fun i j => .int (i + j)) x y H Q ∨ (∃ i j, x = .str i ∧ y = .str j ∧ i.length + j.length ≤ sizeLine ∧ Q (.str (i ++ j)) H) ∨ rCat x y H Q ∨ rCatA K x y H Q
theorem opAdd {X : Cx} : OpR X (binaryOp .Add) (rAddA X.K) := op_add.or (op_add_str.or (op_cat.or op_catA))
def gAdd : D → D → Option D
  | .int i, .int j => some (.int (i + j))
  | .str x, .str y => if x.length + y.length ≤ SZ then some (.str (x ++ y)) else none
  | .list a, .list b => if a.length + b.length ≤ SZ then some (.list (a ++ b)) else none
  | .tuple a, .tuple b => if a.length + b.length ≤ SZ then some (.tuple (a ++ b)) else none
  | _, _ => none
theorem o_add : Op2 K .sh (rAddA K) gAdd := by
  intro hd hc Oe O w H x y dx dy d Q hE hs hn hh rx ry e q
  unfold gAdd at e
  split at e
  · cases e
    exact .inl ⟨_, _, rx.int, ry.int, q _ _ .refl hh (Rep.int _)⟩
  · split at e
    · rename_i hz
      cases e
      exact .inr (.inl ⟨_, _, rx.str, ry.str, hz, q _ _ .refl hh (Rep.str _)⟩)
    · cases e
  · split at e
    · rename_i hz
      cases e
      obtain ⟨a, xs, rfl, n1, h1, z1, r1⟩ := rx.lst hs
      obtain ⟨b, ys, rfl, n2, h2, z2, r2⟩ := ry.lst hs
      have hl : xs.length + ys.length ≤ SZ := by rw [r1.len, r2.len]; exact hz
      refine .inr (.inr (.inl ⟨a, b, xs, ys, rfl, rfl, h1, h2, hl, fun p np => ?_⟩))
      obtain ⟨x1, h3, r3⟩ := newList (K := K) (Oe := Oe) hh np (r1.append r2) (by simpa using hl)
      exact q _ _ x1 h3 (RepM.shr (by decide) r3 hn)
    · cases e
  · split at e
    · rename_i hz
      cases e
      obtain ⟨a, xs, rfl, h1, z1, r1⟩ := rx.tup
      obtain ⟨b, ys, rfl, h2, z2, r2⟩ := ry.tup
      have hl : xs.length + ys.length ≤ SZ := by rw [r1.len, r2.len]; exact hz
      refine .inr (.inr (.inr ⟨a, b, xs, ys, rfl, rfl, h1.sqt, h2.sqt, hl, fun e1 => ?_, fun e1 e2 => ?_, fun _ _ p np => ?_⟩))
      · subst e1
        cases r1
        exact q _ _ .refl hh (Rep.tup h2 z2 r2)
      · subst e2
        cases r2
        rw [List.append_nil] at q
        exact q _ _ .refl hh (Rep.tup h1 z1 r1)
      · obtain ⟨x1, h3, r3⟩ := newTup (K := K) (hs _ hE) hh np (r1.append r2) (by simpa using hl)
        exact q _ _ x1 h3 r3
    · cases e
  · cases e
def gCat : D → D → Option D
  | .list a, .list b => if a.length + b.length ≤ SZ then some (.list (a ++ b)) else none
  | _, _ => none
theorem o_cat : Op2 K .fr rCat gCat := by
  intro hd hc Oe O w H x y dx dy d Q hE hs hn hh rx ry e q
  unfold gCat at e
  split at e
  · split at e
    · rename_i hz
      cases e
      obtain ⟨a, xs, rfl, n1, h1, z1, r1⟩ := rx.lst hs
      obtain ⟨b, ys, rfl, n2, h2, z2, r2⟩ := ry.lst hs
      have hl : xs.length + ys.length ≤ SZ := by rw [r1.len, r2.len]; exact hz
      refine ⟨a, b, xs, ys, rfl, rfl, h1, h2, hl, fun p np => ?_⟩
      obtain ⟨x1, h3, r3⟩ := newList (K := K) (Oe := Oe) hh np (r1.append r2) (by simpa using hl)
      exact q _ _ x1 h3 r3
    · cases e
  · cases e
/-! ### -, *, //, %, **, unary - -/
def gInt2 (p : Int → Int → Bool) (f : Int → Int → Int) : D → D → Option D
  | .int i, .int j => if p i j = true then some (.int (f i j)) else none
  | _, _ => none
theorem o_int2 {C : Int → Int → Prop} {p : Int → Int → Bool} {f : Int → Int → Int} (h : ∀ i j, p i j = true → C i j) : Op2 K .sh (rI C fun i j => .int (f i j)) (gInt2 p f) := by
  intro hd hc Oe O w H x y dx dy d Q hE hs hn hh rx ry e q
  unfold gInt2 at e
  split at e
  · split at e
    · rename_i hz
      cases e
      exact ⟨_, _, rx.int, ry.int, h _ _ hz, q _ _ .refl hh (Rep.int _)⟩
    · cases e
  · cases e
def gSub : D → D → Option D
  | .int i, .int j => some (.int (i - j))
  | _, _ => none
theorem o_sub : Op2 K .sh (rI0 fun i j => .int (i - j)) gSub := by
  intro hd hc Oe O w H x y dx dy d Q hE hs hn hh rx ry e q
  unfold gSub at e
  split at e
  · cases e
    exact ⟨_, _, rx.int, ry.int, q _ _ .refl hh (Rep.int _)⟩
  · cases e
/-- the total of ints for an augmented assignment -/
def gAddI : D → D → Option D
  | .int i, .int j => some (.int (i + j))
  | _, _ => none
theorem o_addI : Op2 K .sh (rI0 fun i j => .int (i + j)) gAddI := by
  intro hd hc Oe O w H x y dx dy d Q hE hs hn hh rx ry e q
  unfold gAddI at e
  split at e
  · cases e
    exact ⟨_, _, rx.int, ry.int, q _ _ .refl hh (Rep.int _)⟩
  · cases e
def small (i : Int) : Bool := decide (-18446744073709551616 < i) && decide (i < 18446744073709551616)
def mulOk (i j : Int) : Bool := small i || small j
theorem mulOk_C {i j : Int} (h : mulOk i j = true) : CMul i j := by
  simp only [mulOk, small, Bool.or_eq_true, Bool.and_eq_true, decide_eq_true_eq] at h
  have e : (2 : Int) ^ 64 = 18446744073709551616 := by decide
  unfold CMul
  rw [e]
  exact h
def repOk (n : Nat) (k : Int) : Bool := decide (-9223372036854775808 ≤ k) && decide (k < 9223372036854775808) && decide (n * k.toNat ≤ SZ)
def gMul : D → D → Option D
  | .int i, .int j => if mulOk i j = true then some (.int (i * j)) else none
  | .list a, .int k => if repOk a.length k = true then some (.list (List.replicate k.toNat a).flatten) else none
  | _, _ => none
def rMulA : R2 := fun x y H Q => rI CMul (fun i j => .int (i * j)) x y H Q ∨ rRep x y H Q
theorem opMul {X : Cx} : OpR X (binaryOp .Mult) rMulA := op_mul.or op_rep
theorem RepAll.rep {hd : Addr} {O : List Addr} {H : Hp} {vs : List V} {ds : List D} (r : RepAll K hd O H vs ds) : ∀ n : Nat, RepAll K hd O H (List.replicate n vs).flatten (List.replicate n ds).flatten
  | 0 => .nil
  | n + 1 => by
    rw [List.replicate_succ, List.replicate_succ, List.flatten_cons, List.flatten_cons]
    exact r.append (r.rep n)
theorem repOk_ {n : Nat} {k : Int} (h : repOk n k = true) : -(2 ^ 63) ≤ k ∧ k < 2 ^ 63 ∧ n * k.toNat ≤ SZ := by
  simp only [repOk, Bool.and_eq_true, decide_eq_true_eq] at h
  have e : (2 : Int) ^ 63 = 9223372036854775808 := by decide
  rw [e]
  exact ⟨h.1.1, h.1.2, h.2⟩
theorem o_mul : Op2 K .sh rMulA gMul := by
  intro hd hc Oe O w H x y dx dy d Q hE hs hn hh rx ry e q
  unfold gMul at e
  split at e
  · split at e
    · rename_i hz
      cases e
      exact .inl ⟨_, _, rx.int, ry.int, mulOk_C hz, q _ _ .refl hh (Rep.int _)⟩
    · cases e
  · split at e
    · rename_i hz
      cases e
      obtain ⟨a, xs, rfl, n1, h1, z1, r1⟩ := rx.lst hs
      obtain ⟨k1, k2, k3⟩ := repOk_ hz
      rw [← r1.len] at k3
      refine .inr ⟨a, _, xs, rfl, ry.int, h1, k1, k2, k3, fun p np => ?_⟩
      obtain ⟨x1, h3, r3⟩ := newList (K := K) (Oe := Oe) hh np (r1.rep _) (by rw [List.length_flatten, List.map_replicate, List.sum_replicate_nat, Nat.mul_comm]; exact k3)
      exact q _ _ x1 h3 (RepM.shr (by decide) r3 hn)
    · cases e
  · cases e
def gRep : D → D → Option D
  | .list a, .int k => if repOk a.length k = true then some (.list (List.replicate k.toNat a).flatten) else none
  | _, _ => none
theorem o_rep : Op2 K .fr rRep gRep := by
  intro hd hc Oe O w H x y dx dy d Q hE hs hn hh rx ry e q
  unfold gRep at e
  split at e
  · split at e
    · rename_i hz
      cases e
      obtain ⟨a, xs, rfl, n1, h1, z1, r1⟩ := rx.lst hs
      obtain ⟨k1, k2, k3⟩ := repOk_ hz
      rw [← r1.len] at k3
      refine ⟨a, _, xs, rfl, ry.int, h1, k1, k2, k3, fun p np => ?_⟩
      obtain ⟨x1, h3, r3⟩ := newList (K := K) (Oe := Oe) hh np (r1.rep _) (by rw [List.length_flatten, List.map_replicate, List.sum_replicate_nat, Nat.mul_comm]; exact k3)
      exact q _ _ x1 h3 r3
    · cases e
  · cases e
def modOk (_ j : Int) : Bool := decide (j ≠ 0)
theorem o_mod : Op2 K .sh (rI (fun _ j => j ≠ 0) fun i j => .int (i.fmod j)) (gInt2 modOk fun i j => i.fmod j) := o_int2 fun i j h => by simpa [modOk] using h
def divOk (_ j : Int) : Bool := decide (j ≠ 0) && decide (-1073741824 < j) && decide (j < 1073741824)
theorem o_fdiv : Op2 K .sh (rI CDivN fun i j => .int (i.fdiv j)) (gInt2 divOk fun i j => i.fdiv j) := o_int2 fun i j h => by
  simp only [divOk, Bool.and_eq_true, decide_eq_true_eq] at h
  exact ⟨h.1.1, by omega⟩
def powOk (i j : Int) : Bool := decide (0 ≤ j) && decide (j ≤ 1000000) && small i
theorem o_pow : Op2 K .sh (rI CPow fun i j => .int (i ^ j.toNat)) (gInt2 powOk fun i j => i ^ j.toNat) := o_int2 fun i j h => by
  simp only [powOk, small, Bool.and_eq_true, decide_eq_true_eq] at h
  exact ⟨h.1.1, h.1.2, by have e : (2 : Nat) ^ 64 = 18446744073709551616 := by decide
                          rw [e]; omega⟩
def gNeg : D → Option D
  | .int i => some (.int (-i))
  | _ => none
theorem o_neg : Op1 K .sh (rU fun i => .int (-i)) gNeg := by
  intro hd hc Oe O w H x dx d Q hE hs hn hh rx e q
  unfold gNeg at e
  split at e
  · cases e
    exact ⟨_, rx.int, q _ _ .refl hh (Rep.int _)⟩
  · cases e

/-! ### comparisons -/
def gCmp (p : Int → Int → Bool) : D → D → Option D
  | .int i, .int j => some (.bool (p i j))
  | _, _ => none
theorem o_cmp {p : Int → Int → Bool} : Op2 K .sh (rI0 fun i j => .bl (p i j)) (gCmp p) := by
  intro hd hc Oe O w H x y dx dy d Q hE hs hn hh rx ry e q
  unfold gCmp at e
  split at e
  · cases e
    exact ⟨_, _, rx.int, ry.int, q _ _ .refl hh (Rep.bl _)⟩
  · cases e
abbrev gLt := gCmp fun i j => decide (i < j)
abbrev gLe := gCmp fun i j => decide (i ≤ j)
abbrev gGt := gCmp fun i j => decide (j < i)
abbrev gGe := gCmp fun i j => decide (j ≤ i)
mutual
theorem Rep.dp {hd : Addr} {O : List Addr} {H : Hp} : ∀ {v : V} {d : D}, Rep K hd O H v d → d.plain = true → Dp K H v d
  | _, _, .non, _ => .non
  | _, _, .bl b, _ => .bl b
  | _, _, .int b, _ => .int b
  | _, _, .str b, _ => .str b
  | _, _, .lst h n z r, p => .lst (SqL.of h) (RepAll.dp r (by simpa [PyData.plain] using p))
  | _, _, .tup h z r, p => .tup h.sqt (RepAll.dp r (by simpa [PyData.plain] using p))
  | _, _, .hand, p => by simp [hnd, PyData.plain] at p
theorem RepAll.dp {hd : Addr} {O : List Addr} {H : Hp} : ∀ {v : List V} {d : List D}, RepAll K hd O H v d → PyData.plainAll d = true → DpAll K H v d
  | _, _, .nil, _ => .nil
  | _, _, .cons r t, p => by
    simp only [PyData.plainAll, Bool.and_eq_true] at p
    exact .cons (r.dp p.1) (t.dp p.2)
end
theorem RepB.dp {hd : Addr} {Oe O : List Addr} {H : Hp} {v : V} {d : D} (r : RepB K hd Oe O H v d) (p : d.plain = true) : Dp K H v d := by
  rcases r with r | ⟨a, xs, ds, rfl, rfl, n, h, z, r⟩
  · exact r.dp p
  · exact .lst (SqL.of h) (r.dp (by simpa [PyData.plain] using p))
def okD (d : D) : Bool := d.plain && decide (d.depth ≤ 64)
def rEqP (K : PySem.W.Frag) : R2 := fun x y H Q => ∃ d e, Dp K H x d ∧ Dp K H y e ∧ okD d = true ∧ okD e = true ∧ Q (.bl (PyData.eqv d e)) H
def rNeP (K : PySem.W.Frag) : R2 := fun x y H Q => ∃ d e, Dp K H x d ∧ Dp K H y e ∧ okD d = true ∧ okD e = true ∧ Q (.bl (!PyData.eqv d e)) H
theorem okD_ {d : D} (h : okD d = true) : d.plain = true ∧ d.depth ≤ 64 := by simpa [okD] using h
theorem opEq {X : Cx} (hu : X.A.units + 64 < cLine) : OpR X (compareOp .Eq) (rEqP X.K) := by
  intro pins s σ H x y v u Q I rx ry h
  obtain ⟨d, e, hd, he, sd, se, q⟩ := h
  obtain ⟨as, r1⟩ := Dp.reads I d x v hd rx
  obtain ⟨bs, r2⟩ := Dp.reads I e y u he ry
  have k := (okD_ sd).2
  exact SeqAt.eq_plain r1 r2 (okD_ sd).1 (okD_ se).1 (by omega) ⟨.bl _, H, I, rfl, q⟩
theorem opNe {X : Cx} (hu : X.A.units + 64 < cLine) : OpR X (compareOp .NotEq) (rNeP X.K) := by
  intro pins s σ H x y v u Q I rx ry h
  obtain ⟨d, e, hd, he, sd, se, q⟩ := h
  obtain ⟨as, r1⟩ := Dp.reads I d x v hd rx
  obtain ⟨bs, r2⟩ := Dp.reads I e y u he ry
  have k := (okD_ sd).2
  exact SeqAt.ne_plain r1 r2 (okD_ sd).1 (okD_ se).1 (by omega) ⟨.bl _, H, I, rfl, q⟩
def gEq (d e : D) : Option D := if (okD d && okD e) = true then some (.bool (PyData.eqv d e)) else none
def gNe (d e : D) : Option D := if (okD d && okD e) = true then some (.bool (!PyData.eqv d e)) else none
theorem o_eq : Op2 K .sh (rEqP K) gEq := by
  intro hd hc Oe O w H x y dx dy d Q hE hs hn hh rx ry e q
  unfold gEq at e
  split at e
  · rename_i h
    cases e
    rw [Bool.and_eq_true] at h
    exact ⟨dx, dy, rx.dp (okD_ h.1).1, ry.dp (okD_ h.2).1, h.1, h.2, q _ _ .refl hh (Rep.bl _)⟩
  · cases e
theorem o_ne : Op2 K .sh (rNeP K) gNe := by
  intro hd hc Oe O w H x y dx dy d Q hE hs hn hh rx ry e q
  unfold gNe at e
  split at e
  · rename_i h
    cases e
    rw [Bool.and_eq_true] at h
    exact ⟨dx, dy, rx.dp (okD_ h.1).1, ry.dp (okD_ h.2).1, h.1, h.2, q _ _ .refl hh (Rep.bl _)⟩
  · cases e
/-- a op1 b op2 c, of ints -/
def asI : D → Option Int
  | .int i => some i
  | _ => none
theorem asI_ {d : D} {i : Int} (h : asI d = some i) : d = .int i := by
  cases d <;> simp [asI] at h
  rw [h]
def eChn (p q : Int → Int → Bool) (fa fb fc : F1 D) : F1 D := fun env w => (fa env w).bind fun x => (fb env x.2).bind fun y => (asI x.1).bind fun i => (asI y.1).bind fun j =>
  if p i j = true then (fc env y.2).bind fun z => (asI z.1).map fun k => (.bool (q j k), z.2) else some (.bool false, y.2)
theorem sn_chn {ma mb mc : Mode} {ta tb tc : TE} {fa fb fc : F1 D} {p q : Int → Int → Bool} (ha : SndE K ma ta fa) (hb : SndE K mb tb fb) (hc : SndE K mc tc fc) :
    SndE K .sh (tChain (rI0 fun i j => .bl (p i j)) (rI0 fun i j => .bl (q i j)) ta tb tc) (eChn p q fa fb fc) := ⟨fun {hd hc' H0 Oe O w env σ H} S d w' e Q k => by
  obtain ⟨⟨x, w1⟩, e1, e⟩ := bindS e
  obtain ⟨⟨y, w2⟩, e2, e⟩ := bindS e
  obtain ⟨i, ei, f1⟩ := bindS e
  obtain ⟨j, ej, f2⟩ := bindS f1
  have hx := asI_ ei
  have hy := asI_ ej
  simp only at hx hy
  clear e f1
  subst hx hy
  refine two ha hb S e1 e2 fun v u H2 x2 S2 r1 r2 => ?_
  refine ⟨i, j, (r1.b S.onn).int, (r2.b S.onn).int, p i j, rfl, ?_⟩
  by_cases c : p i j = true
  · rw [if_pos c] at f2 ⊢
    obtain ⟨⟨z, w3⟩, e3, f3⟩ := bindS f2
    obtain ⟨l, el, f4⟩ := mapS f3
    have hz := asI_ el
    simp only at hz
    clear f3
    subst hz
    cases f4
    refine hc.go S2 e3 _ fun z H3 x3 h3 r3 => ?_
    exact ⟨j, l, (r2.b S.onn).int, (r3.b S2.onn).int, k _ _ (x2.trans x3) h3 (Rep.bl _)⟩
  · rw [if_neg c] at f2 ⊢
    cases f2
    exact k _ _ x2 S2.hand (Rep.bl _)⟩
end
end DL

set_option maxRecDepth 100000
/-! DL6: built-ins, subscripts, slices, what is walked -/
namespace DL
open PySem L2
theorem _root_.L2.Room.u {k : Nat} {A : Around} (r : Room k A) : A.units + 128 < cLine := by have := r.un; omega
section
variable {K : PySem.W.Frag}
theorem Dp.toReads {X : Cx} {pins : List (Addr × Obj)} {σ : List (Option V)} {H : Hp} {s : Shared} (I : Inv X pins σ H s) {xs : List V} {ds : List D} {us : List Value} (h : DpAll X.K H xs ds) (r : Vals xs us) : ∃ as, ReadsAll s.heap us ds as := Dp.readsAll I ds xs us h r

/-! ### subscripts -/
def gIx : D → D → Option D
  | .list ds, .int i => atI ds i
  | .tuple ds, .int i => atI ds i
  | .str z, .int i => if z.length ≤ SZ then (atI z.cps.toList i).map fun c => .str ⟨#[c]⟩ else none
  | _, _ => none
theorem RepAll.atI {hd : Addr} {O : List Addr} {H : Hp} {xs : List V} {ds : List D} {i : Int} {d : D} (r : RepAll K hd O H xs ds) (h : L2.atI ds i = some d) : ∃ v, L2.atI xs i = some v ∧ Rep K hd O H v d := by
  unfold L2.atI at h ⊢
  obtain ⟨j, h1, h2⟩ := bindS h
  obtain ⟨v, h3, h4⟩ := r.get h2
  rw [r.len, h1]
  exact ⟨v, h3, h4⟩
theorem o_ix : Op2 K .sh (rIx K) gIx := by
  intro hd hc Oe O w H x y dx dy d Q hE hs hn hh rx ry e q
  unfold gIx at e
  split at e
  · obtain ⟨a, xs, rfl, n1, h1, z1, r1⟩ := rx.lst hs
    obtain ⟨v, h2, r2⟩ := r1.atI e
    exact .inl ⟨a, xs, _, v, rfl, ry.int, SqL.of h1, h2, q _ _ .refl hh r2⟩
  · obtain ⟨a, xs, rfl, h1, z1, r1⟩ := rx.tup
    obtain ⟨v, h2, r2⟩ := r1.atI e
    exact .inr (.inl ⟨a, xs, _, v, rfl, ry.int, h1.sqt, h2, q _ _ .refl hh r2⟩)
  · split at e
    · rename_i hz
      obtain ⟨c, h1, rfl⟩ := mapS e
      exact .inr (.inr ⟨_, _, c, rx.str, ry.int, hz, h1, q _ _ .refl hh (Rep.str _)⟩)
    · cases e
  · cases e

/-! ### slices -/
structure SndO (K : PySem.W.Frag) (t : TO) (f : F1 (Option Int)) : Prop where
  go : ∀ {hd hc : Addr} {H0 : Hp} {Oe O : List Addr} {w : W} {env : Env} {σ : List (Option V)} {H : Hp}, Stt K hd hc H0 Oe O w env σ H → ∀ {d : Option Int} {w' : W}, f env w = some (d, w') →
    ∀ (Q : Option Int → Hp → Prop), (∀ H', Ext hd H H' → HandIs hd hc w' H' → Q d H') → t σ H Q
def oNone : F1 (Option Int) := fun _ w => some (none, w)
def oSome (f : F1 D) : F1 (Option Int) := fun env w => (f env w).bind fun p => (asI p.1).map fun i => (some i, p.2)
theorem so_none : SndO K tNoPart oNone := ⟨fun S _ _ e Q q => by cases e; exact q _ .refl S.hand⟩
theorem so_some {m : Mode} {t : TE} {f : F1 D} (h : SndE K m t f) : SndO K (tPart t) (oSome f) := ⟨fun {hd hc H0 Oe O w env σ H} S d w' e Q q => by
  obtain ⟨⟨x, w1⟩, e1, e2⟩ := bindS e
  obtain ⟨i, e3, e4⟩ := mapS e2
  have hx := asI_ e3
  simp only at hx
  clear e e2
  subst hx
  cases e4
  exact h.go S e1 _ fun v H' x hh r => ⟨i, (r.b S.onn).int, q H' x hh⟩⟩
def cutD {α : Type} (xs : List α) (lo hi : Option Int) : List α := (xs.drop (HT.sIx xs.length 0 lo)).take (HT.sIx xs.length xs.length hi - HT.sIx xs.length 0 lo)
def gSl : D → Option Int → Option Int → Option D
  | .list ds, lo, hi => some (.list (cutD ds lo hi))
  | .tuple ds, lo, hi => some (.tuple (cutD ds lo hi))
  | .str z, lo, hi => if z.length ≤ SZ then some (.str (cutS z lo hi)) else none
  | _, _, _ => none
def rSlX (K : PySem.W.Frag) : V → Option Int → Option Int → Hp → VK → Prop := fun x lo hi H Q => rSlL K x lo hi H Q ∨ (rSlA K x lo hi H Q ∨ rSlS x lo hi H Q)
theorem slX {X : Cx} : SlR X (rSlX X.K) := sl_list.or (sl_tupA.or sl_str)
def eSl (g : D → Option Int → Option Int → Option D) (f : F1 D) (fl fh : F1 (Option Int)) : F1 D := fun env w => (f env w).bind fun x => (fl env x.2).bind fun l => (fh env l.2).bind fun h => (g x.1 l.1 h.1).map fun d => (d, h.2)
def SlOp (K : PySem.W.Frag) (m : Mode) (r : V → Option Int → Option Int → Hp → VK → Prop) (g : D → Option Int → Option Int → Option D) : Prop :=
  ∀ {hd hc : Addr} {Oe O : List Addr} {w : W} {H : Hp} {x : V} {lo hi : Option Int} {dx d : D} {Q : VK}, hd ∈ Oe → (∀ b ∈ Oe, b ∈ O) → (∀ b ∈ O, H b ≠ none) → HandIs hd hc w H → RepB K hd Oe O H x dx → g dx lo hi = some d →
    (∀ v H', Ext hd H H' → HandIs hd hc w H' → RepM m K hd Oe H O H' v d → Q v H') → r x lo hi H Q
theorem RepAll.cut {hd : Addr} {O : List Addr} {H : Hp} {xs : List V} {ds : List D} (r : RepAll K hd O H xs ds) (lo hi : Option Int) : RepAll K hd O H (cutV xs lo hi) (cutD ds lo hi) := by
  unfold cutV cutD
  rw [r.len]
  exact (r.drop _).take _
theorem cutD_whole {α : Type} {xs : List α} {lo hi : Option Int} (h : HT.sIx xs.length 0 lo = 0 ∧ HT.sIx xs.length xs.length hi = xs.length) : cutD xs lo hi = xs := by
  unfold cutD
  rw [h.1, h.2]
  simp
theorem o_sl : SlOp K .sh (rSlX K) gSl := by
  intro hd hc Oe O w H x lo hi dx d Q hE hs hn hh rx e q
  unfold gSl at e
  split at e
  · cases e
    obtain ⟨a, xs, rfl, n1, h1, z1, r1⟩ := rx.lst hs
    refine .inl ⟨a, xs, rfl, SqL.of h1, fun p np => ?_⟩
    obtain ⟨x1, h3, r3⟩ := newList (K := K) (Oe := Oe) hh np (r1.cut lo hi) (Nat.le_trans (cutV_length _ _ _) z1)
    exact q _ _ x1 h3 (RepM.shr (by decide) r3 hn)
  · cases e
    obtain ⟨a, xs, rfl, h1, z1, r1⟩ := rx.tup
    refine .inr (.inl ⟨a, xs, rfl, h1.sqt, fun hw => ?_, fun _ p np => ?_⟩)
    · rw [r1.len] at hw
      rw [cutD_whole hw] at q
      exact q _ _ .refl hh (Rep.tup h1 z1 r1)
    · obtain ⟨x1, h3, r3⟩ := newTup (K := K) (hs _ hE) hh np (r1.cut lo hi) (Nat.le_trans (cutV_length _ _ _) z1)
      exact q _ _ x1 h3 r3
  · split at e
    · rename_i hz
      cases e
      exact .inr (.inr ⟨_, rx.str, hz, q _ _ .refl hh (Rep.str _)⟩)
    · cases e
  · cases e
theorem sn_sl {m m' : Mode} {r : V → Option Int → Option Int → Hp → VK → Prop} {g : D → Option Int → Option Int → Option D} {te : TE} {tl th : TO} {f : F1 D} {fl fh : F1 (Option Int)} (ho : SlOp K m r g) (h : SndE K m' te f) (hl : SndO K tl fl) (hh : SndO K th fh) :
    SndE K m (tSl r te tl th) (eSl g f fl fh) := ⟨fun {hd hc H0 Oe O w env σ H} S d w' e Q q => by
  obtain ⟨⟨x, w1⟩, e1, e⟩ := bindS e
  obtain ⟨⟨l, w2⟩, e2, e⟩ := bindS e
  obtain ⟨⟨u, w3⟩, e3, e⟩ := bindS e
  obtain ⟨z, e4, e⟩ := mapS e
  cases e
  refine h.go S e1 _ fun v H1 x1 h1 r1 => hl.go (S.step x1 h1) e2 _ fun H2 x2 h2 => hh.go (S.step (x1.trans x2) h2) e3 _ fun H3 x3 h3 => ?_
  have S3 := S.step ((x1.trans x2).trans x3) h3
  exact ho S.hdE S.sub S3.onn h3 (RepB.ext (r1.b S.onn) S.hdE S.hdO (x2.trans x3)) e4 fun z H' x4 h4 r4 => q z H' (((x1.trans x2).trans x3).trans x4) h4 (r4.base ((x1.trans x2).trans x3) h3)⟩

/-! ### len, int, abs, max, min of two -/
def gLen : D → Option D
  | .list ds => some (.int ds.length)
  | .tuple ds => some (.int ds.length)
  | .str x => if x.length ≤ SZ then some (.int x.length) else none
  | _ => none
theorem o_len : Cl1 K .sh (fun xs H Q => ∃ x n, xs = [x] ∧ LenV K x H n ∧ Q (.int (n : Nat)) H) gLen := by
  intro hd hc Oe O w H x dx d Q hE hs hn hh rx e q
  unfold gLen at e
  split at e
  · cases e
    obtain ⟨a, xs, rfl, n1, h1, z1, r1⟩ := rx.lst hs
    exact ⟨_, xs.length, rfl, .inl ⟨xs, SqL.of h1, rfl⟩, by rw [r1.len]; exact q _ _ .refl hh (Rep.int _)⟩
  · cases e
    obtain ⟨a, xs, rfl, h1, z1, r1⟩ := rx.tup
    exact ⟨_, xs.length, rfl, .inr ⟨xs, h1.sqt, rfl⟩, by rw [r1.len]; exact q _ _ .refl hh (Rep.int _)⟩
  · split at e
    · rename_i x' hz
      cases e
      have := rx.str
      subst this
      exact ⟨_, x'.length, rfl, ⟨hz, rfl⟩, q _ _ .refl hh (Rep.int _)⟩
    · cases e
  · cases e
def gToInt : D → Option D
  | .int i => some (.int i)
  | .bool b => some (.int (if b then 1 else 0))
  | _ => none
theorem o_toInt : Cl1 K .sh (fun xs H Q => (∃ i, xs = [.int i] ∧ Q (.int i) H) ∨ ∃ k, xs = [.bl k] ∧ Q (.int (if k then 1 else 0)) H) gToInt := by
  intro hd hc Oe O w H x dx d Q hE hs hn hh rx e q
  unfold gToInt at e
  split at e
  · cases e
    exact .inl ⟨_, by rw [rx.int], q _ _ .refl hh (Rep.int _)⟩
  · cases e
    exact .inr ⟨_, by rw [rx.bl], q _ _ .refl hh (Rep.int _)⟩
  · cases e
def gAbs : D → Option D
  | .int i => some (.int (if i < 0 then -i else i))
  | _ => none
theorem o_abs : Cl1 K .sh (fun xs H Q => ∃ i, xs = [.int i] ∧ Q (.int (if i < 0 then -i else i)) H) gAbs := by
  intro hd hc Oe O w H x dx d Q hE hs hn hh rx e q
  unfold gAbs at e
  split at e
  · cases e
    exact ⟨_, by rw [rx.int], q _ _ .refl hh (Rep.int _)⟩
  · cases e
def gMax2 : D → D → Option D
  | .int i, .int j => some (.int (if j > i then j else i))
  | _, _ => none
def gMin2 : D → D → Option D
  | .int i, .int j => some (.int (if j < i then j else i))
  | _, _ => none
theorem o_max2 : Cl2 K .sh (fun xs H Q => ∃ i j, xs = [.int i, .int j] ∧ Q (.int (if j > i then j else i)) H) gMax2 := by
  intro hd hc Oe O w H x y dx dy d Q hE hs hn hh rx ry e q
  unfold gMax2 at e
  split at e
  · cases e
    exact ⟨_, _, by rw [rx.int, ry.int], q _ _ .refl hh (Rep.int _)⟩
  · cases e
theorem o_min2 : Cl2 K .sh (fun xs H Q => ∃ i j, xs = [.int i, .int j] ∧ Q (.int (if j < i then j else i)) H) gMin2 := by
  intro hd hc Oe O w H x y dx dy d Q hE hs hn hh rx ry e q
  unfold gMin2 at e
  split at e
  · cases e
    exact ⟨_, _, by rw [rx.int, ry.int], q _ _ .refl hh (Rep.int _)⟩
  · cases e

/-! ### sum, all, any -/
def gSum : D → Option D
  | .list ds => (intsOf ds).map fun ns => .int ns.sum
  | .tuple ds => (intsOf ds).map fun ns => .int ns.sum
  | _ => none
def rSumA (K : PySem.W.Frag) : List V → Hp → VK → Prop := fun vs H Q => rSum K vs H Q ∨ ∃ (a : Addr) (ns : List Int), vs = [V.ref a] ∧ SqT K H a (ns.map V.int) ∧ Q (.int ns.sum) H
theorem clSum {X : Cx} (hc : X.calm = true) : CallR X (.builtin "sum") (rSumA X.K) := (cr_sum hc).or (by
  intro pins s σ H vs us Q I r h
  obtain ⟨a, ns, rfl, hs, q⟩ := h
  obtain ⟨its, rv, ht, _⟩ := I.tuple hs
  rw [Vals.ref1 r]
  have hi := rv.ints
  obtain ⟨xs, e⟩ := hi.allInts.items
  have hn : numsOf (intItems xs).toList = ns := by rw [← e]; exact hi.numsOf
  rw [nums_intItems] at hn
  rw [e] at ht
  have ht' : s.heap.IsTuple a (intItems xs) := ht
  refine call_sum_walkAnyS (PySem.W.iter_tupleW (A := X.A.in1) (I.ok.hd hc) ht' fun s₂ e2 W st hfp hw hk => ?_)
  refine ⟨_, _, _, _, _, _, _, numAt xs, rfl, W, st, hfp, (fun _ _ => intItems_at), fun s' t' m => ?_⟩
  obtain ⟨h', tk, rfl, hk'⟩ := PySem.W.moved_old e2 rfl m
  refine ⟨.int ns.sum, H, I.kept hk', ⟨t', ?_⟩, q⟩
  have hsz : (intItems xs).size = xs.size := by simp [intItems]
  rw [hsz, preSum_eq, List.take_of_length_le (by simp), hn])
theorem o_sum : Cl1 K .sh (rSumA K) gSum := by
  intro hd hc Oe O w H x dx d Q hE hs hn hh rx e q
  unfold gSum at e
  split at e
  · obtain ⟨ns, h1, rfl⟩ := mapS e
    obtain ⟨a, xs, rfl, n1, h2, z1, r1⟩ := rx.lst hs
    rw [intsOf_some h1] at r1
    have := r1.toInts
    subst this
    exact .inl ⟨a, ns, rfl, SqL.of h2, q _ _ .refl hh (Rep.int _)⟩
  · obtain ⟨ns, h1, rfl⟩ := mapS e
    obtain ⟨a, xs, rfl, h2, z1, r1⟩ := rx.tup
    rw [intsOf_some h1] at r1
    have := r1.toInts
    subst this
    exact .inr ⟨a, ns, rfl, h2.sqt, q _ _ .refl hh (Rep.int _)⟩
  · cases e
def gAll : D → Option D
  | .list ds => (boolsOf ds).map fun ns => .bool (ns.all id)
  | _ => none
def gAny : D → Option D
  | .list ds => (boolsOf ds).map fun ns => .bool (ns.any id)
  | _ => none
theorem o_all : Cl1 K .sh (rAll K) gAll := by
  intro hd hc Oe O w H x dx d Q hE hs hn hh rx e q
  unfold gAll at e
  split at e
  · obtain ⟨ns, h1, rfl⟩ := mapS e
    obtain ⟨a, xs, rfl, n1, h2, z1, r1⟩ := rx.lst hs
    rw [boolsOf_some h1] at r1
    have := r1.toBools
    subst this
    exact ⟨a, ns, rfl, SqL.of h2, q _ _ .refl hh (Rep.bl _)⟩
  · cases e
theorem o_any : Cl1 K .sh (rAny K) gAny := by
  intro hd hc Oe O w H x dx d Q hE hs hn hh rx e q
  unfold gAny at e
  split at e
  · obtain ⟨ns, h1, rfl⟩ := mapS e
    obtain ⟨a, xs, rfl, n1, h2, z1, r1⟩ := rx.lst hs
    rw [boolsOf_some h1] at r1
    have := r1.toBools
    subst this
    exact ⟨a, ns, rfl, SqL.of h2, q _ _ .refl hh (Rep.bl _)⟩
  · cases e

/-! ### tuple(x), list(x) -/
def gTuple : D → Option D
  | .list ds => some (.tuple ds)
  | .tuple ds => some (.tuple ds)
  | _ => none
theorem o_tuple : Cl1 K .sh (fun xs H Q => ∃ p ys, xs = [.ref p] ∧ ((SqL K H p ys ∧ ∀ l, H l = none → Q (.ref l) (upd H l (.tup ys))) ∨ (SqT K H p ys ∧ Q (.ref p) H))) gTuple := by
  intro hd hc Oe O w H x dx d Q hE hs hn hh rx e q
  unfold gTuple at e
  split at e
  · cases e
    obtain ⟨a, xs, rfl, n1, h2, z1, r1⟩ := rx.lst hs
    refine ⟨a, xs, rfl, .inl ⟨SqL.of h2, fun p np => ?_⟩⟩
    obtain ⟨x1, h3, r3⟩ := newTup (K := K) (hs _ hE) hh np r1 z1
    exact q _ _ x1 h3 r3
  · cases e
    obtain ⟨a, xs, rfl, h2, z1, r1⟩ := rx.tup
    exact ⟨a, xs, rfl, .inr ⟨h2.sqt, q _ _ .refl hh (Rep.tup h2 z1 r1)⟩⟩
  · cases e
def gList : D → Option D
  | .list ds => some (.list ds)
  | .tuple ds => some (.list ds)
  | _ => none
theorem o_list : Cl1 K .fr (fun xs H Q => ∃ p ys, xs = [.ref p] ∧ (SqL K H p ys ∨ SqT K H p ys) ∧ ∀ l, H l = none → Q (.ref l) (upd H l (.lst ys))) gList := by
  intro hd hc Oe O w H x dx d Q hE hs hn hh rx e q
  unfold gList at e
  split at e
  · cases e
    obtain ⟨a, xs, rfl, n1, h2, z1, r1⟩ := rx.lst hs
    refine ⟨a, xs, rfl, .inl (SqL.of h2), fun p np => ?_⟩
    obtain ⟨x1, h3, r3⟩ := newList (K := K) (Oe := Oe) hh np r1 z1
    exact q _ _ x1 h3 r3
  · cases e
    obtain ⟨a, xs, rfl, h2, z1, r1⟩ := rx.tup
    refine ⟨a, xs, rfl, .inr h2.sqt, fun p np => ?_⟩
    obtain ⟨x1, h3, r3⟩ := newList (K := K) (Oe := Oe) hh np r1 z1
    exact q _ _ x1 h3 r3
  · cases e

/-! ### isinstance of data -/
def tyName : D → Option String
  | .none => some "NoneType"
  | .bool _ => some "bool"
  | .int _ => some "int"
  | .str _ => some "str"
  | .list _ => some "list"
  | .tuple _ => some "tuple"
  | .dict _ => none
def gIsi (T : String) (d : D) : Option D := (tyName d).bind fun t => (kitB t T).map fun b => .bool b
theorem RepB.ty {hd : Addr} {Oe O : List Addr} {H : Hp} {v : V} {d : D} {t : String} (r : RepB K hd Oe O H v d) (hs : ∀ b ∈ Oe, b ∈ O) (h : tyName d = some t) : TyX K H v (.type t) := by
  unfold tyName at h
  split at h <;> cases h
  · rw [r.non]; exact .base .non
  · rw [r.bl]; exact .base (.bl _)
  · rw [r.int]; exact .base (.int _)
  · rw [r.str]; exact .base (.str _)
  · obtain ⟨a, xs, rfl, n1, h2, z1, r1⟩ := r.lst hs
    exact .base (.lst h2)
  · obtain ⟨a, xs, rfl, h2, z1, r1⟩ := r.tup
    rcases h2 with h2 | ⟨o, its, n, hk, hc, _⟩
    · exact .base (.tup h2)
    · exact .kTuple hk hc
theorem sn_isi {m : Mode} {te : TE} {f : F1 D} (T : String) (h : SndE K m te f) : SndE K .sh (tCB (rIsi K) (tCons te (tCons (tC (.ty T)) tNil))) (e1 (gIsi T) f) :=
  sn_un (r := fun x H Q => rIsi K [x, .ty T] H Q) (g := gIsi T) (by
    intro hd hc Oe O w H x dx d Q hE hs hn hh rx e q
    obtain ⟨t, h1, e⟩ := bindS e
    obtain ⟨b, h2, rfl⟩ := mapS e
    exact ⟨x, _, _, _, b, rfl, .ty T, rx.ty hs h1, kit_ty h2, q _ _ .refl hh (Rep.bl _)⟩) h
end
end DL

set_option maxRecDepth 100000
/-! DL7: min, max, sorted, in, what is walked -/
namespace DL
open PySem L2
section
variable {K : PySem.W.Frag}

/-! ### min, max of a list or tuple of alike data -/
def okMin (ds : List D) : Bool := PyData.plainAll ds && decide (PyData.depthAll ds ≤ 64) && ds.all (fun x => ds.all fun y => W.alike x y) && ds.all fun x => match x with | .none => false | _ => true
theorem okMin_ {ds : List D} (h : okMin ds = true) : PyData.plainAll ds = true ∧ PyData.depthAll ds ≤ 64 ∧ W.AlikeAll ds := by
  simp only [okMin, Bool.and_eq_true, decide_eq_true_eq, List.all_eq_true] at h
  refine ⟨h.1.1.1, h.1.1.2, fun x hx y hy => h.1.2 x hx y hy, fun x hx e => ?_⟩
  have := h.2 x hx
  rw [e] at this
  cases this
def rPick (K : PySem.W.Frag) (f : D → List D → D) : List V → Hp → VK → Prop := fun vs H Q => ∃ (a : Addr) (xs : List V) (d : D) (ds : List D), vs = [V.ref a] ∧ (SqL K H a xs ∨ SqT K H a xs) ∧ DpAll K H xs (d :: ds) ∧ okMin (d :: ds) = true ∧
  ∀ (i : Nat) (x : V), xs[i]? = some x → (d :: ds)[i]? = some (f d ds) → Q x H
theorem readsAll_at' {h : Heap} : ∀ {vs : List Value} {ds : List D} {as : List Addr}, ReadsAll h vs ds as → ∀ {i : Nat} {v : Value}, vs[i]? = some v → ∃ d bs, ds[i]? = some d ∧ Reads h v d bs
  | _, _, _, .nil, _, _, e => by simp at e
  | _, _, _, .cons r1 r2, 0, _, e => by simp at e; subst e; exact ⟨_, _, rfl, r1⟩
  | _, _, _, .cons r1 r2, i + 1, _, e => readsAll_at' r2 (i := i) (by simpa using e)
theorem depth_le {ds : List D} {d : D} (hd : d ∈ ds) : d.depth ≤ PyData.depthAll ds := by
  induction ds with
  | nil => cases hd
  | cons x xs ih =>
    simp only [PyData.depthAll]
    rcases List.mem_cons.mp hd with rfl | hd
    · exact Nat.le_max_left _ _
    · exact Nat.le_trans (ih hd) (Nat.le_max_right _ _)
theorem plain_at {ds : List D} {i : Nat} {d : D} (h : PyData.plainAll ds = true) (e : ds[i]? = some d) : d.plain = true := by
  induction ds generalizing i with
  | nil => simp at e
  | cons x xs ih =>
    simp only [PyData.plainAll, Bool.and_eq_true] at h
    cases i with
    | zero => simp at e; subst e; exact h.1
    | succ i => exact ih h.2 (by simpa using e)
theorem pick_done {X : Cx} {pins : List (Addr × Obj)} {s : Shared} {σ : List (Option V)} {H : Hp} {Q : VK} {f : D → List D → D} {xs : List V} {d : D} {ds : List D} {its : List Value} {as : List Addr} (I : Inv X pins σ H s) (rv : Vals xs its) (hr : ReadsAll s.heap its (d :: ds) as)
    (hp : PyData.plainAll (d :: ds) = true) (q : ∀ (i : Nat) (x : V), xs[i]? = some x → (d :: ds)[i]? = some (f d ds) → Q x H)
    (i : Nat) (v : Value) (h' : Heap) (tk : Nat) (bs : List Addr) (hi : its[i]? = some v) (r : Reads h' v (f d ds) bs) (hk : ∀ b o, s.heap.get? b = some o → h'.get? b = some o) : EP X pins σ Q v { s with heap := h', toks := tk } := by
  obtain ⟨e, cs, e1, r1⟩ := readsAll_at' hr hi
  have pl := plain_at hp e1
  have e2 : e = f d ds := SeqAt.plain_unique e _ v cs bs pl (PyProof.Rows.Reads.keeps hk r1) r
  have hx : ∃ x, xs[i]? = some x ∧ RelV x v := by
    cases hx : xs[i]? with
    | none => rw [Vals.none_of rv hx] at hi; cases hi
    | some x =>
      obtain ⟨u, hu, ru⟩ := rv.get hx
      rw [hi] at hu; cases hu
      exact ⟨x, rfl, ru⟩
  obtain ⟨x, hx, rx⟩ := hx
  exact ⟨x, H, I.kept hk, rx, q i x hx (by rw [e1, e2])⟩
theorem clMin {X : Cx} (hc : X.calm = true) (hu : X.A.units + 128 < cLine) : CallR X (.builtin "min") (rPick X.K W.minD) := by
  intro pins s σ H vs us Q I r h
  obtain ⟨a, xs, d, ds, rfl, hs, hD, ok, q⟩ := h
  obtain ⟨p1, p2, p3⟩ := okMin_ ok
  rw [Vals.ref1 r]
  rcases hs with hs | hs
  · obtain ⟨its, rv, hl, _⟩ := I.list hs
    obtain ⟨as, hr⟩ := Dp.toReads I hD rv
    exact W.min_list_data (I.ok.hd hc) hl.isList hr p3 (by omega) fun i v h' tk bs hi r hk => pick_done I rv hr p1 q i v h' tk bs (by simpa using hi) r hk
  · obtain ⟨its, rv, ht, _⟩ := I.tuple hs
    obtain ⟨as, hr⟩ := Dp.toReads I hD rv
    exact W.min_tuple_data (I.ok.hd hc) (show s.heap.IsTuple a its.toArray from ht) hr p3 (by omega) fun i v h' tk bs hi r hk => pick_done I rv hr p1 q i v h' tk bs (by simpa using hi) r hk
theorem clMax {X : Cx} (hc : X.calm = true) (hu : X.A.units + 128 < cLine) : CallR X (.builtin "max") (rPick X.K W.maxD) := by
  intro pins s σ H vs us Q I r h
  obtain ⟨a, xs, d, ds, rfl, hs, hD, ok, q⟩ := h
  obtain ⟨p1, p2, p3⟩ := okMin_ ok
  rw [Vals.ref1 r]
  rcases hs with hs | hs
  · obtain ⟨its, rv, hl, _⟩ := I.list hs
    obtain ⟨as, hr⟩ := Dp.toReads I hD rv
    exact W.max_list_data (I.ok.hd hc) hl.isList hr p3 (by omega) fun i v h' tk bs hi r hk => pick_done I rv hr p1 q i v h' tk bs (by simpa using hi) r hk
  · obtain ⟨its, rv, ht, _⟩ := I.tuple hs
    obtain ⟨as, hr⟩ := Dp.toReads I hD rv
    exact W.max_tuple_data (I.ok.hd hc) (show s.heap.IsTuple a its.toArray from ht) hr p3 (by omega) fun i v h' tk bs hi r hk => pick_done I rv hr p1 q i v h' tk bs (by simpa using hi) r hk
def gPick (f : D → List D → D) : D → Option D
  | .list (d :: ds) => if okMin (d :: ds) = true then some (f d ds) else none
  | .tuple (d :: ds) => if okMin (d :: ds) = true then some (f d ds) else none
  | _ => none
abbrev gMin := gPick W.minD
abbrev gMax := gPick W.maxD
theorem pick_rep {f : D → List D → D} {hd hc : Addr} {Oe O : List Addr} {w : W} {H : Hp} {xs : List V} {d : D} {ds : List D} {Q : VK} (r : RepAll K hd O H xs (d :: ds)) (hh : HandIs hd hc w H)
    (q : ∀ v H', Ext hd H H' → HandIs hd hc w H' → RepM .sh K hd Oe H O H' v (f d ds) → Q v H') (i : Nat) (x : V) (h1 : xs[i]? = some x) (h2 : (d :: ds)[i]? = some (f d ds)) : Q x H := by
  obtain ⟨v, h3, r3⟩ := r.get h2
  rw [h1] at h3
  cases h3
  exact q _ _ .refl hh r3
theorem o_pick {f : D → List D → D} : Cl1 K .sh (rPick K f) (gPick f) := by
  intro hd hc Oe O w H x dx d Q hE hs hn hh rx e q
  unfold gPick at e
  split at e
  · split at e
    · rename_i ok
      cases e
      obtain ⟨a, xs, rfl, n1, h2, z1, r1⟩ := rx.lst hs
      exact ⟨a, xs, _, _, rfl, .inl (SqL.of h2), r1.dp (okMin_ ok).1, ok, pick_rep (f := f) (Oe := Oe) r1 hh q⟩
    · cases e
  · split at e
    · rename_i ok
      cases e
      obtain ⟨a, xs, rfl, h2, z1, r1⟩ := rx.tup
      exact ⟨a, xs, _, _, rfl, .inr h2.sqt, r1.dp (okMin_ ok).1, ok, pick_rep (f := f) (Oe := Oe) r1 hh q⟩
    · cases e
  · cases e

/-! ### sorted -/
def okSort (ds : List D) : Bool := PyData.plainAll ds && decide (PyData.depthAll ds ≤ 64) && ds.all (fun x => ds.all fun y => W.alike x y) &&
  (ds.all (fun x => match x with | .tuple (_ :: _) => true | _ => false) || ds.all fun x => match x with | .none => false | .tuple _ => false | _ => true)
theorem okSort_ {ds : List D} (h : okSort ds = true) : PyData.plainAll ds = true ∧ PyData.depthAll ds ≤ 64 ∧ W.AllAlike ds ∧ W.Sortable ds := by
  simp only [okSort, Bool.and_eq_true, decide_eq_true_eq, Bool.or_eq_true, List.all_eq_true] at h
  refine ⟨h.1.1.1, h.1.1.2, fun x hx y hy => h.1.2 x hx y hy, ?_⟩
  rcases h.2 with h | h
  · refine .inl fun d hd => ?_
    have := h d hd
    split at this
    · exact ⟨_, _, rfl⟩
    · cases this
  · refine .inr fun d hd => ⟨fun e => ?_, fun xs e => ?_⟩
    · have := h d hd
      rw [e] at this
      cases this
    · have := h d hd
      rw [e] at this
      cases this
def srt (ds : List D) : List D := ds.mergeSort (W.dataLe false id)
def rSrt (K : PySem.W.Frag) : List V → Hp → VK → Prop := fun vs H Q => ∃ (a : Addr) (xs : List V) (ds : List D), vs = [V.ref a] ∧ SqL K H a xs ∧ xs.length ≤ SZ ∧ DpAll K H xs ds ∧ okSort ds = true ∧
  ∀ (ys : List V) (p : Addr), W.EachIs (fun y d => (y, d) ∈ xs.zip ds) ys (srt ds) → H p = none → Q (.ref p) (upd H p (.lst ys))
theorem each_zip {h : Heap} : ∀ {xs : List V} {us : List Value} {ds : List D} {as : List Addr}, Vals xs us → ReadsAll h us ds as → W.EachIs (fun v d => ∃ x, RelV x v ∧ (x, d) ∈ xs.zip ds) us ds ∧ W.EachIs (fun v d => ∃ as, Reads h v d as) us ds
  | _, _, _, _, .nil, .nil => ⟨.nil, .nil⟩
  | _, _, _, _, .cons r t, .cons r1 r2 => by
    obtain ⟨a, b⟩ := each_zip t r2
    exact ⟨.cons ⟨_, r, List.mem_cons_self⟩ (a.mono fun v d ⟨x, h1, h2⟩ => ⟨x, h1, List.mem_cons_of_mem _ h2⟩), .cons ⟨_, r1⟩ b⟩
theorem each_vals {xs : List V} {ds : List D} : ∀ {us : List Value} {es : List D}, W.EachIs (fun v d => ∃ x, RelV x v ∧ (x, d) ∈ xs.zip ds) us es → ∃ ys, Vals ys us ∧ W.EachIs (fun y d => (y, d) ∈ xs.zip ds) ys es
  | _, _, .nil => ⟨[], .nil, .nil⟩
  | _, _, .cons ⟨x, r, m⟩ t => by
    obtain ⟨ys, a, b⟩ := each_vals t
    exact ⟨x :: ys, .cons r a, .cons m b⟩
theorem clSorted {X : Cx} (hu : X.A.units + 128 < cLine) : CallR X (.builtin "sorted") (rSrt X.K) := by
  intro pins s σ H vs us Q I r h
  obtain ⟨a, xs, ds, rfl, hs, hz, hD, ok, q⟩ := h
  obtain ⟨p1, p2, p3, p4⟩ := okSort_ ok
  rw [Vals.ref1 r]
  obtain ⟨its, rv, hl, _⟩ := I.list hs
  obtain ⟨as, hr⟩ := Dp.toReads I hD rv
  obtain ⟨e1, e2⟩ := each_zip rv hr
  have hlen : ds.length ≤ sizeLine := by rw [← e1.length, ← rv.length]; exact hz
  have dep : ∀ d ∈ ds, d.depth ≤ 64 := fun d hd => Nat.le_trans (depth_le hd) p2
  refine W.sorted_data (enc := id) hl.isList e1 e2 (by rw [List.map_id]; exact p3) (by rw [List.map_id]; exact p4) hlen (fun b hb => by have := dep b hb; show X.A.units + 2 + b.depth < _; omega) fun out ho hout => ?_
  obtain ⟨ys, ry, ey⟩ := each_vals hout
  obtain ⟨ep, he'⟩ := PyProof.Rows.sortedAll_at s.heap its (List.toArray out)
  have hyl : ys.length ≤ sizeLine := by rw [ry.length, ho]; exact hlen
  exact ⟨.ref _, upd H (s.heap.objs.size + 1) (.lst ys), I.laid (t' := s.toks) (fun _ _ => PyProof.Rows.sortedAll_old) (Nat.le_succ _) ⟨hyl, out, ep, ry, he'⟩, rfl, q ys _ ey (I.hok.fresh (Nat.le_succ _))⟩
def gSorted : D → Option D
  | .list ds => if okSort ds = true then some (.list (srt ds)) else none
  | _ => none
theorem RepAll.zip {hd : Addr} {O : List Addr} {H : Hp} : ∀ {xs : List V} {ds : List D}, RepAll K hd O H xs ds → ∀ {x : V} {d : D}, (x, d) ∈ xs.zip ds → Rep K hd O H x d
  | _, _, .nil, _, _, m => by cases m
  | _, _, .cons r t, _, _, m => by
    rcases List.mem_cons.mp m with e | m
    · cases e; exact r
    · exact t.zip m
theorem RepAll.each {hd : Addr} {O : List Addr} {H : Hp} {xs : List V} {ds : List D} (r : RepAll K hd O H xs ds) : ∀ {ys : List V} {es : List D}, W.EachIs (fun y d => (y, d) ∈ xs.zip ds) ys es → RepAll K hd O H ys es
  | _, _, .nil => .nil
  | _, _, .cons m t => .cons (r.zip m) (r.each t)
theorem o_sorted : Cl1 K .fr (rSrt K) gSorted := by
  intro hd hc Oe O w H x dx d Q hE hs hn hh rx e q
  unfold gSorted at e
  split at e
  · split at e
    · rename_i ds ok
      cases e
      obtain ⟨a, xs, rfl, n1, h2, z1, r1⟩ := rx.lst hs
      refine ⟨a, xs, _, rfl, SqL.of h2, z1, r1.dp (okSort_ ok).1, ok, fun ys p ey np => ?_⟩
      have ry := r1.each ey
      obtain ⟨x1, h3, r3⟩ := newList (K := K) (Oe := Oe) hh np ry (by rw [ry.len]; unfold srt; rw [List.length_mergeSort, ← r1.len]; exact z1)
      exact q _ _ x1 h3 r3
    · cases e
  · cases e

/-! ### in, not in -/
def okIn (d : D) (ds : List D) : Bool := PyData.plainAll ds && d.plain && decide (d.depth ≤ 64)
def inD (d : D) (ds : List D) : Bool := ds.any fun y => PyData.eqv y d
def rInX (K : PySem.W.Frag) (n : Bool) : R2 := fun x y H Q => ∃ (d : D) (ds : List D), Dp K H x d ∧ (Dp K H y (.list ds) ∨ Dp K H y (.tuple ds)) ∧ okIn d ds = true ∧ Q (.bl (n ^^ inD d ds)) H
theorem opIn {X : Cx} (hu : X.A.units + 128 < cLine) : OpR X (compareOp .In) (rInX X.K false) := by
  intro pins s σ H x y v u Q I rx ry h
  obtain ⟨d, ds, hd, he, ok, q⟩ := h
  simp only [okIn, Bool.and_eq_true, decide_eq_true_eq] at ok
  obtain ⟨as, r1⟩ := Dp.reads I d x v hd rx
  rcases he with he | he
  · obtain ⟨bs, r2⟩ := Dp.reads I _ y u he ry
    exact SeqAt.in_list_data r2 r1 ok.1.1 ok.1.2 (by omega) ⟨.bl _, H, I, rfl, by simpa [inD] using q⟩
  · obtain ⟨bs, r2⟩ := Dp.reads I _ y u he ry
    exact SeqAt.in_tuple_data r2 r1 ok.1.1 ok.1.2 (by omega) ⟨.bl _, H, I, rfl, by simpa [inD] using q⟩
theorem opNotIn {X : Cx} (hu : X.A.units + 128 < cLine) : OpR X (compareOp .NotIn) (rInX X.K true) := by
  intro pins s σ H x y v u Q I rx ry h
  obtain ⟨d, ds, hd, he, ok, q⟩ := h
  simp only [okIn, Bool.and_eq_true, decide_eq_true_eq] at ok
  obtain ⟨as, r1⟩ := Dp.reads I d x v hd rx
  rcases he with he | he
  · obtain ⟨bs, r2⟩ := Dp.reads I _ y u he ry
    exact SeqAt.notIn_list_data r2 r1 ok.1.1 ok.1.2 (by omega) ⟨.bl _, H, I, rfl, by simpa [inD] using q⟩
  · obtain ⟨bs, r2⟩ := Dp.reads I _ y u he ry
    exact SeqAt.notIn_tuple_data r2 r1 ok.1.1 ok.1.2 (by omega) ⟨.bl _, H, I, rfl, by simpa [inD] using q⟩
def gIn (n : Bool) (d : D) : D → Option D
  | .list ds => if okIn d ds = true then some (.bool (n ^^ inD d ds)) else none
  | .tuple ds => if okIn d ds = true then some (.bool (n ^^ inD d ds)) else none
  | _ => none
theorem o_in {n : Bool} : Op2 K .sh (rInX K n) (gIn n) := by
  intro hd hc Oe O w H x y dx dy d Q hE hs hn hh rx ry e q
  unfold gIn at e
  split at e
  · split at e
    · rename_i ok
      cases e
      have ok' := ok
      simp only [okIn, Bool.and_eq_true, decide_eq_true_eq] at ok'
      exact ⟨dx, _, rx.dp ok'.1.2, .inl (ry.dp (by simpa [PyData.plain] using ok'.1.1)), ok, q _ _ .refl hh (Rep.bl _)⟩
    · cases e
  · split at e
    · rename_i ok
      cases e
      have ok' := ok
      simp only [okIn, Bool.and_eq_true, decide_eq_true_eq] at ok'
      exact ⟨dx, _, rx.dp ok'.1.2, .inr (ry.dp (by simpa [PyData.plain] using ok'.1.1)), ok, q _ _ .refl hh (Rep.bl _)⟩
    · cases e
  · cases e

/-! ### what is walked -/
/-- a list or a tuple -/
def iSeq (K : PySem.W.Frag) (tl : TE) : TI := fun σ H R => tl σ H fun x H1 => ∃ a, x = .ref a ∧ (((∃ xs, SqL K H1 a xs) ∧ R (Itl K a) H1) ∨ ((∃ xs, SqT K H1 a xs) ∧ R (Itt K a) H1))
theorem pi_seq {X : Cx} {tg l : Expr} {tl : TE} (hl : PE X l tl) : PI X tg l (iSeq X.K tl) := by
  refine ⟨fun pins s σ H R I h => ?_⟩
  refine thn (hl.run pins s σ H _ I h) fun v s1 ⟨x, H1, I1, r1, q1⟩ => ?_
  obtain ⟨a, e, q⟩ := q1
  subst e
  cases r1
  rcases q with ⟨⟨xs, hq⟩, q⟩ | ⟨⟨xs, hq⟩, q⟩
  · obtain ⟨its, rv, p, hz⟩ := I1.list hq
    refine wpAny_pyIter_list p.isList ?_
    refine ⟨s1.heap.objs.size, [s1.heap.objs.size], _, _, H1, rfl, I1.kept (t' := s1.toks) fun b o e => Heap.get?_push_of_some _ e, turn_list a _, ⟨_, Heap.get?_push_size _ rfl, rfl, rfl⟩, fun b hb => ?_, q⟩
    have e : b = s1.heap.objs.size := by simpa using hb
    subst e
    exact I1.fpOk (Nat.le_refl _) (I1.hok.fresh (Nat.le_refl _))
  · obtain ⟨its, rv, p, hz⟩ := I1.tuple hq
    refine wpAny_pyIter_tuple (show s1.heap.IsTuple a its.toArray from p) ?_
    refine ⟨s1.heap.objs.size, [s1.heap.objs.size], _, _, H1, rfl, I1.kept (t' := s1.toks) fun b o e => Heap.get?_push_of_some _ e, turn_tuple a _, ⟨_, Heap.get?_push_size _ rfl, rfl, rfl⟩, fun b hb => ?_, q⟩
    have e : b = s1.heap.objs.size := by simpa using hb
    subst e
    exact I1.fpOk (Nat.le_refl _) (I1.hok.fresh (Nat.le_refl _))
def itemsOf : D → Option (List D)
  | .list ds => some ds
  | .tuple ds => some ds
  | _ => none
def iItems (f : F1 D) : F1 (List D) := fun env w => (f env w).bind fun p => (itemsOf p.1).map fun ds => (ds, p.2)
theorem TupAt.prog {O O2 : List Addr} {H H2 : Hp} {a : Addr} {xs : List V} (h : TupAt K H a xs) (ht : ∀ b xs, H b = some (.tup xs) → H2 b = some (.tup xs)) : TupAt K H2 a xs := by
  rcases h with h | h
  · exact .inl (ht _ _ h)
  · exact .inr h
theorem w1_list {hd : Addr} {O2 : List Addr} {H2 : Hp} {a : Addr} {xs : List V} {ds : List D} (h : H2 a = some (.lst xs)) (r : RepAll K hd O2 H2 xs ds) : W1 K hd O2 (Itl K a) ds H2 where
  stop := fun i hi => ⟨xs, SqL.of h, by rw [r.len]; exact hi⟩
  go := fun i d hd => by
    obtain ⟨v, hv, rv⟩ := r.get hd
    refine ⟨⟨xs, v, SqL.of h, hv⟩, fun x H' hy => ?_⟩
    obtain ⟨e, y⟩ := hy
    subst e
    have := y xs (SqL.of h)
    rw [hv] at this
    cases this
    exact ⟨.refl, fun _ _ h => h, rv⟩
theorem w1_tup {hd : Addr} {O2 : List Addr} {H2 : Hp} {a : Addr} {xs : List V} {ds : List D} (h : TupAt K H2 a xs) (r : RepAll K hd O2 H2 xs ds) : W1 K hd O2 (Itt K a) ds H2 where
  stop := fun i hi => ⟨xs, h.sqt, by rw [r.len]; exact hi⟩
  go := fun i d hd => by
    obtain ⟨v, hv, rv⟩ := r.get hd
    refine ⟨⟨xs, v, h.sqt, hv⟩, fun x H' hy => ?_⟩
    obtain ⟨e, y⟩ := hy
    subst e
    have := y xs h.sqt
    rw [hv] at this
    cases this
    exact ⟨.refl, fun _ _ h => h, rv⟩
theorem mkProg {hd : Addr} {O O2 : List Addr} {H1 H2 : Hp} (e : Ext hd H1 H2) (hO : hd ∈ O) (hb : ∀ b ∈ O2, b ∈ O ∨ H1 b = none) : Prog O H1 O2 H2 :=
  ⟨fun b o nb q => ⟨fun z => (by
    rcases hb b z with z | z
    · exact nb z
    · exact absurd (z.symm.trans q) (by intro z; cases z)), e.keep b o (fun z => nb (z ▸ hO)) q⟩, e.tups⟩
theorem si_seqS {te : TE} {f : F1 D} (h : SndE K .sh te f) : SndI K .sh (iSeq K te) (iItems f) := ⟨fun {hd hc H0 Oe O w env σ H} S ds w' e R q => by
  obtain ⟨⟨d, w1⟩, e1, e⟩ := bindS e
  obtain ⟨ds', e2, e⟩ := mapS e
  cases e
  refine h.go S e1 _ fun v H1 x1 h1 r1 => ?_
  have r1 : Rep K hd O H1 v d := r1
  cases d with
  | list ds =>
    cases e2
    cases r1 with
    | lst ha hn z r => exact ⟨_, rfl, .inl ⟨⟨_, SqL.of ha⟩, q _ _ x1 h1 (fun O2 H2 g _ => w1_list (g.keep _ _ hn ha).2 (r.prog g)) (by rw [← r.len]; exact z)⟩⟩
  | tuple ds =>
    cases e2
    cases r1 with
    | tup ht z r => exact ⟨_, rfl, .inr ⟨⟨_, ht.sqt⟩, q _ _ x1 h1 (fun O2 H2 g _ => w1_tup (TupAt.prog (O := O) (O2 := O2) ht g.tups) (r.prog g)) (by rw [← r.len]; exact z)⟩⟩
  | _ => cases e2⟩
theorem si_seqB {m : Mode} {te : TE} {f : F1 D} (h : SndE K m te f) : SndI K .bo (iSeq K te) (iItems f) := ⟨fun {hd hc H0 Oe O w env σ H} S ds w' e R q => by
  obtain ⟨⟨d, w1⟩, e1, e⟩ := bindS e
  obtain ⟨ds', e2, e⟩ := mapS e
  cases e
  refine h.go S e1 _ fun v H1 x1 h1 r1 => ?_
  have r1 : RepB K hd Oe O H1 v d := r1.b S.onn
  cases d with
  | list ds =>
    cases e2
    obtain ⟨a, xs, rfl, hn, ha, z, r⟩ := r1.lst S.sub
    exact ⟨_, rfl, .inl ⟨⟨_, SqL.of ha⟩, q _ _ x1 h1 (fun O2 H2 x2 hb _ => w1_list (x2.keep _ _ (fun z => hn (z ▸ S.hdE)) ha) (r.prog (mkProg x2 S.hdO hb))) (by rw [← r.len]; exact z)⟩⟩
  | tuple ds =>
    cases e2
    obtain ⟨a, xs, rfl, ht, z, r⟩ := r1.tup
    exact ⟨_, rfl, .inr ⟨⟨_, ht.sqt⟩, q _ _ x1 h1 (fun O2 H2 x2 hb _ => w1_tup (TupAt.prog (O := O) (O2 := O2) ht x2.tups) (r.prog (mkProg x2 S.hdO hb))) (by rw [← r.len]; exact z)⟩⟩
  | _ => cases e2⟩

/-! ### ranges -/
def rangeD (lo : Int) : Nat → List D
  | 0 => []
  | n + 1 => .int lo :: rangeD (lo + 1) n
theorem rangeD_len : ∀ (n : Nat) (lo : Int), (rangeD lo n).length = n
  | 0, _ => rfl
  | n + 1, lo => by simp [rangeD, rangeD_len n]
theorem rangeD_get : ∀ (n : Nat) (lo : Int) (i : Nat), i < n → (rangeD lo n)[i]? = some (.int (lo + i))
  | n + 1, lo, 0, _ => by simp [rangeD]
  | n + 1, lo, i + 1, h => by
    rw [rangeD, List.getElem?_cons_succ, rangeD_get n _ i (by omega)]
    congr 2
    omega
def rgOk (i : Int) : Bool := decide (-4611686018427387904 ≤ i) && decide (i < 4611686018427387904)
theorem rgOk_ {i : Int} (h : rgOk i = true) : -(2 ^ 62) ≤ i ∧ i < 2 ^ 62 := by
  simp only [rgOk, Bool.and_eq_true, decide_eq_true_eq] at h
  have e : (2 : Int) ^ 62 = 4611686018427387904 := by decide
  rw [e]
  exact h
def iRange1 (f : F1 D) : F1 (List D) := fun env w => (f env w).bind fun p => (asI p.1).bind fun j => if (rgOk j && decide (j.toNat ≤ SZ)) = true then some (rangeD 0 j.toNat, p.2) else none
def iRange2 (f g : F1 D) : F1 (List D) := fun env w => (f env w).bind fun p => (g env p.2).bind fun q => (asI p.1).bind fun i => (asI q.1).bind fun j => if (rgOk i && rgOk j && decide ((j - i).toNat ≤ SZ)) = true then some (rangeD i (j - i).toNat, q.2) else none
theorem w1_range {hd : Addr} {O2 : List Addr} {H2 : Hp} (lo : Int) (n : Nat) : W1 K hd O2 (Itr lo n) (rangeD lo n) H2 where
  stop := fun i hi => by rw [rangeD_len] at hi; exact hi
  go := fun i d hd => by
    have hi : i < n := by
      have := (List.getElem?_eq_some_iff.mp hd).1
      rw [rangeD_len] at this
      exact this
    rw [rangeD_get n lo i hi] at hd
    cases hd
    refine ⟨hi, fun x H' hy => ?_⟩
    obtain ⟨e, rfl⟩ := hy
    subst e
    exact ⟨.refl, fun _ _ h => h, .int _⟩
theorem si_range1 {m : Mode} {te : TE} {f : F1 D} (h : SndE K m te f) : SndI K .sh (iRng1 (tCons te tNil)) (iRange1 f) := ⟨fun {hd hc H0 Oe O w env σ H} S ds w' e R q => by
  obtain ⟨⟨d, w1⟩, e1, e2⟩ := bindS e
  obtain ⟨j, e3, e4⟩ := bindS e2
  have hx := asI_ e3
  simp only at hx
  clear e e2
  subst hx
  split at e4
  · rename_i ok
    cases e4
    rw [Bool.and_eq_true, decide_eq_true_eq] at ok
    obtain ⟨b1, b2⟩ := rgOk_ ok.1
    refine h.go S e1 _ fun v H1 x1 h1 r1 => ⟨j, by rw [(r1.b S.onn).int], b1, b2, q _ _ x1 h1 (fun O2 H2 _ _ => w1_range 0 _) (by rw [rangeD_len]; exact ok.2)⟩
  · cases e4⟩
theorem si_range2 {m m' : Mode} {te tu : TE} {f g : F1 D} (h : SndE K m te f) (h' : SndE K m' tu g) : SndI K .sh (iRng2 (tCons te (tCons tu tNil))) (iRange2 f g) := ⟨fun {hd hc H0 Oe O w env σ H} S ds w' e R q => by
  obtain ⟨⟨d, w1⟩, e1, e2⟩ := bindS e
  obtain ⟨⟨d2, w2⟩, f1, f2⟩ := bindS e2
  obtain ⟨i, g1, g2⟩ := bindS f2
  obtain ⟨j, e3, e4⟩ := bindS g2
  have hx := asI_ g1
  have hy := asI_ e3
  simp only at hx hy
  clear e e2 f2 g2
  subst hx hy
  split at e4
  · rename_i ok
    cases e4
    rw [Bool.and_eq_true, Bool.and_eq_true, decide_eq_true_eq] at ok
    obtain ⟨b1, b2⟩ := rgOk_ ok.1.1
    obtain ⟨b3, b4⟩ := rgOk_ ok.1.2
    refine two h h' S e1 f1 fun v u H2 x2 S2 r1 r2 => ⟨i, j, by rw [(r1.b S.onn).int, (r2.b S.onn).int], ⟨b1, b2, b3, b4⟩, q _ _ x2 S2.hand (fun O2 H2 _ _ => w1_range i _) (by rw [rangeD_len]; exact ok.2)⟩
  · cases e4⟩

/-! ### zip of two lists, of two tuples -/
def zipD (xs ys : List D) : List D := List.zipWith (fun x y => PyData.tuple [x, y]) xs ys
theorem zipD_get {xs ys : List D} {i : Nat} {d : D} (h : (zipD xs ys)[i]? = some d) : ∃ x y, xs[i]? = some x ∧ ys[i]? = some y ∧ d = .tuple [x, y] := by
  unfold zipD at h
  rw [List.getElem?_zipWith] at h
  split at h
  · rename_i x y h1 h2
    cases h
    exact ⟨x, y, h1, h2, rfl⟩
  · cases h
def zip2 : D → D → Option (List D)
  | .list xs, .list ys => some (zipD xs ys)
  | .tuple xs, .tuple ys => some (zipD xs ys)
  | _, _ => none
def iZipD (f g : F1 D) : F1 (List D) := fun env w => (f env w).bind fun p => (g env p.2).bind fun q => (zip2 p.1 q.1).map fun ds => (ds, q.2)
theorem zip_step {hd : Addr} {O2 : List Addr} {H2 : Hp} {x y : V} {dx dy : D} {T : Addr} (hO : hd ∈ O2) (r1 : Rep K hd O2 H2 x dx) (r2 : Rep K hd O2 H2 y dy) (hT : H2 T = none) :
    Ext hd H2 (upd H2 T (.tup [x, y])) ∧ (∀ hc w, HandIs hd hc w H2 → HandIs hd hc w (upd H2 T (.tup [x, y]))) ∧ Rep K hd O2 (upd H2 T (.tup [x, y])) (.ref T) (.tuple [dx, dy]) :=
  ⟨.new hT, fun hc w h => h.new hT, .tup (.inl upd_same) (by show 2 ≤ sizeLine; decide) (.cons (r1.ext hO (.new hT)) (.cons (r2.ext hO (.new hT)) .nil))⟩
theorem w1_zipL {hd : Addr} {O2 : List Addr} {H2 : Hp} {a b : Addr} {xs ys : List V} {ds es : List D} (hO : hd ∈ O2) (h : H2 a = some (.lst xs)) (h' : H2 b = some (.lst ys)) (r : RepAll K hd O2 H2 xs ds) (r' : RepAll K hd O2 H2 ys es) : W1 K hd O2 (Itz K a b) (zipD ds es) H2 where
  stop := fun i hi => ⟨xs, ys, SqL.of h, SqL.of h', by
    rw [r.len, r'.len]
    simp only [zipD, List.length_zipWith] at hi
    omega⟩
  go := fun i d hd => by
    obtain ⟨x, y, h1, h2, rfl⟩ := zipD_get hd
    obtain ⟨v, h3, r3⟩ := r.get h1
    obtain ⟨u, h4, r4⟩ := r'.get h2
    refine ⟨⟨xs, ys, v, u, SqL.of h, SqL.of h', h3, h4⟩, fun z H' hy => ?_⟩
    obtain ⟨T, v', u', rfl, hT, e, k1, k2⟩ := hy
    have q1 := k1 xs (SqL.of h)
    have q2 := k2 ys (SqL.of h')
    rw [h3] at q1; cases q1
    rw [h4] at q2; cases q2
    subst e
    exact zip_step hO r3 r4 hT
theorem w1_zipT {hd : Addr} {O2 : List Addr} {H2 : Hp} {a b : Addr} {xs ys : List V} {ds es : List D} (hO : hd ∈ O2) (h : TupAt K H2 a xs) (h' : TupAt K H2 b ys) (r : RepAll K hd O2 H2 xs ds) (r' : RepAll K hd O2 H2 ys es) : W1 K hd O2 (RZ.ItzT K a b) (zipD ds es) H2 where
  stop := fun i hi => ⟨xs, ys, h.sqt, h'.sqt, by
    rw [r.len, r'.len]
    simp only [zipD, List.length_zipWith] at hi
    omega⟩
  go := fun i d hd => by
    obtain ⟨x, y, h1, h2, rfl⟩ := zipD_get hd
    obtain ⟨v, h3, r3⟩ := r.get h1
    obtain ⟨u, h4, r4⟩ := r'.get h2
    refine ⟨⟨xs, ys, v, u, h.sqt, h'.sqt, h3, h4⟩, fun z H' hy => ?_⟩
    obtain ⟨T, v', u', rfl, hT, e, k1, k2⟩ := hy
    have q1 := k1 xs h.sqt
    have q2 := k2 ys h'.sqt
    rw [h3] at q1; cases q1
    rw [h4] at q2; cases q2
    subst e
    exact zip_step hO r3 r4 hT

theorem zipD_len (xs ys : List D) : (zipD xs ys).length ≤ xs.length := by
  simp only [zipD, List.length_zipWith]
  omega
theorem Rep.lst' {hd : Addr} {O : List Addr} {H : Hp} {v : V} {ds : List D} (r : Rep K hd O H v (.list ds)) : ∃ a xs, v = .ref a ∧ H a = some (.lst xs) ∧ a ∉ O ∧ xs.length ≤ SZ ∧ RepAll K hd O H xs ds := by
  cases r with
  | lst h n z r => exact ⟨_, _, rfl, h, n, z, r⟩
theorem Rep.tup' {hd : Addr} {O : List Addr} {H : Hp} {v : V} {ds : List D} (r : Rep K hd O H v (.tuple ds)) : ∃ a xs, v = .ref a ∧ TupAt K H a xs ∧ xs.length ≤ SZ ∧ RepAll K hd O H xs ds := by
  cases r with
  | tup h z r => exact ⟨_, _, rfl, h, z, r⟩
theorem si_zipS {te tu : TE} {f g : F1 D} (h : SndE K .sh te f) (h' : SndE K .sh tu g) : SndI K .sh (RZ.iZipA K (tCons te (tCons tu tNil))) (iZipD f g) := ⟨fun {hd hc H0 Oe O w env σ H} S ds w' e R q => by
  obtain ⟨⟨d, w1⟩, e1, e2⟩ := bindS e
  obtain ⟨⟨d2, w2⟩, f1, f2⟩ := bindS e2
  obtain ⟨zs, f3, f4⟩ := mapS f2
  cases f4
  refine two h h' S e1 f1 fun v u H2 x2 S2 r1 r2 => ?_
  have r1 : Rep K hd O H2 v d := r1
  have r2 : Rep K hd O H2 u d2 := r2
  change zip2 d d2 = some _ at f3
  unfold zip2 at f3
  split at f3
  · cases f3
    obtain ⟨a, xs, rfl, ha, hn, z, r⟩ := r1.lst'
    obtain ⟨b, ys, rfl, hb, hm, z', r'⟩ := r2.lst'
    refine ⟨_, _, _, _, rfl, .inl ⟨SqL.of ha, SqL.of hb, q _ _ x2 S2.hand (fun O2 H3 g3 h3 => w1_zipL h3 (g3.keep _ _ hn ha).2 (g3.keep _ _ hm hb).2 (r.prog g3) (r'.prog g3)) ?_⟩⟩
    exact Nat.le_trans (zipD_len _ _) (by rw [← r.len]; exact z)
  · cases f3
    obtain ⟨a, xs, rfl, ha, z, r⟩ := r1.tup'
    obtain ⟨b, ys, rfl, hb, z', r'⟩ := r2.tup'
    refine ⟨_, _, _, _, rfl, .inr ⟨ha.sqt, hb.sqt, q _ _ x2 S2.hand (fun O2 H3 g3 h3 => w1_zipT h3 (TupAt.prog (O := O) (O2 := O2) ha g3.tups) (TupAt.prog (O := O) (O2 := O2) hb g3.tups) (r.prog g3) (r'.prog g3)) ?_⟩⟩
    exact Nat.le_trans (zipD_len _ _) (by rw [← r.len]; exact z)
  · cases f3⟩
theorem si_zipB {m m' : Mode} {te tu : TE} {f g : F1 D} (h : SndE K m te f) (h' : SndE K m' tu g) : SndI K .bo (RZ.iZipA K (tCons te (tCons tu tNil))) (iZipD f g) := ⟨fun {hd hc H0 Oe O w env σ H} S ds w' e R q => by
  obtain ⟨⟨d, w1⟩, e1, e2⟩ := bindS e
  obtain ⟨⟨d2, w2⟩, f1, f2⟩ := bindS e2
  obtain ⟨zs, f3, f4⟩ := mapS f2
  cases f4
  refine two h h' S e1 f1 fun v u H2 x2 S2 r1 r2 => ?_
  have r1 : RepB K hd Oe O H2 v d := r1.b S.onn
  have r2 : RepB K hd Oe O H2 u d2 := r2.b S.onn
  change zip2 d d2 = some _ at f3
  unfold zip2 at f3
  split at f3
  · cases f3
    obtain ⟨a, xs, rfl, hn, ha, z, r⟩ := r1.lst S.sub
    obtain ⟨b, ys, rfl, hm, hb, z', r'⟩ := r2.lst S.sub
    refine ⟨_, _, _, _, rfl, .inl ⟨SqL.of ha, SqL.of hb, q _ _ x2 S2.hand (fun O2 H3 x3 hb' h3 => w1_zipL h3 (x3.keep _ _ (fun z => hn (z ▸ S.hdE)) ha) (x3.keep _ _ (fun z => hm (z ▸ S.hdE)) hb) (r.prog (mkProg x3 S.hdO hb')) (r'.prog (mkProg x3 S.hdO hb'))) ?_⟩⟩
    exact Nat.le_trans (zipD_len _ _) (by rw [← r.len]; exact z)
  · cases f3
    obtain ⟨a, xs, rfl, ha, z, r⟩ := r1.tup
    obtain ⟨b, ys, rfl, hb, z', r'⟩ := r2.tup
    refine ⟨_, _, _, _, rfl, .inr ⟨ha.sqt, hb.sqt, q _ _ x2 S2.hand (fun O2 H3 x3 hb' h3 => w1_zipT h3 (TupAt.prog (O := O) (O2 := O2) ha x3.tups) (TupAt.prog (O := O) (O2 := O2) hb x3.tups) (r.prog (mkProg x3 S.hdO hb')) (r'.prog (mkProg x3 S.hdO hb'))) ?_⟩⟩
    exact Nat.le_trans (zipD_len _ _) (by rw [← r.len]; exact z)
  · cases f3⟩
end
end DL

set_option maxRecDepth 100000
/-! DL8: names for the printer -/
namespace DL
open PySem L2
abbrev gMod := gInt2 modOk fun i j => i.fmod j
abbrev gDiv := gInt2 divOk fun i j => i.fdiv j
abbrev gPow := gInt2 powOk fun i j => i ^ j.toNat
abbrev pLt : Int → Int → Bool := fun i j => decide (i < j)
abbrev pLe : Int → Int → Bool := fun i j => decide (i ≤ j)
abbrev pGt : Int → Int → Bool := fun i j => decide (j < i)
abbrev pGe : Int → Int → Bool := fun i j => decide (j ≤ i)
theorem bb_len : bootBuiltins "len" = some (.builtin "len") := by decide +kernel
theorem bb_abs : bootBuiltins "abs" = some (.builtin "abs") := by decide +kernel
theorem bb_sum : bootBuiltins "sum" = some (.builtin "sum") := by decide +kernel
theorem bb_all : bootBuiltins "all" = some (.builtin "all") := by decide +kernel
theorem bb_any : bootBuiltins "any" = some (.builtin "any") := by decide +kernel
theorem bb_min : bootBuiltins "min" = some (.builtin "min") := by decide +kernel
theorem bb_max : bootBuiltins "max" = some (.builtin "max") := by decide +kernel
theorem bb_sorted : bootBuiltins "sorted" = some (.builtin "sorted") := by decide +kernel
theorem bb_repr : bootBuiltins "repr" = some (.builtin "repr") := by decide +kernel
theorem bb_isinstance : bootBuiltins "isinstance" = some (.builtin "isinstance") := by decide +kernel
theorem bb_int : bootBuiltins "int" = some (.type "int") := by decide +kernel
theorem bb_bool : bootBuiltins "bool" = some (.type "bool") := by decide +kernel
theorem bb_str : bootBuiltins "str" = some (.type "str") := by decide +kernel
theorem bb_tuple : bootBuiltins "tuple" = some (.type "tuple") := by decide +kernel
theorem bb_list : bootBuiltins "list" = some (.type "list") := by decide +kernel
theorem kb_NoneType_int : kitB "NoneType" "int" = some false := by decide +kernel
theorem kb_bool_int : kitB "bool" "int" = some true := by decide +kernel
theorem kb_int_int : kitB "int" "int" = some true := by decide +kernel
theorem kb_str_int : kitB "str" "int" = some false := by decide +kernel
theorem kb_list_int : kitB "list" "int" = some false := by decide +kernel
theorem kb_tuple_int : kitB "tuple" "int" = some false := by decide +kernel
theorem kb_NoneType_bool : kitB "NoneType" "bool" = some false := by decide +kernel
theorem kb_bool_bool : kitB "bool" "bool" = some true := by decide +kernel
theorem kb_int_bool : kitB "int" "bool" = some false := by decide +kernel
theorem kb_str_bool : kitB "str" "bool" = some false := by decide +kernel
theorem kb_list_bool : kitB "list" "bool" = some false := by decide +kernel
theorem kb_tuple_bool : kitB "tuple" "bool" = some false := by decide +kernel
theorem kb_NoneType_tuple : kitB "NoneType" "tuple" = some false := by decide +kernel
theorem kb_bool_tuple : kitB "bool" "tuple" = some false := by decide +kernel
theorem kb_int_tuple : kitB "int" "tuple" = some false := by decide +kernel
theorem kb_str_tuple : kitB "str" "tuple" = some false := by decide +kernel
theorem kb_list_tuple : kitB "list" "tuple" = some false := by decide +kernel
theorem kb_tuple_tuple : kitB "tuple" "tuple" = some true := by decide +kernel
theorem kb_NoneType_str : kitB "NoneType" "str" = some false := by decide +kernel
theorem kb_bool_str : kitB "bool" "str" = some false := by decide +kernel
theorem kb_int_str : kitB "int" "str" = some false := by decide +kernel
theorem kb_str_str : kitB "str" "str" = some true := by decide +kernel
theorem kb_list_str : kitB "list" "str" = some false := by decide +kernel
theorem kb_tuple_str : kitB "tuple" "str" = some false := by decide +kernel
theorem kb_NoneType_list : kitB "NoneType" "list" = some false := by decide +kernel
theorem kb_bool_list : kitB "bool" "list" = some false := by decide +kernel
theorem kb_int_list : kitB "int" "list" = some false := by decide +kernel
theorem kb_str_list : kitB "str" "list" = some false := by decide +kernel
theorem kb_list_list : kitB "list" "list" = some true := by decide +kernel
theorem kb_tuple_list : kitB "tuple" "list" = some false := by decide +kernel
def isTy : String → D → Bool
  | "int", .int _ => true
  | "int", .bool _ => true
  | "bool", .bool _ => true
  | "tuple", .tuple _ => true
  | "str", .str _ => true
  | "list", .list _ => true
  | _, _ => false
section
variable {K : PySem.W.Frag}
def gSlL : D → Option Int → Option Int → Option D
  | .list ds, lo, hi => some (.list (cutD ds lo hi))
  | _, _, _ => none
theorem o_slL : SlOp K .fr (rSlL K) gSlL := by
  intro hd hc Oe O w H x lo hi dx d Q hE hs hn hh rx e q
  unfold gSlL at e
  split at e
  · cases e
    obtain ⟨a, xs, rfl, n1, h1, z1, r1⟩ := rx.lst hs
    refine ⟨a, xs, rfl, SqL.of h1, fun p np => ?_⟩
    obtain ⟨x1, h3, r3⟩ := newList (K := K) (Oe := Oe) hh np (r1.cut lo hi) (Nat.le_trans (cutV_length _ _ _) z1)
    exact q _ _ x1 h3 r3
  · cases e
def isNon : D → Bool
  | .none => true
  | _ => false
def gIsN (d : D) : D → Option D
  | .none => some (.bool (isNon d))
  | _ => none
def gNotN (d : D) : D → Option D
  | .none => some (.bool (!isNon d))
  | _ => none
theorem rep_non {hd : Addr} {Oe O : List Addr} {H : Hp} {v : V} {d : D} (r : RepB K hd Oe O H v d) : decide (v = V.non) = isNon d := by
  rcases r with r | ⟨a, xs, ds, rfl, rfl, _⟩
  · cases r <;> rfl
  · rfl
theorem o_isN : Op2 K .sh (fun x y H Q => y = .non ∧ Q (.bl (decide (x = .non))) H) gIsN := by
  intro hd hc Oe O w H x y dx dy d Q hE hs hn hh rx ry e q
  unfold gIsN at e
  split at e
  · cases e
    exact ⟨ry.non, by rw [rep_non rx]; exact q _ _ .refl hh (Rep.bl _)⟩
  · cases e
theorem o_notN : Op2 K .sh (fun x y H Q => y = .non ∧ Q (.bl (!decide (x = .non))) H) gNotN := by
  intro hd hc Oe O w H x y dx dy d Q hE hs hn hh rx ry e q
  unfold gNotN at e
  split at e
  · cases e
    refine ⟨ry.non, ?_⟩
    rw [rep_non rx]
    exact q _ _ .refl hh (Rep.bl _)
  · cases e
theorem pe_cI {X : Cx} {x : Str} {n : Int} {pos : Pos} (hg : Gl X x) (h : ∃ t, X.mg x = some (.int n t)) (hd : (x == ("__debug__" : Str)) = false := by decide) : PE X (.Name x pos) (tC (.int n)) :=
  let ⟨t, e⟩ := h; pe_glob hg e ⟨t, rfl⟩ hd
theorem pe_cS {X : Cx} {x : Str} {n : Str} {pos : Pos} (hg : Gl X x) (h : ∃ t, X.mg x = some (.str n t)) (hd : (x == ("__debug__" : Str)) = false := by decide) : PE X (.Name x pos) (tC (.str n)) :=
  let ⟨t, e⟩ := h; pe_glob hg e ⟨t, rfl⟩ hd

/-! ### the hand, read and written by its own defs -/
def isHnd : D → Bool
  | .dict [(.none, .none)] => true
  | _ => false
theorem isHnd_ {d : D} (h : isHnd d = true) : d = hnd := by
  unfold isHnd at h
  split at h
  · rfl
  · cases h
def hGet (w : W) : Nat → Option D
  | 0 => some (.list (w.cells.map PyData.int))
  | 1 => some (.int w.i)
  | 2 => some (.int w.rest)
  | 3 => some (.int w.mix)
  | 4 => some (.int w.cnt)
  | _ => none
def hPut (w : W) (x : Int) : Nat → Option W
  | 1 => some { w with i := x }
  | 2 => some { w with rest := x }
  | 3 => some { w with mix := x }
  | 4 => some { w with cnt := x }
  | _ => none
def slotSh : Option Slot → Option D
  | some (.sh d) => some d
  | _ => none
theorem slotSh_ {o : Option Slot} {d : D} (h : slotSh o = some d) : o = some (.sh d) := by
  unfold slotSh at h
  split at h
  · cases h; rfl
  · cases h
def eHix (i k : Nat) : F1 D := fun env w => (slotSh env[i]?).bind fun d => if isHnd d = true then (hGet w k).map fun x => (x, w) else none
theorem sn_hix (i k : Nat) : SndE K .sh (tOp (rIx K) (tVar i) (tC (.int k))) (eHix i k) := ⟨fun {hd hc H0 Oe O w env σ H} S d w' e Q q => by
  obtain ⟨d0, h0, e⟩ := bindS e
  split at e
  · rename_i hh
    have hs := slotSh_ h0
    rw [isHnd_ hh] at hs
    obtain ⟨v, e1, r⟩ := S.slot i _ hs
    cases r
    obtain ⟨x, hx, e⟩ := mapS e
    cases e
    unfold hGet at hx
    split at hx
    · cases hx
      exact ⟨_, e1, .inl ⟨hd, _, _, _, rfl, rfl, SqL.of S.hand.at_, atI_nat rfl, q _ _ .refl S.hand (Rep.lst S.hand.cells S.hcO (by rw [List.length_map]; exact S.hand.sz) (RepAll.ints _))⟩⟩
    · cases hx
      exact ⟨_, e1, .inl ⟨hd, _, _, _, rfl, rfl, SqL.of S.hand.at_, atI_nat rfl, q _ _ .refl S.hand (Rep.int _)⟩⟩
    · cases hx
      exact ⟨_, e1, .inl ⟨hd, _, _, _, rfl, rfl, SqL.of S.hand.at_, atI_nat rfl, q _ _ .refl S.hand (Rep.int _)⟩⟩
    · cases hx
      exact ⟨_, e1, .inl ⟨hd, _, _, _, rfl, rfl, SqL.of S.hand.at_, atI_nat rfl, q _ _ .refl S.hand (Rep.int _)⟩⟩
    · cases hx
      exact ⟨_, e1, .inl ⟨hd, _, _, _, rfl, rfl, SqL.of S.hand.at_, atI_nat rfl, q _ _ .refl S.hand (Rep.int _)⟩⟩
    · cases hx
  · cases e⟩
def sHput (i k : Nat) (f : F1 D) : F1 Out := fun env w => (slotSh env[i]?).bind fun d => if isHnd d = true then (f env w).bind fun p => (asI p.1).bind fun x => (hPut p.2 x k).map fun w' => (.nx env, w') else none
theorem hput_step {hd hc : Addr} {H0 : Hp} {Oe O : List Addr} {w w' : W} {env : Env} {σ : List (Option V)} {H : Hp} (S : Stt K hd hc H0 Oe O w env σ H) (hc' : w'.cells = w.cells) :
    Stt K hd hc H0 Oe O w' env σ (upd H hd (.lst [.ref hc, .int w'.i, .int w'.rest, .int w'.mix, .int w'.cnt])) ∧ Prog O H O (upd H hd (.lst [.ref hc, .int w'.i, .int w'.rest, .int w'.mix, .int w'.cnt])) := by
  have x : Ext hd H (upd H hd (.lst [.ref hc, .int w'.i, .int w'.rest, .int w'.mix, .int w'.cnt])) := ⟨fun b o n q => by rw [upd_ne n]; exact q, fun b xs q => by
    rw [upd_ne (fun z => by rw [z, S.hand.at_] at q; cases q)]; exact q⟩
  exact ⟨S.step x ⟨upd_same, by rw [upd_ne S.hand.ne, hc']; exact S.hand.cells, S.hand.ne, by rw [hc']; exact S.hand.sz⟩, x.prog S.hdO⟩
theorem sn_hput {m : Mode} {te : TE} {f : F1 D} (i k : Nat) (h : SndE K m te f) : SndS K (tAsg te (L2.gSub (tVar i) (tC (.int k)) rSetL)) (sHput i k f) := ⟨fun {hd hc H0 Oe O w env σ H} S o w' e Dn p => by
  obtain ⟨d0, h0, e0⟩ := bindS e
  split at e0
  · rename_i hh
    obtain ⟨⟨d, w1⟩, e1, e2⟩ := bindS e0
    obtain ⟨x, e3, e4⟩ := bindS e2
    obtain ⟨w2, e5, e6⟩ := mapS e4
    have hx := asI_ e3
    simp only at hx
    clear e e0 e2 e4
    subst hx
    cases e6
    refine h.go S e1 _ fun v H1 x1 h1 r1 => ?_
    have S1 := S.step x1 h1
    have hs := slotSh_ h0
    rw [isHnd_ hh] at hs
    obtain ⟨v', f1, r⟩ := S1.slot i _ hs
    cases r
    cases (r1.b S.onn).int
    have g1 := x1.prog S.hdO
    unfold hPut at e5
    split at e5
    · cases e5
      obtain ⟨S2, g2⟩ := hput_step (w' := { w1 with i := x }) S1 rfl
      exact ⟨_, f1, hd, _, _, _, rfl, rfl, S1.hand.at_, rfl, p _ _ _ S2 (g1.trans g2)⟩
    · cases e5
      obtain ⟨S2, g2⟩ := hput_step (w' := { w1 with rest := x }) S1 rfl
      exact ⟨_, f1, hd, _, _, _, rfl, rfl, S1.hand.at_, rfl, p _ _ _ S2 (g1.trans g2)⟩
    · cases e5
      obtain ⟨S2, g2⟩ := hput_step (w' := { w1 with mix := x }) S1 rfl
      exact ⟨_, f1, hd, _, _, _, rfl, rfl, S1.hand.at_, rfl, p _ _ _ S2 (g1.trans g2)⟩
    · cases e5
      obtain ⟨S2, g2⟩ := hput_step (w' := { w1 with cnt := x }) S1 rfl
      exact ⟨_, f1, hd, _, _, _, rfl, rfl, S1.hand.at_, rfl, p _ _ _ S2 (g1.trans g2)⟩
    · cases e5
  · cases e0⟩
end
end DL

set_option maxRecDepth 100000
/-! DL9: the hand is made, the law begins -/
namespace DL
open PySem L2
section
variable {K : PySem.W.Frag}
/-- the promise of a def that makes the hand of the script: hw says which -/
def spHand (K : PySem.W.Frag) (hw : List Int → W) : Sp := fun vs H Q _ => ∃ (a : Addr) (ns : List Int), vs = [.ref a] ∧ SqL K H a (ns.map V.int) ∧ ns.length ≤ 63 ∧
  ∀ (p c : Addr) (H' : Hp), H p = none → H c = none → HandIs p c (hw ns) H' → Q (.ref p) H'
def spLaw (K : PySem.W.Frag) : Sp := fun vs H Q _ => ∃ (a : Addr) (ns : List Int), vs = [.ref a] ∧ SqL K H a (ns.map V.int) ∧ ns.length ≤ 63 ∧ ∀ H', Q (.bl true) H'
/-- behind the hand's making: the rest of the law gives True -/
theorem law_go {N : List Str} {t : TS} {f : F1 Out} {a p c : Addr} {w w' : W} {H : Hp} {Q : VK} {σ : List (Option V)} (h : SndS K t f) (hσ : σ = (L2.start N [.ref a]).set 1 (some (.ref p))) (h2 : 2 ≤ N.length) (hh : HandIs p c w H)
    (e : f (Slot.no :: Slot.sh hnd :: List.replicate (N.length - 2) Slot.no) w = some (.rt (.bool true), w')) (k : ∀ H', Q (.bl true) H') : t { nx := fun _ H' => Q .non H', rt := Q } σ H := by
  have S : Stt K p c H [p] [p] w (Slot.no :: Slot.sh hnd :: List.replicate (N.length - 2) Slot.no) σ H := {
    ext := .refl
    hd0 := by rw [hh.at_]; intro z; cases z
    hc0 := by rw [hh.cells]; intro z; cases z
    hdE := List.mem_cons_self
    hcO := fun z => hh.ne (List.mem_singleton.mp z)
    sub := fun _ q => q
    oe := fun b hb => by rw [List.mem_singleton.mp hb, hh.at_]; intro z; cases z
    onn := fun b hb => by rw [List.mem_singleton.mp hb, hh.at_]; intro z; cases z
    hand := hh
    len := by rw [hσ]; simp [L2.start]; omega
    slot := fun i s hs => by
      match i, hs with
      | 0, hs => cases hs; trivial
      | 1, hs =>
        cases hs
        refine ⟨.ref p, ?_, .hand⟩
        rw [hσ]
        apply List.getElem?_set_self
        simp [L2.start]
        omega
      | i + 2, hs =>
        have := List.mem_of_getElem? hs
        have hs' : (List.replicate (N.length - 2) Slot.no)[i]? = some s := hs
        rw [(List.mem_replicate.mp (List.mem_of_getElem? hs')).2]
        trivial
    dist := fun i j d' e' b h1 h2 h3 h4 => by
      have no : ∀ (i : Nat) (d' : D), (Slot.no :: Slot.sh hnd :: List.replicate (N.length - 2) Slot.no)[i]? = some (.ow d') → False := fun i d' hs => by
        have := List.mem_of_getElem? hs
        rcases List.mem_cons.mp this with z | z
        · cases z
        · rcases List.mem_cons.mp z with z | z
          · cases z
          · have := (List.mem_replicate.mp z).2; cases this
      exact (no i d' h1).elim }
  refine h.go S e _ ?_
  intro v H' x h' r
  have r : Rep K p [p] H' v (.bool true) := r
  cases r
  exact k H'

/-- the cells of the script, each by f -/
theorem hand_cells {a D : Addr} {H1 : Hp} {te : TE} {Q : Hp → Prop} {σ : List (Option V)} {i : Nat} {ns : List Int} (f : Int → Int) (hi : i < σ.length) (ha : H1 a = some (.lst (ns.map V.int))) (hD : H1 D = none) (hz : ns.length ≤ SZ)
    (hte : ∀ (z : Int) (σ : List (Option V)) (H : Hp) (Q : VK), σ[i]? = some (some (.int z)) → Q (.int (f z)) H → te σ H Q)
    (q : Q (upd H1 D (.lst ((ns.map f).map V.int)))) :
    ∃ W : Nat → Nat → Hp → Prop, (∃ m, W 0 m (upd H1 D (.lst []))) ∧ ∀ k m H, W k m H →
      ((Itl K a).stop k H ∧ Q H) ∨ ((Itl K a).go k H ∧ ∃ Nx : Hp → Prop, (∀ H', Nx H' → ∃ m', m' < m ∧ W (k + 1) m' H') ∧ ∀ x H', (Itl K a).yld k H x H' → L2.gName i x (L2.wipe σ [i]) H' fun σ2 H2 => L2.wipe σ2 [i] = L2.wipe σ [i] ∧ L2.tYes σ2 H2 fun b H3 =>
        if b = true then te σ2 H3 fun y H4 => ∃ acc, H4 D = some (.lst acc) ∧ acc.length < sizeLine ∧ Nx (upd H4 D (.lst (acc ++ [y]))) else Nx H3) := by
  have nD : a ≠ D := ne_of_none ha hD
  refine lc_list (K := K) (a := a) (xs := ns.map V.int) (fun k H => H = upd H1 D (.lst (((ns.take k).map f).map V.int))) (by simp) (fun k H _ e => by rw [e]; exact SqL.of (by rw [upd_ne nD]; exact ha)) (fun k x H hx e => ?_) (fun H e => ?_)
  · rw [List.getElem?_map] at hx
    cases hk : ns[k]? with
    | none => rw [hk] at hx; cases hx
    | some z =>
      rw [hk] at hx
      cases hx
      have hlt : k < ns.length := (List.getElem?_eq_some_iff.mp hk).1
      refine ⟨?_, ?_⟩
      · show ((((σ.set i none).set i (some (V.int z))).set i none)) = σ.set i none
        simp
      · unfold L2.tYes
        dsimp only
        rw [if_pos rfl]
        refine hte z _ _ _ (List.getElem?_set_self (by show i < (σ.set i none).length; rw [List.length_set]; exact hi)) ⟨((ns.take k).map f).map V.int, by rw [e, upd_same], ?_, ?_⟩
        · rw [List.length_map, List.length_map, List.length_take]
          exact Nat.lt_of_lt_of_le (by omega : min k ns.length < ns.length) hz
        · show upd H D _ = _
          rw [e, upd_upd]
          congr 2
          rw [List.take_add_one, hk]
          simp
  · rw [List.length_map, List.take_of_length_le (Nat.le_refl _)] at e
    rw [e]
    exact q

theorem cutV_map (ns : List Int) (lo hi : Option Int) : cutV (ns.map V.int) lo hi = (cutD ns lo hi).map V.int := by
  unfold cutV cutD
  rw [List.length_map, List.map_take, List.map_drop]
theorem upd_none {H : Hp} {a b : Addr} {o : HO} (h : upd H a o b = none) : b ≠ a ∧ H b = none := by
  by_cases e : b = a
  · rw [e, upd_same] at h; cases h
  · rw [upd_ne e] at h; exact ⟨e, h⟩
/-- the hand: the first N cells by f, 0, 0, C + k * how many, 0 -/
def hwOf (f : Int → Int) (N C k : Int) (ns : List Int) : W := ⟨(cutD ns none (some N)).map f, 0, 0, C + k * ((cutD ns none (some N)).length : Int), 0⟩
theorem cutD_len {α : Type} (xs : List α) (lo hi : Option Int) : (cutD xs lo hi).length ≤ xs.length := by
  unfold cutD
  rw [List.length_take, List.length_drop]
  omega
theorem hand_read {te : TE} {f : Int → Int} {N C k : Int} {vs : List V} {H : Hp} {Q : VK} {E : XK} {Ns : List Str} (hN : Ns.length = 3) (hk : -(2 ^ 64) < k ∧ k < 2 ^ 64)
    (hte : ∀ (z : Int) (σ : List (Option V)) (H : Hp) (Q : VK), σ[2]? = some (some (.int z)) → Q (.int (f z)) H → te σ H Q) (h : spHand K (hwOf f N C k) vs H Q E) :
    (tSeq (tAsg (tLc (iList K (tSl (rSlL K) (tVar 0) tNoPart (tPart (tC (.int N))))) (L2.gName 2) tYes te [2]) (L2.gName 1))
      (tRet (tLst (tCons (tVar 1) (tCons (tC (.int 0)) (tCons (tC (.int 0)) (tCons (tOp (rI0 fun i j => .int (i + j)) (tC (.int C)) (tOp (rI CMul fun i j => .int (i * j)) (tC (.int k))
        (tCB (fun xs H Q => ∃ p ys, xs = [.ref p] ∧ (SqL K H p ys ∨ SqT K H p ys) ∧ Q (.int ys.length) H) (tCons (tVar 1) tNil)))) (tCons (tC (.int 0)) tNil)))))))) { nx := fun _ H' => Q .non H', rt := Q } (L2.start Ns vs) H := by
  obtain ⟨a, ns, rfl, hS, hl, q⟩ := h
  have hst : L2.start Ns [V.ref a] = [some (V.ref a), none, none] := by
    unfold L2.start
    rw [hN]
    rfl
  rw [hst]
  refine ⟨.ref a, rfl, N, rfl, a, _, rfl, hS, fun l nl => ⟨l, rfl, ⟨_, SqL.of upd_same⟩, fun D nD => ?_⟩⟩
  obtain ⟨n1, n2⟩ := upd_none nD
  have hz : (cutD ns none (some N)).length ≤ SZ := Nat.le_trans (cutD_len _ _ _) (Nat.le_trans hl (by decide))
  refine hand_cells (K := K) (ns := cutD ns none (some N)) (σ := [some (V.ref a), none, none]) (i := 2) f (by simp) (by rw [upd_same, cutV_map]) nD hz hte ?_
  refine ⟨_, rfl, _, rfl, D, _, rfl, .inl (SqL.of upd_same), k, _, rfl, rfl, .inl hk, C, _, rfl, rfl, by show 5 ≤ sizeLine; decide, fun p np => ?_⟩
  obtain ⟨m1, m2⟩ := upd_none np
  obtain ⟨m3, m4⟩ := upd_none m2
  refine q p D _ m4 n2 ⟨?_, ?_, Ne.symm m1, ?_⟩
  · rw [upd_same]
    simp [hwOf]
  · rw [upd_ne (Ne.symm m1), upd_same]
    rfl
  · show ((cutD ns none (some N)).map f).length ≤ SZ
    rw [List.length_map]
    exact hz
end
end DL

set_option maxRecDepth 100000
set_option maxHeartbeats 4000000
/-! DLG: defs called where no repr is under way (the guards are known to be none), so repr of data may be asked -/
namespace DL
open PySem PySem.Spec PyProof.Rows L2
/-- a def's promise, wherever no guard is up -/
structure FnG (P : Program) (w : World) (K : PySem.W.Frag) (mg : Str → Option Value) (base : Heap) (k : Nat) (f : Addr) (fd : FuncData) (ps : List Str) (sp : Sp) : Prop where
  len : ∀ vs H Q E, sp vs H Q E → vs.length = ps.length
  run : ∀ (A : Around) (out : List PySem.Env) (s : Shared) (H : Hp) (ag : Args) (us : List Value) (vs : List V) (Q : VK) (E : XK), A.guards = some [] → Room k A → Env0 P w K mg base A out s H →
    BindsTo s fd ag (ps.zip us) → Vals vs us → sp vs H Q E → codeAny (model P w) A (.call (.ref f) ag) (CR CX0 out P w H s Q E) s
section
variable {P : Program} {w : World} {K : PySem.W.Frag} {mg : Str → Option Value} {base : Heap}
theorem FnG.ok {x qual : PySem.Str} {st : Stmt} {f : Addr} {fd : FuncData} {N ps : List PySem.Str} {k : Nat} {sp : Sp} (F : L2.Fun K x qual st f fd) (S : FnScope N ps (defScope st))
    (len : ∀ vs H Q E, sp vs H Q E → vs.length = ps.length)
    (bd : ∀ (cdv : Value) (A : Around) (out : List PySem.Env) (s : Shared) (H : Hp) (vs : List V) (Q : VK) (E : XK), (cxOf CX0 P w K mg base N qual (defScope st) f cdv A out s H E).nox.A.guards = some [] →
      Room k (A.deeper (envOfC qual (defScope st) s.heap.objs.size f cdv)) → sp vs H Q E →
      ∃ t, PSs (cxOf CX0 P w K mg base N qual (defScope st) f cdv A out s H E).nox (defBody st) t ∧ t { nx := fun _ H' => Q .non H', rt := Q } (start N vs) H) :
    FnG P w K mg base (k + 1) f fd ps sp := by
  obtain ⟨oc, od, kV, doc, pm, an, cdv, ct, osl, rfl, lk, hcd⟩ := F.ex
  constructor
  · exact len
  · intro A out s H ag us vs Q E ag0 room env bi va want
    have old : ∀ b o, base.get? b = some o → s.heap.get? b = some o := fun b o e => (env.bs b o e).1
    have inK : K.In s.heap := env.mod.kin.keeps old
    have kinds : ∀ y ∈ ps.zip us, (defScope st).names.lookup y.1 = some .local ∨ ((defScope st).names.lookup y.1 = some .cell ∧
        ((cellsFrom (s.heap.objs.size + 1) (defScope st).names []).lookup y.1).isSome = true) := by
      rintro ⟨n, v⟩ hy
      rcases S.par n (List.of_mem_zip hy).1 with q | q
      · exact Or.inl q
      · exact Or.inr ⟨q, PySem.W.cellsFrom_some _ _ _ (Or.inl q)⟩
    refine codeAny_call_function room.depth (inK _ _ lk) rfl S.co S.gen rfl (PySem.W.codeRec_of inK hcd) (bi _ _ _ _ ?_)
    refine wpAny_newFunctionEnv_cells S.kind kinds fun e' he s1 went => ?_
    subst he
    refine ⟨(env.mod.nolimit.keeps old).keeps went.toInCall.keep, codeAny_func ?_⟩
    obtain ⟨t, ht, hq⟩ := bd cdv A out s H vs Q E ag0 (room.deeper _) want
    have I : Inv (cxOf CX0 P w K mg base N qual (defScope st) f cdv A out s H E) [] (start N vs) H s1 := inv_start S room.hd env (len _ _ _ _ want) va went
    have closes : ∀ {σ' : L2.St} {H' : Hp} {s' : Shared} {v : V} {u : Value}, Inv (cxOf CX0 P w K mg base N qual (defScope st) f cdv A out s H E) [] σ' H' s' →
        RelV v u → Q v H' → CE out P w H s Q u s' := by
      intro σ' H' s' v u J rv q
      exact ⟨v, H', J.os, J.bare, J.base, J.hok, rv, q⟩
    refine wpAny_mono (ht.nox.run [] s1 (start N vs) H _ I hq) ?_ (fun _ _ z => z)
    intro fl s' hs
    match fl, hs with
    | .ret u, hs =>
      obtain ⟨v, σ', H', J, rv, q⟩ := hs
      exact closes J rv q
    | .next, hs =>
      obtain ⟨σ', H', J, q⟩ := hs
      exact closes (v := V.non) (u := Value.none) J rfl q
    | .brk, hs => exact hs.choose_spec.choose_spec.2.elim
    | .cont, hs => exact hs.choose_spec.choose_spec.2.elim
end
section
variable {X : Cx} {k : Nat} {f : Addr} {fd : FuncData} {ps : List PySem.Str} {sp : Sp} {x : PySem.Str} {p pos : Pos} {e : Expr} {es : List Expr} {t : TA}
theorem pe_fn (F : FnG X.prog X.w X.K X.mg X.base k f fd ps sp) (g0 : X.A.guards = some []) (hr : Room k X.A) (hg : Gl X x) (hm : X.mg x = some (.ref f)) (hk : PySem.W.keepIn X.K (.ref f) = true) (hb : Binds X.K fd ps [])
    (ha : PA X (e :: es) t) (hdb : (x == ("__debug__" : PySem.Str)) = false := by decide) (he : starEach (e :: es) X.env = (false, eval e X.env) :: starEach es X.env := by rfl) (hpl : (backTo pos (starEach es X.env)).any (·.1) = false := by rfl) :
    PE X (.Call (.Name x p) (e :: es) [] pos) (tCall sp [] E0 t) := by
  constructor
  intro pins s σ H Q I h
  refine wpAny_Call_Name_kw (ld_glob I hg hm ?_ hdb)
  refine PySem.W.callWith_K (h₀ := X.base) I.ok.mod.kin hk (thn (ha.run pos pins s σ H _ I h) ?_) he hpl
  rintro us s1 ⟨vs, H1, I1, r, q⟩
  refine ⟨I1.kIn, ?_⟩
  have q' : sp vs H1 Q E0 := by
    have := q
    rwa [List.append_nil] at this
  have hl : us.length = ps.length := by
    rw [← r.length]
    exact F.len _ _ _ _ q'
  have bt : BindsTo s1 fd ⟨us, []⟩ (ps.zip us) := by
    have := hb s1 us I1.kIn (by rw [List.append_nil]; exact hl)
    rwa [List.append_nil] at this
  refine wpAny_call (codeAny_mono (F.run X.A X.stack s1 H1 ⟨us, []⟩ us vs Q E0 g0 hr I1.env0 bt r q') ?_)
  intro rs s' hq
  match rs, hq with
  | .error _, hq => exact False.elim hq
  | .ok (.ret _), hq => exact I1.after hq
  | .ok .next, hq => exact False.elim hq
  | .ok .brk, hq => exact False.elim hq
  | .ok .cont, hq => exact False.elim hq
end
/-! ### repr -/
section
variable {K : PySem.W.Frag}
def okR (d : D) : Bool := okD d && d.showable && !d.hasDict && decide (d.shown.length ≤ SZ)
theorem okR_ {d : D} (h : okR d = true) : okD d = true ∧ d.showable = true ∧ d.hasDict = false ∧ d.shown.length ≤ sizeLine := by
  simp only [okR, Bool.and_eq_true, decide_eq_true_eq, Bool.not_eq_true'] at h
  exact ⟨h.1.1.1, h.1.1.2, h.1.2, h.2⟩
def rRepr (K : PySem.W.Frag) : List V → Hp → VK → Prop := fun vs H Q => ∃ (v : V) (d : D), vs = [v] ∧ Dp K H v d ∧ okR d = true ∧ Q (.str d.shown) H
theorem clRepr {X : Cx} (g0 : X.A.guards = some []) (hu : X.A.units + 128 < cLine) : CallR X (.builtin "repr") (rRepr X.K) := by
  intro pins s σ H vs us Q I r h
  obtain ⟨v, d, rfl, hD, ok, q⟩ := h
  obtain ⟨o1, o2, o3, o4⟩ := okR_ ok
  obtain ⟨u, rfl, ru⟩ : ∃ u, us = [u] ∧ RelV v u := by
    cases r with
    | cons a b => cases b; exact ⟨_, rfl, a⟩
  obtain ⟨as, hr⟩ := Dp.reads I d v u hD ru
  have fin : ∀ (h' : Heap) (tk : Nat) (t : Tok), (∀ b o, s.heap.get? b = some o → h'.get? b = some o) → EP X pins σ Q (.str d.shown t) { s with heap := h', toks := tk } :=
    fun h' tk t hk => ⟨.str d.shown, H, I.kept hk, ⟨t, rfl⟩, q⟩
  have dep : d.depth ≤ 64 := by
    simp only [okD, Bool.and_eq_true, decide_eq_true_eq] at o1
    exact o1.2
  cases hr with
  | none => exact PySem.P.repr_of_none (fin _ _ _ fun _ _ e => e)
  | bool b =>
    have := PySem.P.repr_of_bool (prog := X.prog) (w := X.w) (A := X.A) (E := X.xe) (s := s) (b := b) (Q := EP X pins σ Q) (fin s.heap (s.toks + 1) s.toks fun _ _ e => e)
    exact this
  | int i t =>
    have h2 : i.natAbs.log2 < 1920 := by
      have := o2
      simp only [PyData.showable, decide_eq_true_eq] at this
      exact this
    exact PySem.P.repr_of_int h2 (fin _ _ _ fun _ _ e => e)
  | str x t => exact PySem.P.repr_of_str (fin _ _ _ fun _ _ e => e) o4
  | list a1 a2 a3 a4 => exact repr_of_reads' (.list a1 a2 a3 a4) o2 (PyData.noDict_hsm o3) g0 (by omega) (fun _ _ e => e) (fun h' t tk hk => fin h' tk t hk) o4
  | tuple a1 a2 a3 a4 => exact repr_of_reads' (.tuple a1 a2 a3 a4) o2 (PyData.noDict_hsm o3) g0 (by omega) (fun _ _ e => e) (fun h' t tk hk => fin h' tk t hk) o4
  | dict => simp [PyData.hasDict] at o3
def gRepr (d : D) : Option D := if okR d = true then some (.str d.shown) else none
theorem o_repr : Cl1 K .sh (rRepr K) gRepr := by
  intro hd hc Oe O w H x dx d Q hE hs hn hh rx e q
  unfold gRepr at e
  split at e
  · rename_i ok
    cases e
    exact ⟨x, dx, rfl, rx.dp (okD_ (okR_ ok).1).1, ok, q _ _ .refl hh (.str _)⟩
  · cases e
end
/-! ### the head of a law over such defs -/
theorem head_call {P : Program} {w : World} {K : PySem.W.Frag} {mg mb : PySem.Str → Option Value} {k : Nat} {fa a : Addr} {fd : FuncData} {x : PySem.Str} {sp : Sp} {t : Shared} {vs : List Value} {ns : List Int}
    (inK : K.In t.heap) (gm : t.heap.Ns mainGlobals mg) (gb : t.heap.Ns builtinsNs mb) (bb : ∀ x : PySem.Str, x ≠ "__name__" → mb x = bootBuiltins x) (lim : t.heap.NoLimit) (nog : t.gens = #[])
    (at_a : t.heap.get? a = some { cls := .type "list", data := .seq vs.toArray }) (hints : IntsAre vs ns) (short : ns.length ≤ sizeLine) (room : Room k callerA)
    (F : ∀ base : Heap, K.In base → base.Ns mainGlobals mg → FnG P w K mg base k fa fd [x] sp) (bnd : ∀ (s : Shared) (u : Value), BindsTo s fd ⟨[u], []⟩ [(x, u)])
    (want : ∀ H : Hp, Only H → SqL K H a (ns.map V.int) → sp [.ref a] H (fun v _ => v = .bl true) fun _ _ _ => False) :
    codeAny (model P w) callerA (.call (.ref fa) ⟨[.ref a], []⟩) (fun r s' => r = .ok (.ret (.bool true)) ∧ OldK t.heap s'.heap ∧ s'.os = t.os ∧ AllBare s'.gens) t := by
  have va := vals_ints hints
  have vl := hints.length
  -- whichever heap is tracked: nothing in it but the script
  suffices from_heap : ∀ H : Hp, Only H → SqL K H a (ns.map V.int) → HOk P w H t.heap → (∀ b, H b ≠ none → b = a) → (H a ≠ none → K.lookup a = none) →
      codeAny (model P w) callerA (.call (.ref fa) ⟨[.ref a], []⟩)
        (fun r s' => r = .ok (.ret (.bool true)) ∧ OldK t.heap s'.heap ∧ s'.os = t.os ∧ AllBare s'.gens) t by
    by_cases known : ∃ o, K.lookup a = some o
    · obtain ⟨o, hk⟩ := known
      have e := inK a o hk
      rw [at_a] at e
      cases e
      refine from_heap (fun _ => none) (fun _ => Or.inl rfl) ?_ (fun b u z => nomatch z) (fun b z => absurd rfl z) (fun z => absurd rfl z)
      exact Or.inr ⟨_, vs.toArray, _, hk, rfl, rfl, rfl, by rw [List.size_toArray, vl]; exact short, by simpa using va⟩
    · have hk : K.lookup a = none := by
        cases q : K.lookup a with
        | none => rfl
        | some o => exact absurd ⟨o, q⟩ known
      let fz : HO := .frz { cls := .type "list", data := .seq vs.toArray } (.lst (ns.map V.int))
      have one : ∀ b, b ≠ a → (if b = a then some fz else none) = none := fun b hb => if_neg hb
      refine from_heap (fun b => if b = a then some fz else none) (fun b => ?_) ?_ (fun b u z => ?_) (fun b z => ?_) (fun _ => hk)
      · by_cases hb : b = a
        · exact Or.inr ⟨_, _, if_pos hb⟩
        · exact Or.inl (one b hb)
      · exact Or.inl (Or.inr ⟨{ cls := .type "list", data := .seq vs.toArray }, if_pos rfl⟩)
      · by_cases hb : b = a
        · have z' : some fz = some u := (if_pos hb).symm.trans z
          cases z'
          subst hb
          exact ⟨at_a, by rw [List.length_map]; exact short, vs, _, va, at_a⟩
        · exact nomatch (one b hb).symm.trans z
      · by_cases hb : b = a
        · exact hb
        · exact absurd (one b hb) z
  intro H only hS hok alone apart
  have here : ∀ {b : Addr} {u : HO}, H b = some u → b = a := fun {b u} q => alone b (by rw [q]; simp)
  have free : ∀ {b : Addr} {o : Obj}, (∀ vs : Array Value, ∀ n, o.data ≠ .seq vs n) → t.heap.get? b = some o → H b = none := by
    intro b o hd e
    cases q : H b with
    | none => rfl
    | some u =>
      obtain rfl := here q
      rw [at_a] at e
      cases e
      exact absurd rfl (hd _ _)
  have names : ∀ {b : Addr} {m : PySem.Str → Option Value}, t.heap.Ns b m → (hidT t.heap H).Ns b m := by
    rintro b m ⟨o, es, ep, e, d, r⟩
    exact ⟨o, es, ep, hidT_get e (free (fun _ _ z => by rw [d] at z; cases z) e), d, r⟩
  have inB : K.In (hidT t.heap H) := by
    intro b o e
    refine hidT_get (inK b o e) ?_
    cases q : H b with
    | none => rfl
    | some u =>
      obtain rfl := here q
      rw [apart (by rw [q]; simp)] at e
      cases e
  have module : Mod K mg (hidT t.heap H) := by
    obtain ⟨mc, h1, h2⟩ := lim
    exact ⟨inB, names gm, ⟨mb, names gb, bb⟩, ⟨mc, names h1, h2⟩⟩
  have env : Env0 P w K mg (hidT t.heap H) callerA [] t H := by
    refine ⟨rfl, module, fun b o e => of_hidT e, Nat.le_of_eq (hidT_size _ _), trivial, ?_, hok, .of_eq nog⟩
    intro b hb
    exact absurd (show b ∈ ([] : List Addr) from hb) (by simp)
  refine codeAny_mono ((F _ inB (names gm)).run callerA [] t H ⟨[.ref a], []⟩ [.ref a] [.ref a] _ _ rfl room env (bnd t (.ref a)) (.cons rfl .nil) (want H only hS)) ?_
  intro r s' h
  match r, h with
  | .error _, h => exact False.elim h
  | .ok .next, h => exact False.elim h
  | .ok .brk, h => exact False.elim h
  | .ok .cont, h => exact False.elim h
  | .ok (.ret u), h =>
    obtain ⟨v, H', os, bare, un, hok', r', q⟩ := h
    obtain rfl : v = .bl true := q
    obtain rfl : u = Value.bool true := r'
    refine ⟨rfl, OldK.of_keep ?_, os, bare⟩
    intro b o e
    rcases only b with z | ⟨ob, xs, z⟩
    · exact un.keep b o e z (fun z => absurd (show b ∈ ([] : List Addr) from z) (by simp)) (by simp)
    · obtain ⟨e1, _⟩ := hok b _ z
      obtain ⟨e2, _⟩ := hok' b _ (un.frzs b ob _ z)
      rw [e] at e1
      cases e1
      exact e2
theorem head_walk {l : PySem.W.OpenLaw} {n k : Nat} {q : Program} {loose : List PySem.Str} {XP : (PySem.Str → Option Value) → Heap → Prop} {YP : World → Heap → Prop} {d : DefRec} {K : Params → PySem.W.Frag} {sp : World → Sp} {x : PySem.Str}
    (hn : l.most = some n) (hn2 : n ≤ sizeLine) (hdf : d.params.defaults = []) (room : Room k callerA) (hY : ∀ (w : World) (h : Heap), YP w h → (K w.params).In h)
    (F : ∀ (w : World) (mg : PySem.Str → Option Value) (fa : Addr) (h : Heap), (K w.params).In h → h.Ns mainGlobals mg → mg d.name = some (.ref fa) →
      ∃ fd : FuncData, (∀ (s : Shared) (u : Value), BindsTo s fd ⟨[u], []⟩ [(x, u)]) ∧ ∀ base : Heap, (K w.params).In base → base.Ns mainGlobals mg → FnG l.prog w (K w.params) mg base k fa fd [x] (sp w))
    (want : ∀ (w : World) (H : Hp) (a : Addr) (ns : List Int), ns.length ≤ n → Only H → SqL (K w.params) H a (ns.map V.int) → sp w [.ref a] H (fun v _ => v = .bl true) fun _ _ _ => False) :
    PySem.W.WalkO q loose XP YP l.row.toRowW d [] (fun f vs => PySem.call f vs) := by
  refine Att.attach_call hn hdf ?_
  intro w s₀ s₁ mg mb fa o pm cd doc a vs ns G Y ho hd hcd hmg hobj hints hlen hg
  obtain ⟨fd, hb, hF⟩ := F w mg fa _ (hY w _ Y) G.T.g hmg
  exact head_call (hY w _ Y) G.T.g G.T.b G.T.builtins G.T.nolimit hg hobj hints (Nat.le_trans hlen hn2) room hF hb fun H only hS => want w H a ns hlen only hS
/-! ### constants of the module that are tuples -/
mutual
inductive CT (K : PySem.W.Frag) : V → D → Prop
  | non : CT K .non .none
  | bl (b : Bool) : CT K (.bl b) (.bool b)
  | int (i : Int) : CT K (.int i) (.int i)
  | str (x : PySem.Str) : CT K (.str x) (.str x)
  | tup {a : Addr} {xs : List V} {ds : List D} {o : Obj} {its : Array Value} {n : Nat} : K.lookup a = some o → o.cls = .type "tuple" → o.data = .seq its n → its.size ≤ sizeLine → Vals xs its.toList → CTAll K xs ds → CT K (.ref a) (.tuple ds)
inductive CTAll (K : PySem.W.Frag) : List V → List D → Prop
  | nil : CTAll K [] []
  | cons {v : V} {vs : List V} {d : D} {ds : List D} : CT K v d → CTAll K vs ds → CTAll K (v :: vs) (d :: ds)
end
section
variable {K : PySem.W.Frag}
mutual
theorem CT.rep {hd : Addr} {O : List Addr} {H : Hp} : ∀ {v : V} {d : D}, CT K v d → Rep K hd O H v d
  | _, _, .non => .non
  | _, _, .bl b => .bl b
  | _, _, .int i => .int i
  | _, _, .str x => .str x
  | _, _, .tup (xs := xs) (its := its) h1 h2 h3 h4 h5 h6 => by
    refine .tup (.inr ⟨_, _, _, h1, h2, h3, h4, h5⟩) ?_ h6.rep
    have e := h5.length
    rw [e]
    simpa using h4
theorem CTAll.rep {hd : Addr} {O : List Addr} {H : Hp} : ∀ {vs : List V} {ds : List D}, CTAll K vs ds → RepAll K hd O H vs ds
  | _, _, .nil => .nil
  | _, _, .cons a b => .cons a.rep b.rep
end
theorem sn_ct {v : V} {d : D} (h : CT K v d) : SndE K .sh (tC v) (eC d) := ⟨fun {hd hc H0 Oe O w env σ H} S d' w' e Q q => by
  cases e
  exact q _ _ .refl S.hand (show Rep K hd O H v d from h.rep)⟩
/-- a row of constants as the items of a module's tuple -/
inductive CI (K : PySem.W.Frag) : List Value → List V → List D → Prop
  | nil : CI K [] [] []
  | int (i : Int) {t : Tok} {us : List Value} {vs : List V} {ds : List D} : CI K us vs ds → CI K (.int i t :: us) (.int i :: vs) (.int i :: ds)
  | str (x : PySem.Str) {t : Tok} {us : List Value} {vs : List V} {ds : List D} : CI K us vs ds → CI K (.str x t :: us) (.str x :: vs) (.str x :: ds)
  | ref {a : Addr} {d : D} {us : List Value} {vs : List V} {ds : List D} : CT K (.ref a) d → CI K us vs ds → CI K (.ref a :: us) (.ref a :: vs) (d :: ds)
theorem CI.vals {us : List Value} {vs : List V} {ds : List D} (h : CI K us vs ds) : Vals vs us ∧ CTAll K vs ds := by
  induction h with
  | nil => exact ⟨.nil, .nil⟩
  | int i h ih => exact ⟨.cons ⟨_, rfl⟩ ih.1, .cons (.int i) ih.2⟩
  | str x h ih => exact ⟨.cons ⟨_, rfl⟩ ih.1, .cons (.str x) ih.2⟩
  | ref c h ih => exact ⟨.cons rfl ih.1, .cons c ih.2⟩
theorem ct_mk {a : Addr} {od : Option Addr} {its : Array Value} {n : Nat} {sl : Array (Option Value)} {vs : List V} {ds : List D} (l : K.lookup a = some ⟨.type "tuple", od, .seq its n, sl⟩) (c : CI K its.toList vs ds) (z : its.size ≤ 1000) : CT K (.ref a) (.tuple ds) :=
  .tup l rfl rfl (Nat.le_trans z (by decide)) c.vals.1 c.vals.2
end
theorem pe_ct {X : Cx} {x : PySem.Str} {a : Addr} {C : Prop} {pos : Pos} (hg : Gl X x) (h : X.mg x = some (.ref a) ∧ C) (hd : (x == ("__debug__" : PySem.Str)) = false := by decide) : PE X (.Name x pos) (tC (.ref a)) := pe_glob (v := .ref a) hg h.1 rfl hd
end DL

set_option autoImplicit false
namespace DL
open PySem L2
/-! what the data words say, as plain equations; none by rfl, so that the kernel unfolds none of them -/
@[simp high] theorem b_some {α β : Type} (a : α) (f : α → Option β) : (some a).bind f = f a := id rfl
@[simp high] theorem m_some {α β : Type} (a : α) (f : α → β) : (some a).map f = some (f a) := id rfl
@[simp] theorem v_eC (d : D) (e : Env) (w : W) : eC d e w = some (d, w) := id rfl
@[simp] theorem v_eVar0 (d : D) (e : Env) (w : W) : eVar 0 (.sh d :: e) w = some (d, w) := id rfl
@[simp] theorem v_eVarS (i : Nat) (s : Slot) (e : Env) (w : W) : eVar (i + 1) (s :: e) w = eVar i e w := id rfl
@[simp] theorem v_eBor0 (d : D) (e : Env) (w : W) : eBor 0 (.sh d :: e) w = some (d, w) := id rfl
@[simp] theorem v_eBor0o (d : D) (e : Env) (w : W) : eBor 0 (.ow d :: e) w = some (d, w) := id rfl
@[simp] theorem v_eBorS (i : Nat) (s : Slot) (e : Env) (w : W) : eBor (i + 1) (s :: e) w = eBor i e w := id rfl
@[simp] theorem v_e2 (g : D → D → Option D) (fa fb : F1 D) (e : Env) (w : W) : e2 g fa fb e w = (fa e w).bind fun p => (fb e p.2).bind fun q => (g p.1 q.1).map fun d => (d, q.2) := id rfl
@[simp] theorem v_e1 (g : D → Option D) (fa : F1 D) (e : Env) (w : W) : e1 g fa e w = (fa e w).bind fun p => (g p.1).map fun d => (d, p.2) := id rfl
@[simp] theorem v_eA0 (e : Env) (w : W) : eA0 e w = some ([], w) := id rfl
@[simp] theorem v_eA (fa : F1 D) (fr : F1 (List D)) (e : Env) (w : W) : eA fa fr e w = (fa e w).bind fun p => (fr e p.2).map fun q => (p.1 :: q.1, q.2) := id rfl
@[simp] theorem v_eTup (f : F1 (List D)) (e : Env) (w : W) : eTup f e w = (f e w).map fun p => (.tuple p.1, p.2) := id rfl
@[simp] theorem v_eLst (f : F1 (List D)) (e : Env) (w : W) : eLst f e w = (f e w).map fun p => (.list p.1, p.2) := id rfl
@[simp] theorem v_asB (b : Bool) : asB (.bool b) = some b := id rfl
@[simp] theorem v_bV (f : F1 D) (e : Env) (w : W) : bV f e w = (f e w).bind fun p => (asB p.1).map fun b => (b, p.2) := id rfl
@[simp] theorem v_bAnd (f g : F1 Bool) (e : Env) (w : W) : bAnd f g e w = (f e w).bind fun p => if p.1 = true then g e p.2 else some (false, p.2) := id rfl
@[simp] theorem v_bOr (f g : F1 Bool) (e : Env) (w : W) : bOr f g e w = (f e w).bind fun p => if p.1 = true then some (true, p.2) else g e p.2 := id rfl
@[simp] theorem v_bNot (f : F1 Bool) (e : Env) (w : W) : bNot f e w = (f e w).map fun p => (!p.1, p.2) := id rfl
@[simp] theorem v_bYes (e : Env) (w : W) : bYes e w = some (true, w) := id rfl
@[simp] theorem v_eAndV (f g : F1 D) (e : Env) (w : W) : eAndV f g e w = (f e w).bind fun p => (asB p.1).bind fun b => if b = true then g e p.2 else some (.bool false, p.2) := id rfl
@[simp] theorem v_eOrV (f g : F1 D) (e : Env) (w : W) : eOrV f g e w = (f e w).bind fun p => (asB p.1).bind fun b => if b = true then some (.bool true, p.2) else g e p.2 := id rfl
@[simp] theorem v_eNotV (f : F1 D) (e : Env) (w : W) : eNotV f e w = (f e w).bind fun p => (asB p.1).map fun b => (.bool (!b), p.2) := id rfl
@[simp] theorem v_eIf (t : F1 Bool) (f g : F1 D) (e : Env) (w : W) : eIf t f g e w = (t e w).bind fun p => if p.1 = true then f e p.2 else g e p.2 := id rfl
@[simp] theorem v_eCall (g : List D → W → Option (D × W)) (fa : F1 (List D)) (e : Env) (w : W) : eCall g fa e w = (fa e w).bind fun p => g p.1 p.2 := id rfl
@[simp] theorem v_sNext (e : Env) (w : W) : sNext e w = some (.nx e, w) := id rfl
@[simp] theorem v_sBreak (e : Env) (w : W) : sBreak e w = some (.bk e, w) := id rfl
@[simp] theorem v_sCont (e : Env) (w : W) : sCont e w = some (.ct e, w) := id rfl
@[simp] theorem v_sDrop (f : F1 D) (e : Env) (w : W) : sDrop f e w = (f e w).map fun p => (.nx e, p.2) := id rfl
@[simp] theorem v_sRet (f : F1 D) (e : Env) (w : W) : sRet f e w = (f e w).map fun p => (.rt p.1, p.2) := id rfl
@[simp] theorem v_sRetN (e : Env) (w : W) : sRetN e w = some (.rt .none, w) := id rfl
@[simp] theorem v_sIf (t : F1 Bool) (f g : F1 Out) (e : Env) (w : W) : sIf t f g e w = (t e w).bind fun p => if p.1 = true then f e p.2 else g e p.2 := id rfl
@[simp] theorem v_sSet (i : Nat) (f : F1 D) (e : Env) (w : W) : sSet i f e w = (f e w).map fun p => (.nx (e.set i (.sh p.1)), p.2) := id rfl
@[simp] theorem v_sSetO (i : Nat) (f : F1 D) (e : Env) (w : W) : sSetO i f e w = (f e w).map fun p => (.nx (e.set i (.ow p.1)), p.2) := id rfl
@[simp] theorem v_sAsg (f : F1 D) (g : D → Env → Option Env) (e : Env) (w : W) : sAsg f g e w = (f e w).bind fun p => (g p.1 e).map fun e' => (.nx e', p.2) := id rfl
@[simp] theorem v_sFrz (i : Nat) (f : F1 Out) (e : Env) (w : W) : sFrz i f e w = f (frz i e) w := id rfl
theorem frz_ow {i : Nat} {e : Env} {d : D} (h : e[i]? = some (.ow d)) : frz i e = e.set i (.sh d) := by unfold frz; rw [h]
@[simp] theorem v_frz0 (d : D) (e : Env) : frz 0 (.ow d :: e) = .sh d :: e := id rfl
@[simp] theorem v_frzS (i : Nat) (s : Slot) (e : Env) : frz (i + 1) (s :: e) = s :: frz i e := by
  unfold frz
  simp only [List.getElem?_cons_succ]
  cases h : e[i]? with
  | none => rfl
  | some x => cases x <;> simp
@[simp] theorem v_slotT (d : D) : slotOf true d = .ow d := id rfl
@[simp] theorem v_slotF (d : D) : slotOf false d = .sh d := id rfl
@[simp] theorem v_sPar (i j : Nat) (a b : Bool) (f : F1 (List D)) (e : Env) (w : W) : sPar i j a b f e w = (f e w).bind fun p => match p.1 with
  | [x, y] => some (.nx ((e.set i (slotOf a x)).set j (slotOf b y)), p.2)
  | _ => none := id rfl
@[simp] theorem v_sAug (i : Nat) (g : D → D → Option D) (f : F1 D) (e : Env) (w : W) : sAug i g f e w = (eVar i e w).bind fun p => (f e p.2).bind fun q => (g p.1 q.1).map fun d => (.nx (e.set i (.sh d)), q.2) := id rfl
theorem v_sApp (i : Nat) (f : F1 D) (e : Env) (w : W) : sApp i f e w = match e[i]? with
  | some (.ow (.list ds)) => (f e w).bind fun p => if ds.length < SZ then some (.nx (e.set i (.ow (.list (ds ++ [p.1])))), p.2) else none
  | _ => none := rfl
@[simp] theorem v_gSet (i : Nat) (d : D) (e : Env) : gSet i d e = some (e.set i (.sh d)) := id rfl
@[simp] theorem v_gsNil (e : Env) : gsNil [] e = some e := id rfl
@[simp] theorem v_gsCons (g : D → Env → Option Env) (gs : List D → Env → Option Env) (d : D) (r : List D) (e : Env) : gsCons g gs (d :: r) e = (g d e).bind fun e => gs r e := id rfl
@[simp] theorem v_gTupD (n : Nat) (gs : List D → Env → Option Env) (ds : List D) (e : Env) : gTupD n gs (.tuple ds) e = if ds.length = n then gs ds e else none := id rfl
@[simp] theorem v_sFor (fi : F1 (List D)) (gs : D → Env → Option Env) (b : F1 Out) (e : Env) (w : W) : sFor fi gs b e w = (fi e w).bind fun p => loopD gs b p.1 e p.2 := id rfl
@[simp] theorem v_sSeq (f g : F1 Out) (e : Env) (w : W) : sSeq f g e w = (f e w).bind fun p => match p.1 with
  | .nx e => g e p.2
  | o => some (o, p.2) := id rfl
@[simp] theorem v_eLc (vs : List Nat) (fi : F1 (List D)) (gs : D → Env → Option Env) (ft : F1 Bool) (fe : F1 D) (e : Env) (w : W) : eLc vs fi gs ft fe e w = (fi e w).bind fun p => (lcD gs ft fe (wipeE e vs) p.1 p.2).map fun q => (.list q.1, q.2) := id rfl
@[simp] theorem v_wipe0 (e : Env) : wipeE e [] = e := id rfl
@[simp] theorem v_wipeS (e : Env) (v : Nat) (vs : List Nat) : wipeE e (v :: vs) = (wipeE e vs).set v .no := id rfl
@[simp] theorem v_gAdd (i j : Int) : gAdd (.int i) (.int j) = some (.int (i + j)) := id rfl
theorem v_gAddT (a b : List D) (h : a.length + b.length ≤ SZ) : gAdd (.tuple a) (.tuple b) = some (.tuple (a ++ b)) := if_pos h
theorem v_gAddL (a b : List D) (h : a.length + b.length ≤ SZ) : gAdd (.list a) (.list b) = some (.list (a ++ b)) := if_pos h
@[simp] theorem v_gSub (i j : Int) : gSub (.int i) (.int j) = some (.int (i - j)) := id rfl
@[simp] theorem v_gAddI (i j : Int) : gAddI (.int i) (.int j) = some (.int (i + j)) := id rfl
theorem v_gMul {i j : Int} (h : mulOk i j = true) : gMul (.int i) (.int j) = some (.int (i * j)) := if_pos h
theorem v_gMulL {a : List D} {k : Int} (h : repOk a.length k = true) : gMul (.list a) (.int k) = some (.list (List.replicate k.toNat a).flatten) := if_pos h
theorem small_of {i : Int} (h : -18446744073709551616 < i) (h' : i < 18446744073709551616) : small i = true := by simp [small, h, h']
theorem mulOk_r {i j : Int} (h : small j = true) : mulOk i j = true := by simp [mulOk, h]
theorem mulOk_l {i j : Int} (h : small i = true) : mulOk i j = true := by simp [mulOk, h]
theorem v_gMod {i j : Int} (h : j ≠ 0) : gMod (.int i) (.int j) = some (.int (i.fmod j)) := by simp [gInt2, modOk, h]
theorem v_gDiv {i j : Int} (h : j ≠ 0) (h1 : -1073741824 < j) (h2 : j < 1073741824) : gDiv (.int i) (.int j) = some (.int (i.fdiv j)) := by simp [gInt2, divOk, h, h1, h2]
@[simp] theorem v_gNeg (i : Int) : gNeg (.int i) = some (.int (-i)) := id rfl
@[simp] theorem v_gCmp (p : Int → Int → Bool) (i j : Int) : gCmp p (.int i) (.int j) = some (.bool (p i j)) := id rfl
@[simp] theorem v_asI (i : Int) : asI (.int i) = some i := id rfl
@[simp] theorem v_eChn (p q : Int → Int → Bool) (fa fb fc : F1 D) (e : Env) (w : W) : eChn p q fa fb fc e w = (fa e w).bind fun x => (fb e x.2).bind fun y => (asI x.1).bind fun i => (asI y.1).bind fun j =>
  if p i j = true then (fc e y.2).bind fun z => (asI z.1).map fun k => (.bool (q j k), z.2) else some (.bool false, y.2) := id rfl
@[simp] theorem v_oNone (e : Env) (w : W) : oNone e w = some (none, w) := id rfl
@[simp] theorem v_oSome (f : F1 D) (e : Env) (w : W) : oSome f e w = (f e w).bind fun p => (asI p.1).map fun i => (some i, p.2) := id rfl
@[simp] theorem v_eSl (g : D → Option Int → Option Int → Option D) (f : F1 D) (fl fh : F1 (Option Int)) (e : Env) (w : W) : eSl g f fl fh e w = (f e w).bind fun x => (fl e x.2).bind fun l => (fh e l.2).bind fun h => (g x.1 l.1 h.1).map fun d => (d, h.2) := id rfl
@[simp] theorem v_gSlL (ds : List D) (a b : Option Int) : gSl (.list ds) a b = some (.list (cutD ds a b)) := id rfl
@[simp] theorem v_gSlT (ds : List D) (a b : Option Int) : gSl (.tuple ds) a b = some (.tuple (cutD ds a b)) := id rfl
@[simp] theorem v_gLenL (ds : List D) : gLen (.list ds) = some (.int ds.length) := id rfl
@[simp] theorem v_gLenT (ds : List D) : gLen (.tuple ds) = some (.int ds.length) := id rfl
@[simp] theorem v_gToInt (i : Int) : gToInt (.int i) = some (.int i) := id rfl
@[simp] theorem v_gAbs (i : Int) : gAbs (.int i) = some (.int (if i < 0 then -i else i)) := id rfl
@[simp] theorem v_gMax2 (i j : Int) : gMax2 (.int i) (.int j) = some (.int (if j > i then j else i)) := id rfl
@[simp] theorem v_gMin2 (i j : Int) : gMin2 (.int i) (.int j) = some (.int (if j < i then j else i)) := id rfl
@[simp] theorem v_gTupleL (ds : List D) : gTuple (.list ds) = some (.tuple ds) := id rfl
@[simp] theorem v_gTupleT (ds : List D) : gTuple (.tuple ds) = some (.tuple ds) := id rfl
@[simp] theorem v_gListL (ds : List D) : gList (.list ds) = some (.list ds) := id rfl
@[simp] theorem v_gListT (ds : List D) : gList (.tuple ds) = some (.list ds) := id rfl
@[simp] theorem v_iItems (f : F1 D) (e : Env) (w : W) : iItems f e w = (f e w).bind fun p => (itemsOf p.1).map fun ds => (ds, p.2) := id rfl
@[simp] theorem v_itemsL (ds : List D) : itemsOf (.list ds) = some ds := id rfl
@[simp] theorem v_itemsT (ds : List D) : itemsOf (.tuple ds) = some ds := id rfl
@[simp] theorem v_zip2L (a b : List D) : zip2 (.list a) (.list b) = some (zipD a b) := id rfl
@[simp] theorem v_zip2T (a b : List D) : zip2 (.tuple a) (.tuple b) = some (zipD a b) := id rfl
@[simp] theorem v_iZipD (f g : F1 D) (e : Env) (w : W) : iZipD f g e w = (f e w).bind fun p => (g e p.2).bind fun q => (zip2 p.1 q.1).map fun ds => (ds, q.2) := id rfl
theorem rangeD_eq : ∀ (n : Nat) (lo : Int), rangeD lo n = (List.range n).map fun (i : Nat) => PyData.int (lo + (i : Int))
  | 0, lo => rfl
  | n + 1, lo => by
    rw [List.range_succ_eq_map]
    simp only [rangeD, rangeD_eq n, List.map_cons, List.map_map]
    congr 1
    · simp
    · refine List.map_congr_left fun i _ => ?_
      show PyData.int (lo + 1 + (i : Int)) = PyData.int (lo + ((i + 1 : Nat) : Int))
      exact congrArg PyData.int (by omega)
theorem range0 (n : Nat) : rangeD 0 n = ((List.range n).map fun (i : Nat) => (i : Int)).map PyData.int := by
  rw [rangeD_eq, List.map_map]
  exact List.map_congr_left fun i _ => by simp [Function.comp]
theorem SZ_is : SZ = 16777216 := by simp [SZ, sizeLine]
theorem le_SZ {n : Nat} (h : n ≤ 1048576) : n ≤ SZ := Nat.le_trans h (by rw [SZ_is]; decide)
theorem rg_n {n : Nat} (h : n ≤ 1048576) : rgOk (n : Int) = true := by
  simp only [rgOk, Bool.and_eq_true, decide_eq_true_eq]
  omega
theorem rg_aux {f : F1 D} {e : Env} {w w' : W} {j : Int} (t : Int → Bool) (h : f e w = some (.int j, w')) (c : t j = true) :
    ((f e w).bind fun p => (asI p.1).bind fun j => if t j = true then some (rangeD 0 j.toNat, p.2) else none) = some (rangeD 0 j.toNat, w') := by
  rw [h]
  simp only [b_some, asI]
  rw [if_pos c]
theorem rg_aux2 {f g : F1 D} {e : Env} {w w1 w' : W} {i j : Int} (t : Int → Int → Bool) (h : f e w = some (.int i, w1)) (h' : g e w1 = some (.int j, w')) (c : t i j = true) :
    ((f e w).bind fun p => (g e p.2).bind fun q => (asI p.1).bind fun i => (asI q.1).bind fun j => if t i j = true then some (rangeD i (j - i).toNat, q.2) else none) = some (rangeD i (j - i).toNat, w') := by
  rw [h]
  simp only [b_some]
  rw [h']
  simp only [b_some, asI]
  rw [if_pos c]
theorem rg_c {n : Nat} (hn : n ≤ 1048576) : (rgOk (n : Int) && decide ((n : Int).toNat ≤ SZ)) = true := by
  rw [rg_n hn, Bool.true_and, Int.toNat_natCast]
  exact decide_eq_true (le_SZ hn)
theorem v_iRange1 {f : F1 D} {e : Env} {w w' : W} {n : Nat} (h : f e w = some (.int n, w')) (hn : n ≤ 1048576) : iRange1 f e w = some (((List.range n).map fun (i : Nat) => (i : Int)).map PyData.int, w') :=
  (rg_aux (fun j => rgOk j && decide (j.toNat ≤ SZ)) h (rg_c hn)).trans (by rw [Int.toNat_natCast, range0])
theorem rg_i {i : Int} (h : -1048576 ≤ i) (h' : i ≤ 1048576) : rgOk i = true := by
  simp only [rgOk, Bool.and_eq_true, decide_eq_true_eq]
  omega
theorem v_iRange2 {f g : F1 D} {e : Env} {w w1 w' : W} {i j : Int} (h : f e w = some (.int i, w1)) (h' : g e w1 = some (.int j, w')) (a : -524288 ≤ i) (b : i ≤ 524288) (c : -524288 ≤ j) (d : j ≤ 524288) :
    iRange2 f g e w = some (((List.range (j - i).toNat).map fun (k : Nat) => i + (k : Int)).map PyData.int, w') :=
  (rg_aux2 (fun i j => rgOk i && rgOk j && decide ((j - i).toNat ≤ SZ)) h h' (by
    show (rgOk i && rgOk j && decide ((j - i).toNat ≤ SZ)) = true
    rw [rg_i (by omega) (by omega), rg_i (by omega) (by omega), Bool.true_and, Bool.true_and]
    exact decide_eq_true (le_SZ (by omega)))).trans (by rw [rangeD_eq, List.map_map]; rfl)
@[simp] theorem v_intsOf : ∀ xs : List Int, intsOf (xs.map PyData.int) = some xs
  | [] => rfl
  | x :: xs => by simp [intsOf, v_intsOf xs]
@[simp] theorem v_boolsOf : ∀ xs : List Bool, boolsOf (xs.map PyData.bool) = some xs
  | [] => rfl
  | x :: xs => by simp [boolsOf, v_boolsOf xs]
@[simp] theorem v_gSumL (xs : List Int) : gSum (.list (xs.map .int)) = some (.int xs.sum) := by simp [gSum]
@[simp] theorem v_gSumT (xs : List Int) : gSum (.tuple (xs.map .int)) = some (.int xs.sum) := by simp [gSum]
@[simp] theorem v_gAll (xs : List Bool) : gAll (.list (xs.map .bool)) = some (.bool (xs.all id)) := by simp [gAll]
@[simp] theorem v_gAny (xs : List Bool) : gAny (.list (xs.map .bool)) = some (.bool (xs.any id)) := by simp [gAny]
theorem cutD_map {α β : Type} (f : α → β) (xs : List α) (a b : Option Int) : cutD (xs.map f) a b = (cutD xs a b).map f := by simp [cutD, List.map_take, List.map_drop]
theorem fnD_rt {n : Nat} {f : F1 Out} {ds : List D} {w w' : W} {d : D} (h : f (ds.map Slot.sh ++ List.replicate (n - ds.length) Slot.no) w = some (.rt d, w')) : fnD n f ds w = some (d, w') := by
  unfold fnD; rw [h]; rfl
theorem fnD_nx {n : Nat} {f : F1 Out} {ds : List D} {w w' : W} {e : Env} (h : f (ds.map Slot.sh ++ List.replicate (n - ds.length) Slot.no) w = some (.nx e, w')) : fnD n f ds w = some (.none, w') := by
  unfold fnD; rw [h]; rfl
theorem seq_nx {f g : F1 Out} {e e' : Env} {w w' : W} {r : Option (Out × W)} (h : f e w = some (.nx e', w')) (k : g e' w' = r) : sSeq f g e w = r := by
  rw [v_sSeq, h]; exact k
theorem v_app {i : Nat} {f : F1 D} {e : Env} {w w' : W} {ds : List D} {d : D} (h : e[i]? = some (.ow (.list ds))) (hf : f e w = some (d, w')) (hl : ds.length < 1048576) : sApp i f e w = some (.nx (e.set i (.ow (.list (ds ++ [d])))), w') := by
  have q : ds.length < SZ := by rw [SZ_is]; omega
  rw [v_sApp, h]
  simp only [hf, b_some]
  rw [if_pos q]
@[simp] theorem isi_ii (n : Int) : gIsi "int" (.int n) = some (.bool true) := by simp [gIsi, tyName]; decide +kernel
@[simp] theorem isi_bi (n : Int) : gIsi "bool" (.int n) = some (.bool false) := by simp [gIsi, tyName]; decide +kernel
@[simp] theorem isi_tt (n : List D) : gIsi "tuple" (.tuple n) = some (.bool true) := by simp [gIsi, tyName]; decide +kernel
@[simp] theorem isi_ll (n : List D) : gIsi "list" (.list n) = some (.bool true) := by simp [gIsi, tyName]; decide +kernel
@[simp] theorem isi_ss (n : Str) : gIsi "str" (.str n) = some (.bool true) := by simp [gIsi, tyName]; decide +kernel
theorem cut_from {α : Type} {xs : List α} {b : Nat} (h : b ≤ xs.length) : cutD xs (some (b : Int)) none = xs.drop b := by
  have q : ¬ (b : Int) < 0 := by omega
  have m : min b xs.length = b := by omega
  simp only [cutD, HT.sIx, q, if_false, Int.toNat_natCast, m]
  exact List.take_of_length_le (by simp)
theorem cut_to {α : Type} {xs : List α} {b : Nat} : cutD xs none (some (b : Int)) = xs.take b := by
  have q : ¬ (b : Int) < 0 := by omega
  simp only [cutD, HT.sIx, q, if_false, Int.toNat_natCast, List.drop_zero, Nat.sub_zero]
  by_cases h : b ≤ xs.length
  · have m : min b xs.length = b := by omega
    rw [m]
  · have m : min b xs.length = xs.length := by omega
    rw [m, List.take_of_length_le (by omega), List.take_of_length_le (by omega)]
theorem for_ok {fi : F1 (List D)} {gs : D → Env → Option Env} {b : F1 Out} {e : Env} {w w1 : W} {ds : List D} {r : Option (Out × W)} (h : fi e w = some (ds, w1)) (k : loopD gs b ds e w1 = r) : sFor fi gs b e w = r := by
  rw [v_sFor, h]; exact k
theorem lc_ok {vs : List Nat} {fi : F1 (List D)} {gs : D → Env → Option Env} {ft : F1 Bool} {fe : F1 D} {e : Env} {w w1 w2 : W} {ds rs : List D} (h : fi e w = some (ds, w1)) (k : lcD gs ft fe (wipeE e vs) ds w1 = some (rs, w2)) : eLc vs fi gs ft fe e w = some (.list rs, w2) := by
  rw [v_eLc, h]; simp only [b_some, k, m_some]
theorem set_ok {i : Nat} {f : F1 D} {e : Env} {w w' : W} {d : D} (h : f e w = some (d, w')) : sSet i f e w = some (.nx (e.set i (.sh d)), w') := by
  rw [v_sSet, h]; rfl
theorem ret_ok {f : F1 D} {e : Env} {w w' : W} {d : D} (h : f e w = some (d, w')) : sRet f e w = some (.rt d, w') := by
  rw [v_sRet, h]; rfl
theorem e1_ok {g : D → Option D} {f : F1 D} {e : Env} {w w' : W} {x d : D} (h : f e w = some (x, w')) (k : g x = some d) : e1 g f e w = some (d, w') := by
  rw [v_e1, h]; simp [k]
theorem tup_ok {f : F1 D} {e : Env} {w w' : W} {ds : List D} (h : f e w = some (.list ds, w')) : e1 gTuple f e w = some (.tuple ds, w') := e1_ok h rfl
@[simp] theorem v_gIx0 (d : D) (ds : List D) : gIx (.list (d :: ds)) (.int 0) = some d := by
  have q : (0 : Int) < ((d :: ds).length : Int) := by rw [List.length_cons]; omega
  show atI (d :: ds) 0 = some d
  unfold atI ixN
  rw [if_pos (by decide), if_pos q]
  rfl
@[simp] theorem v_gIx0T (d : D) (ds : List D) : gIx (.tuple (d :: ds)) (.int 0) = some d := v_gIx0 d ds
theorem par_ok {i j : Nat} {o1 o2 : Bool} {f : F1 (List D)} {e : Env} {w w' : W} {a b : D} (h : f e w = some ([a, b], w')) : sPar i j o1 o2 f e w = some (.nx ((e.set i (slotOf o1 a)).set j (slotOf o2 b)), w') := by
  rw [v_sPar, h]; rfl
theorem if_no {t : F1 Bool} {f g : F1 Out} {e : Env} {w w' : W} {r : Option (Out × W)} (h : t e w = some (false, w')) (k : g e w' = r) : sIf t f g e w = r := by
  rw [v_sIf, h]; exact k
theorem if_yes {t : F1 Bool} {f g : F1 Out} {e : Env} {w w' : W} {r : Option (Out × W)} (h : t e w = some (true, w')) (k : f e w' = r) : sIf t f g e w = r := by
  rw [v_sIf, h]; exact k
/-- a test that fails is passed -/
theorem pass_if {t : F1 Bool} {f : F1 Out} {e : Env} {w w' : W} (h : t e w = some (false, w')) : sIf t f sNext e w = some (.nx e, w') := if_no h rfl
@[simp] theorem v_gIsN (d : D) : gIsN d .none = some (.bool (isNon d)) := id rfl
@[simp] theorem v_gNotN (d : D) : gNotN d .none = some (.bool (!isNon d)) := id rfl
@[simp] theorem isNon_t (ds : List D) : isNon (.tuple ds) = false := rfl
@[simp] theorem isNon_l (ds : List D) : isNon (.list ds) = false := rfl
@[simp] theorem isNon_n : isNon (.none) = true := rfl
@[simp] theorem isNon_i (n : Int) : isNon (.int n) = false := rfl
theorem asg_ok {f : F1 D} {g : D → Env → Option Env} {e e' : Env} {w w' : W} {d : D} (h : f e w = some (d, w')) (k : g d e = some e') : sAsg f g e w = some (.nx e', w') := by
  rw [v_sAsg, h]; simp [k]
/-! the loops -/
theorem lc_map {gs : D → Env → Option Env} {ft : F1 Bool} {fe : F1 D} {env : Env} {w : W} {g : D → D} : ∀ {ds : List D}, (∀ d ∈ ds, ∃ e1, gs d env = some e1 ∧ ft e1 w = some (true, w) ∧ fe e1 w = some (g d, w)) → lcD gs ft fe env ds w = some (ds.map g, w)
  | [], _ => rfl
  | d :: ds, h => by
    obtain ⟨e1, a, b, c⟩ := h d List.mem_cons_self
    simp [lcD, a, b, c, lc_map fun x hx => h x (List.mem_cons_of_mem _ hx)]
theorem lc_filter {gs : D → Env → Option Env} {ft : F1 Bool} {fe : F1 D} {env : Env} {w : W} {p : D → Bool} {g : D → D} : ∀ {ds : List D}, (∀ d ∈ ds, ∃ e1, gs d env = some e1 ∧ ft e1 w = some (p d, w) ∧ (p d = true → fe e1 w = some (g d, w))) →
    lcD gs ft fe env ds w = some ((ds.filter p).map g, w)
  | [], _ => rfl
  | d :: ds, h => by
    obtain ⟨e1, a, b, c⟩ := h d List.mem_cons_self
    have i := lc_filter fun x hx => h x (List.mem_cons_of_mem _ hx)
    by_cases q : p d = true
    · simp [lcD, a, b, c q, i, q]
    · simp [lcD, a, b, i, q]
inductive All2 {α β : Type} (R : α → β → Prop) : List α → List β → Prop
  | nil : All2 R [] []
  | cons {a : α} {b : β} {as : List α} {bs : List β} : R a b → All2 R as bs → All2 R (a :: as) (b :: bs)
/-- with the world: what the items are, one by one -/
theorem lc_inv {gs : D → Env → Option Env} {ft : F1 Bool} {fe : F1 D} {env : Env} {I : W → Prop} {R : D → D → Prop} : ∀ {ds : List D} {w : W}, I w → (∀ d ∈ ds, ∀ w, I w → ∃ e1 r w', gs d env = some e1 ∧ ft e1 w = some (true, w) ∧ fe e1 w = some (r, w') ∧ R d r ∧ I w') →
    ∃ rs w', lcD gs ft fe env ds w = some (rs, w') ∧ All2 R ds rs ∧ I w'
  | [], w, hi, _ => ⟨[], w, rfl, .nil, hi⟩
  | d :: ds, w, hi, h => by
    obtain ⟨e1, r, w1, a, b, c, q, i1⟩ := h d List.mem_cons_self w hi
    obtain ⟨rs, w2, x, y, z⟩ := lc_inv i1 fun x hx => h x (List.mem_cons_of_mem _ hx)
    exact ⟨r :: rs, w2, by simp [lcD, a, b, c, x], .cons q y, z⟩
theorem lc_ints {gs : D → Env → Option Env} {ft : F1 Bool} {fe : F1 D} {env : Env} {I : W → Prop} {R : Int → Int → Prop} : ∀ {xs : List Int} {w : W}, I w → (∀ x ∈ xs, ∀ w, I w → ∃ e1 r w', gs (.int x) env = some e1 ∧ ft e1 w = some (true, w) ∧ fe e1 w = some (.int r, w') ∧ R x r ∧ I w') →
    ∃ rs w', lcD gs ft fe env (xs.map .int) w = some (rs.map .int, w') ∧ All2 R xs rs ∧ I w'
  | [], w, hi, _ => ⟨[], w, rfl, .nil, hi⟩
  | x :: xs, w, hi, h => by
    obtain ⟨e1, r, w1, a, b, c, q, i1⟩ := h x List.mem_cons_self w hi
    obtain ⟨rs, w2, u, y, z⟩ := lc_ints i1 fun y hy => h y (List.mem_cons_of_mem _ hy)
    exact ⟨r :: rs, w2, by simp [lcD, a, b, c, u], .cons q y, z⟩
theorem lc_true {gs : D → Env → Option Env} {ft : F1 Bool} {fe : F1 D} {env : Env} {I : W → Prop} : ∀ {ds : List D} {w : W}, I w → (∀ d ∈ ds, ∀ w, I w → ∃ e1 w', gs d env = some e1 ∧ ft e1 w = some (true, w) ∧ fe e1 w = some (.bool true, w') ∧ I w') →
    ∃ w', lcD gs ft fe env ds w = some ((List.replicate ds.length true).map .bool, w') ∧ I w'
  | [], w, hi, _ => ⟨w, rfl, hi⟩
  | d :: ds, w, hi, h => by
    obtain ⟨e1, w1, a, b, c, i1⟩ := h d List.mem_cons_self w hi
    obtain ⟨w2, u, z⟩ := lc_true i1 fun y hy => h y (List.mem_cons_of_mem _ hy)
    refine ⟨w2, ?_, z⟩
    simp only [lcD, a, b, c, u, b_some, if_true, m_some, List.length_cons, List.replicate_succ, List.map_cons]
@[simp] theorem all_rep (n : Nat) : (List.replicate n true).all id = true := by simp
theorem lc_mapN {gs : D → Env → Option Env} {ft : F1 Bool} {fe : F1 D} {env : Env} {w : W} {g : Int → D} : ∀ {xs : List Int}, (∀ x ∈ xs, ∃ e1, gs (.int x) env = some e1 ∧ ft e1 w = some (true, w) ∧ fe e1 w = some (g x, w)) → lcD gs ft fe env (xs.map .int) w = some (xs.map g, w)
  | [], _ => rfl
  | x :: xs, h => by
    obtain ⟨e1, a, b, c⟩ := h x List.mem_cons_self
    have i := lc_mapN fun y hy => h y (List.mem_cons_of_mem _ hy)
    simp only [List.map_cons, lcD, a, b, c, i, b_some, if_true, m_some]
theorem lc_mapI {gs : D → Env → Option Env} {ft : F1 Bool} {fe : F1 D} {env : Env} {w : W} {g : Int → Int} : ∀ {xs : List Int}, (∀ x ∈ xs, ∃ e1, gs (.int x) env = some e1 ∧ ft e1 w = some (true, w) ∧ fe e1 w = some (.int (g x), w)) → lcD gs ft fe env (xs.map .int) w = some ((xs.map g).map .int, w)
  | [], _ => rfl
  | x :: xs, h => by
    obtain ⟨e1, a, b, c⟩ := h x List.mem_cons_self
    have i := lc_mapI fun y hy => h y (List.mem_cons_of_mem _ hy)
    simp only [List.map_cons, lcD, a, b, c, i, b_some, if_true, m_some]
theorem lc_zip {gs : D → Env → Option Env} {fe : F1 D} {env : Env} {w : W} (op : Int → Int → Int) (h : ∀ x y : Int, ∃ e1, gs (.tuple [.int x, .int y]) env = some e1 ∧ fe e1 w = some (.int (op x y), w)) :
    ∀ xs ys : List Int, lcD gs bYes fe env (zipD (xs.map .int) (ys.map .int)) w = some ((List.zipWith op xs ys).map .int, w)
  | [], _ => rfl
  | _ :: _, [] => rfl
  | x :: xs, y :: ys => by
    obtain ⟨e1, a, b⟩ := h x y
    have r := lc_zip op h xs ys
    unfold zipD at r
    simp only [List.map_cons, zipD, List.zipWith_cons_cons, lcD, a, b, v_bYes, b_some, if_true, r, m_some]
theorem All2.len {α β : Type} {R : α → β → Prop} : ∀ {xs : List α} {ys : List β}, All2 R xs ys → ys.length = xs.length
  | _, _, .nil => rfl
  | _, _, .cons _ r => by simp [r.len]
theorem All2.right {α β : Type} {R : α → β → Prop} {S : β → Prop} (h : ∀ a b, R a b → S b) : ∀ {xs : List α} {ys : List β}, All2 R xs ys → ∀ y ∈ ys, S y
  | _, _, .nil, y, m => by cases m
  | _, _, .cons q r, y, m => by
    rcases List.mem_cons.mp m with e | m
    · subst e; exact h _ _ q
    · exact r.right h y m
theorem loop_inv {gs : D → Env → Option Env} {body : F1 Out} {J : List D → Env → W → Prop} : ∀ {ds pre : List D} {e : Env} {w : W}, J pre e w → (∀ (a : List D) (d : D) (b : List D), ds = a ++ d :: b → ∀ e w, J (pre ++ a) e w → ∃ e1 e' w', gs d e = some e1 ∧ body e1 w = some (.nx e', w') ∧ J (pre ++ a ++ [d]) e' w') →
    ∃ e' w', loopD gs body ds e w = some (.nx e', w') ∧ J (pre ++ ds) e' w'
  | [], pre, e, w, hi, _ => ⟨e, w, rfl, by simpa using hi⟩
  | d :: ds, pre, e, w, hi, h => by
    obtain ⟨e1, e', w', a, b, c⟩ := h [] d ds rfl e w (by simpa using hi)
    obtain ⟨e2, w2, x, y⟩ := loop_inv (ds := ds) (pre := pre ++ [d]) (by simpa using c) fun p q r hq e w hj => by
      obtain ⟨e1, e', w', a, b, c⟩ := h (d :: p) q r (by rw [hq]; rfl) e w (by simpa using hj)
      exact ⟨e1, e', w', a, b, by simpa using c⟩
    exact ⟨e2, w2, by simp [loopD, a, b, x], by simpa using y⟩
/-! ints -/
theorem plainI : ∀ xs : List Int, PyData.plainAll (xs.map PyData.int) = true
  | [] => by simp [PyData.plainAll]
  | x :: xs => by simp [PyData.plainAll, PyData.plain, plainI xs]
theorem depthI : ∀ xs : List Int, PyData.depthAll (xs.map PyData.int) ≤ 1
  | [] => by simp [PyData.depthAll]
  | x :: xs => by
    have := depthI xs
    simp [PyData.depthAll, PyData.depth]
    omega
theorem okI (xs : List Int) : okD (.tuple (xs.map .int)) = true := by
  have := depthI xs
  simp only [okD, PyData.plain, plainI, PyData.depth, Bool.true_and]
  exact decide_eq_true (by omega)
theorem okI1 (x : Int) : okD (.int x) = true := by simp [okD, PyData.plain, PyData.depth]
theorem okB1 (x : Bool) : okD (.bool x) = true := by simp [okD, PyData.plain, PyData.depth]
theorem eqvI : ∀ xs ys : List Int, PyData.eqvAll (xs.map .int) (ys.map .int) = decide (xs = ys)
  | [], [] => by simp [PyData.eqvAll]
  | [], y :: ys => by simp [PyData.eqvAll]
  | x :: xs, [] => by simp [PyData.eqvAll]
  | x :: xs, y :: ys => by
    simp only [List.map_cons, PyData.eqvAll, eqvI xs ys, PyData.eqv]
    by_cases h : x = y <;> by_cases h' : xs = ys <;> simp [h, h']
@[simp] theorem v_gNeI (x y : Int) : gNe (.int x) (.int y) = some (.bool (!decide (x = y))) := by
  simp only [gNe, okI1, Bool.and_self, if_true, PyData.eqv]
  by_cases h : x = y <;> simp [h]
@[simp] theorem v_gEqI (x y : Int) : gEq (.int x) (.int y) = some (.bool (decide (x = y))) := by
  simp only [gEq, okI1, Bool.and_self, if_true, PyData.eqv]
  by_cases h : x = y <;> simp [h]
@[simp] theorem v_gNeT (xs ys : List Int) : gNe (.tuple (xs.map .int)) (.tuple (ys.map .int)) = some (.bool (!decide (xs = ys))) := by
  simp only [gNe, okI, Bool.and_self, if_true, PyData.eqv, eqvI]
@[simp] theorem v_gEqT (xs ys : List Int) : gEq (.tuple (xs.map .int)) (.tuple (ys.map .int)) = some (.bool (decide (xs = ys))) := by
  simp only [gEq, okI, Bool.and_self, if_true, PyData.eqv, eqvI]
@[simp] theorem v_gNeT0 (xs : List Int) : gNe (.tuple (xs.map .int)) (.tuple []) = some (.bool (!decide (xs = []))) := v_gNeT xs []
@[simp] theorem v_gNe00 : gNe (.tuple []) (.tuple []) = some (.bool false) := v_gNeT [] []
@[simp] theorem v_gNeC (x : Int) (xs : List Int) : gNe (.tuple (.int x :: xs.map .int)) (.tuple []) = some (.bool true) := by
  have h := v_gNeT (x :: xs) []
  simpa using h
theorem dec_lt (s : Int) : decide (s < 0) = !decide (0 ≤ s) := by
  by_cases h : 0 ≤ s
  · simp [h]
  · simp [h]; omega
theorem gNe_same {d : D} (h : okD d = true) : gNe d d = some (.bool false) := by
  have p : d.plain = true := by
    simp only [okD, Bool.and_eq_true] at h
    exact h.1
  have e := SeqAt.eqv_refl_plain d p
  simp [gNe, h, e]
@[simp] theorem v_gNeB (x y : Bool) : gNe (.bool x) (.bool y) = some (.bool (!decide (x = y))) := by
  simp only [gNe, okB1, Bool.and_self, if_true, PyData.eqv]
  cases x <;> cases y <;> rfl
theorem alikeI (x y : Int) : W.alike (.int x) (.int y) = true := by simp [W.alike]
theorem okMinI (xs : List Int) : okMin (xs.map .int) = true := by
  have := depthI xs
  simp only [okMin, plainI, Bool.true_and, Bool.and_eq_true, List.all_eq_true, List.mem_map, forall_exists_index, and_imp, decide_eq_true_eq]
  refine ⟨⟨by omega, ?_⟩, ?_⟩
  · rintro _ a _ rfl _ b _ rfl
    exact alikeI a b
  · rintro _ a _ rfl
    rfl
theorem v_gMinL (x : Int) (xs : List Int) : gMin (.list ((x :: xs).map .int)) = some (.int (xs.foldl min x)) := by
  have h := okMinI (x :: xs)
  rw [List.map_cons] at h ⊢
  simp only [gMin, gPick, h, if_true, W.minD_ints]
theorem v_gMinT (x : Int) (xs : List Int) : gMin (.tuple ((x :: xs).map .int)) = some (.int (xs.foldl min x)) := by
  have h := okMinI (x :: xs)
  rw [List.map_cons] at h ⊢
  simp only [gMin, gPick, h, if_true, W.minD_ints]
theorem v_gMaxL (x : Int) (xs : List Int) : gMax (.list ((x :: xs).map .int)) = some (.int (xs.foldl max x)) := by
  have h := okMinI (x :: xs)
  rw [List.map_cons] at h ⊢
  simp only [gMax, gPick, h, if_true, W.maxD_ints]
theorem v_gMaxT (x : Int) (xs : List Int) : gMax (.tuple ((x :: xs).map .int)) = some (.int (xs.foldl max x)) := by
  have h := okMinI (x :: xs)
  rw [List.map_cons] at h ⊢
  simp only [gMax, gPick, h, if_true, W.maxD_ints]
theorem inI (x : Int) (xs : List Int) : inD (.int x) (xs.map .int) = decide (x ∈ xs) := by
  induction xs with
  | nil => simp [inD]
  | cons y ys ih =>
    have q : inD (.int x) ((y :: ys).map .int) = (PyData.eqv (.int y) (.int x) || inD (.int x) (ys.map .int)) := rfl
    rw [q, ih]
    simp only [PyData.eqv]
    by_cases h : y = x
    · subst h
      simp
    · have h' : x ≠ y := fun e => h e.symm
      by_cases m : x ∈ ys <;> simp [h, h', m]
theorem okInI (x : Int) (xs : List Int) : okIn (.int x) (xs.map .int) = true := by simp [okIn, plainI, PyData.plain, PyData.depth]
@[simp] theorem v_gInL (n : Bool) (x : Int) (xs : List Int) : gIn n (.int x) (.list (xs.map .int)) = some (.bool (n ^^ decide (x ∈ xs))) := by simp only [gIn, okInI, if_true, inI]
@[simp] theorem v_gInT (n : Bool) (x : Int) (xs : List Int) : gIn n (.int x) (.tuple (xs.map .int)) = some (.bool (n ^^ decide (x ∈ xs))) := by simp only [gIn, okInI, if_true, inI]
theorem okSortI (xs : List Int) : okSort (xs.map .int) = true := by
  have := depthI xs
  simp only [okSort, plainI, Bool.true_and, Bool.and_eq_true, List.all_eq_true, List.mem_map, forall_exists_index, and_imp, decide_eq_true_eq, Bool.or_eq_true]
  refine ⟨⟨by omega, ?_⟩, Or.inr ?_⟩
  · rintro _ a _ rfl _ b _ rfl
    exact alikeI a b
  · rintro _ a _ rfl
    rfl
theorem srtI (xs : List Int) : srt (xs.map .int) = (xs.mergeSort).map .int := by
  unfold srt
  have h : W.dataLe false (id : D → D) = fun a b => !W.dataLt b a := rfl
  rw [← List.map_mergeSort (r := fun a b : Int => decide (a ≤ b))]
  rintro a _ b _
  have q := congrFun (congrFun (W.dataLe_int (id : Int → Int)) a) b
  exact q.symm
@[simp] theorem v_gSorted (xs : List Int) : gSorted (.list (xs.map .int)) = some (.list ((xs.mergeSort).map .int)) := by simp only [gSorted, okSortI, if_true, srtI]
theorem sort_is {l l' : List Int} (h : l.Perm l') (o : l'.Pairwise fun a b => a ≤ b) : l.mergeSort = l' := by
  refine List.Perm.eq_of_pairwise (le := fun a b => a ≤ b) (fun a b _ _ x y => by omega) ?_ o ((List.mergeSort_perm l _).trans h)
  refine (List.pairwise_mergeSort (le := fun a b : Int => decide (a ≤ b)) (fun a b c x y => ?_) (fun a b => ?_) l).imp fun x => by simpa using x
  · simp only [decide_eq_true_eq] at *; omega
  · simp only [Bool.or_eq_true, decide_eq_true_eq]; omega
theorem plainAll_mem : ∀ {ds : List D}, (∀ d ∈ ds, d.plain = true) → PyData.plainAll ds = true
  | [], _ => by simp [PyData.plainAll]
  | d :: ds, h => by simp [PyData.plainAll, h d List.mem_cons_self, plainAll_mem fun x hx => h x (List.mem_cons_of_mem _ hx)]
theorem depthAll_mem {n : Nat} : ∀ {ds : List D}, (∀ d ∈ ds, d.depth ≤ n) → PyData.depthAll ds ≤ n
  | [], _ => by simp [PyData.depthAll]
  | d :: ds, h => by
    have := h d List.mem_cons_self
    have := depthAll_mem fun x hx => h x (List.mem_cons_of_mem _ hx)
    simp only [PyData.depthAll]
    omega
theorem okD_list {n : Nat} {ds : List D} (h : ∀ d ∈ ds, d.plain = true ∧ d.depth ≤ n) (hn : n < 64) : okD (.list ds) = true := by
  have a := plainAll_mem fun d hd => (h d hd).1
  have b := depthAll_mem fun d hd => (h d hd).2
  simp only [okD, PyData.plain, a, PyData.depth, Bool.true_and]
  exact decide_eq_true (by omega)
theorem okD_tuple {n : Nat} {ds : List D} (h : ∀ d ∈ ds, d.plain = true ∧ d.depth ≤ n) (hn : n < 64) : okD (.tuple ds) = true := by
  have a := plainAll_mem fun d hd => (h d hd).1
  have b := depthAll_mem fun d hd => (h d hd).2
  simp only [okD, PyData.plain, a, PyData.depth, Bool.true_and]
  exact decide_eq_true (by omega)
/-- what is in a list is found there -/
theorem gIn_mem {n : Bool} {d : D} {ds : List D} (h : ∀ d ∈ ds, d.plain = true) (hd : d.depth ≤ 64) (m : d ∈ ds) : gIn n d (.list ds) = some (.bool (n ^^ true)) := by
  have ok : okIn d ds = true := by simp [okIn, plainAll_mem h, h d m, hd]
  have q : inD d ds = true := by
    unfold inD
    rw [List.any_eq_true]
    exact ⟨d, m, SeqAt.eqv_refl_plain d (h d m)⟩
  simp only [gIn, ok, if_true, q]
end DL

set_option autoImplicit false
namespace DL
open PySem L2
/-! the law's hand, and what is drawn from it -/
@[simp] theorem v_hix0 (e : Env) (w : W) : eHix 0 0 (.sh hnd :: e) w = some (.list (w.cells.map .int), w) := id rfl
@[simp] theorem v_hix1 (e : Env) (w : W) : eHix 0 1 (.sh hnd :: e) w = some (.int w.i, w) := id rfl
@[simp] theorem v_hix2 (e : Env) (w : W) : eHix 0 2 (.sh hnd :: e) w = some (.int w.rest, w) := id rfl
@[simp] theorem v_hix3 (e : Env) (w : W) : eHix 0 3 (.sh hnd :: e) w = some (.int w.mix, w) := id rfl
@[simp] theorem v_hix4 (e : Env) (w : W) : eHix 0 4 (.sh hnd :: e) w = some (.int w.cnt, w) := id rfl
@[simp] theorem v_hput1 (f : F1 D) (e : Env) (w : W) : sHput 0 1 f (.sh hnd :: e) w = (f (.sh hnd :: e) w).bind fun p => (asI p.1).bind fun x => some (.nx (.sh hnd :: e), { p.2 with i := x }) := by
  simp [sHput, slotSh, isHnd, hPut, hnd]
@[simp] theorem v_hput2 (f : F1 D) (e : Env) (w : W) : sHput 0 2 f (.sh hnd :: e) w = (f (.sh hnd :: e) w).bind fun p => (asI p.1).bind fun x => some (.nx (.sh hnd :: e), { p.2 with rest := x }) := by
  simp [sHput, slotSh, isHnd, hPut, hnd]
@[simp] theorem v_hput3 (f : F1 D) (e : Env) (w : W) : sHput 0 3 f (.sh hnd :: e) w = (f (.sh hnd :: e) w).bind fun p => (asI p.1).bind fun x => some (.nx (.sh hnd :: e), { p.2 with mix := x }) := by
  simp [sHput, slotSh, isHnd, hPut, hnd]
@[simp] theorem v_hput4 (f : F1 D) (e : Env) (w : W) : sHput 0 4 f (.sh hnd :: e) w = (f (.sh hnd :: e) w).bind fun p => (asI p.1).bind fun x => some (.nx (.sh hnd :: e), { p.2 with cnt := x }) := by
  simp [sHput, slotSh, isHnd, hPut, hnd]
theorem ixN_lt {n : Nat} {k : Int} (h : 0 ≤ k) (h' : k < n) : ixN n k = some k.toNat := by
  unfold ixN
  rw [if_pos h, if_pos h']
theorem atI_nat {α : Type} {xs : List α} {k : Int} (h : 0 ≤ k) (h' : k < (xs.length : Int)) : ∃ (p : k.toNat < xs.length), atI xs k = some xs[k.toNat] := by
  have hl : k.toNat < xs.length := by omega
  exact ⟨hl, by simp [atI, ixN_lt h h', List.getElem?_eq_getElem hl]⟩
theorem gIxL {xs : List D} {k : Int} (h : 0 ≤ k) (h' : k < (xs.length : Int)) : ∃ (p : k.toNat < xs.length), gIx (.list xs) (.int k) = some xs[k.toNat] := atI_nat h h'
theorem gIxT {xs : List D} {k : Int} (h : 0 ≤ k) (h' : k < (xs.length : Int)) : ∃ (p : k.toNat < xs.length), gIx (.tuple xs) (.int k) = some xs[k.toNat] := atI_nat h h'
theorem fmod_in {i j : Int} (h : 0 < j) : 0 ≤ i.fmod j ∧ i.fmod j < j := by
  rw [Int.fmod_eq_emod_of_nonneg _ (by omega)]
  exact ⟨Int.emod_nonneg _ (by omega), Int.emod_lt_of_pos _ h⟩
def yDraw : F1 Out := (sSeq (sIf (bAnd (bV (e2 gEq (eHix 0 2) (eC (.int 0)))) (bV (e2 gLt (eHix 0 1) (e1 gLen (eHix 0 0))))) (sSeq (sSet 3 (e2 gIx (eHix 0 0) (eHix 0 1))) 
    (sSeq (sHput 0 1 (e2 gAdd (eHix 0 1) (eC (.int 1)))) 
    (sSeq (sHput 0 3 (e2 gMod (e1 gToInt (e2 gAdd (e2 gAdd (e2 gMul (eHix 0 3) (eC (.int 69621))) (e2 gMul (eVar 3) (eC (.int 40692)))) (eC (.int 31)))) (eC (.int 2147483629)))) 
    (sIf (bV (e2 gGe (eVar 3) (e2 gPow (eC (.int 10)) (eC (.int 18))))) (sHput 0 2 (eVar 3)) sNext)))) sNext) 
    (sSeq (sIf (bV (e2 gGt (eHix 0 2) (eC (.int 0)))) (sSeq (sSet 4 (e2 gMod (e1 gToInt (eHix 0 2)) (eVar 1))) 
    (sSeq (sHput 0 2 (e2 gDiv (eHix 0 2) (eVar 1))) 
    (sRet (eVar 4)))) sNext) 
    (sSeq (sHput 0 4 (e2 gAdd (eHix 0 4) (eC (.int 1)))) 
    (sSeq (sSet 2 (e2 gMod (e1 gToInt (e2 gMul (e1 gToInt (e2 gAdd (eHix 0 3) (e2 gMul (eC (.int 7919)) (eHix 0 4)))) (eC (.int 48271)))) (eC (.int 2147483647)))) 
    (sSeq (sSet 2 (e2 gMod (e1 gToInt (e2 gMul (eVar 2) (e2 gAdd (e2 gDiv (eVar 2) (eC (.int 1009))) (eC (.int 69621))))) (eC (.int 2147483647)))) 
    (sSeq (sSet 2 (e2 gMod (e1 gToInt (e2 gMul (eVar 2) (e2 gAdd (e2 gDiv (eVar 2) (eC (.int 2003))) (eC (.int 40014))))) (eC (.int 2147483563)))) 
    (sRet (e2 gMod (e1 gToInt (e2 gDiv (eVar 2) (eC (.int 16)))) (eVar 1)))))))))
def dDraw : List D → W → Option (D × W) := fnD 5 yDraw
abbrev WOk (w : W) : Prop := 0 ≤ w.i
def yDraw1 : F1 Out := sIf (bAnd (bV (e2 gEq (eHix 0 2) (eC (.int 0)))) (bV (e2 gLt (eHix 0 1) (e1 gLen (eHix 0 0))))) (sSeq (sSet 3 (e2 gIx (eHix 0 0) (eHix 0 1)))
    (sSeq (sHput 0 1 (e2 gAdd (eHix 0 1) (eC (.int 1))))
    (sSeq (sHput 0 3 (e2 gMod (e1 gToInt (e2 gAdd (e2 gAdd (e2 gMul (eHix 0 3) (eC (.int 69621))) (e2 gMul (eVar 3) (eC (.int 40692)))) (eC (.int 31)))) (eC (.int 2147483629))))
    (sIf (bV (e2 gGe (eVar 3) (e2 gPow (eC (.int 10)) (eC (.int 18))))) (sHput 0 2 (eVar 3)) sNext)))) sNext
theorem gPow1018 : gPow (.int 10) (.int 18) = some (.int 1000000000000000000) := by
  have a : powOk 10 18 = true := by decide
  simp only [gInt2, a, if_true]
  rfl
theorem draw1 (w : W) (m : Int) (hw : WOk w) : ∃ s w', yDraw1 [.sh hnd, .sh (.int m), .no, .no, .no] w = some (.nx [.sh hnd, .sh (.int m), .no, s, .no], w') ∧ WOk w' := by
  unfold yDraw1
  by_cases h : w.rest = 0 ∧ w.i < (w.cells.length : Int)
  · obtain ⟨h0, h1⟩ := h
    obtain ⟨p, q⟩ := gIxL (xs := w.cells.map .int) hw (by simpa using h1)
    rw [List.getElem_map] at q
    have a1 := fun i : Int => v_gMul (i := i) (j := 69621) (mulOk_r (by decide))
    have a2 := fun i : Int => v_gMul (i := i) (j := 40692) (mulOk_r (by decide))
    have a3 := fun i : Int => v_gMod (i := i) (j := 2147483629) (by decide)
    by_cases g : (1000000000000000000 : Int) ≤ w.cells[w.i.toNat]'(by simpa using p)
    · refine ⟨.sh (.int (w.cells[w.i.toNat]'(by simpa using p))), ?_⟩
      simp [h0, h1, q, a1, a2, a3, gPow1018, g]
      show (0 : Int) ≤ w.i + 1
      have : (0 : Int) ≤ w.i := hw
      omega
    · refine ⟨.sh (.int (w.cells[w.i.toNat]'(by simpa using p))), ?_⟩
      simp [h0, h1, q, a1, a2, a3, gPow1018, g]
      show (0 : Int) ≤ w.i + 1
      have : (0 : Int) ≤ w.i := hw
      omega
  · refine ⟨.no, w, ?_, hw⟩
    by_cases h0 : w.rest = 0
    · have h1 : ¬ w.i < (w.cells.length : Int) := fun h1 => h ⟨h0, h1⟩
      simp [h0, h1]
    · simp [h0]
theorem draw_ok {w : W} {m : Int} (hw : WOk w) (h1 : 1 ≤ m) (h2 : m < 1073741824) : ∃ r w', dDraw [hnd, .int m] w = some (.int r, w') ∧ 0 ≤ r ∧ r < m ∧ WOk w' := by
  obtain ⟨s, w1, e1, k1⟩ := draw1 w m hw
  have am := fun i : Int => v_gMod (i := i) (j := m) (by omega)
  have ad := fun i : Int => v_gDiv (i := i) (j := m) (by omega) (by omega) (by omega)
  unfold dDraw
  by_cases g : (0 : Int) < w1.rest
  · refine ⟨w1.rest.fmod m, { w1 with rest := w1.rest.fdiv m }, fnD_rt ?_, (fmod_in (by omega)).1, (fmod_in (by omega)).2, k1⟩
    refine seq_nx e1 ?_
    simp [g, am, ad]
  · have b1 := fun i : Int => v_gMul (i := (7919 : Int)) (j := i) (mulOk_l (by decide))
    have b2 := fun i : Int => v_gMul (i := i) (j := 48271) (mulOk_r (by decide))
    have b3 := fun i : Int => v_gMod (i := i) (j := 2147483647) (by decide)
    have b4 := fun i : Int => v_gMod (i := i) (j := 2147483563) (by decide)
    have b5 := fun i : Int => v_gDiv (i := i) (j := 1009) (by decide) (by decide) (by decide)
    have b6 := fun i : Int => v_gDiv (i := i) (j := 2003) (by decide) (by decide) (by decide)
    have b7 := fun i : Int => v_gDiv (i := i) (j := 16) (by decide) (by decide) (by decide)
    have b8 := fun i j : Int => v_gMul (i := i.fmod 2147483647) (j := j) (mulOk_l (by have := fmod_in (i := i) (j := 2147483647) (by decide); exact small_of (by omega) (by omega)))
    refine ⟨((((((((w1.mix + 7919 * (w1.cnt + 1)) * 48271).fmod 2147483647) * ((((w1.mix + 7919 * (w1.cnt + 1)) * 48271).fmod 2147483647).fdiv 1009 + 69621)).fmod 2147483647) * ((((((w1.mix + 7919 * (w1.cnt + 1)) * 48271).fmod 2147483647) * ((((w1.mix + 7919 * (w1.cnt + 1)) * 48271).fmod 2147483647).fdiv 1009 + 69621)).fmod 2147483647).fdiv 2003 + 40014)).fmod 2147483563).fdiv 16).fmod m, { w1 with cnt := w1.cnt + 1 }, fnD_rt ?_, ?_, ?_, ?_⟩
    · refine seq_nx e1 ?_
      simp [g, am, b1, b2, b3, b4, b5, b6, b7, b8]
    · exact (fmod_in (by omega)).1
    · exact (fmod_in (by omega)).2
    · exact k1
def yAny : F1 Out := sRet (e2 gIx (eVar 1) (eCall dDraw (eA (eVar 0) (eA (e1 gLen (eVar 1)) eA0))))
def dAny : List D → W → Option (D × W) := fnD 2 yAny
theorem any_ok {w : W} {xs : List D} (hw : WOk w) (h : xs ≠ []) (h2 : xs.length < 100000) : ∃ x w', x ∈ xs ∧ dAny [hnd, .list xs] w = some (x, w') ∧ WOk w' := by
  have hl : 0 < xs.length := List.length_pos_iff.mpr h
  obtain ⟨r, w', e, a, b, k⟩ := draw_ok (w := w) (m := xs.length) hw (by omega) (by omega)
  obtain ⟨p, q⟩ := gIxL a b
  refine ⟨xs[r.toNat], w', List.getElem_mem p, fnD_rt (ret_ok ?_), k⟩
  simp [e, q]
theorem any_int {w : W} {xs : List Int} (hw : WOk w) (h : xs ≠ []) (h2 : xs.length < 100000) : ∃ x w', x ∈ xs ∧ dAny [hnd, .list (xs.map .int)] w = some (.int x, w') ∧ WOk w' := by
  obtain ⟨x, w', m, e, k⟩ := any_ok (w := w) (xs := xs.map .int) hw (by simpa using h) (by simpa using h2)
  obtain ⟨y, hy, rfl⟩ := List.mem_map.mp m
  exact ⟨y, w', hy, e, k⟩
end DL

set_option autoImplicit false
namespace DL
open PySem L2
/-! fractions in lowest terms: the shared words of the program, and what they tell -/
theorem half_rest {a b : Nat} (hb : 0 < b) : ∀ {r : Nat}, r = a % b → 0 < r → 2 * (b % r) < b := by
  intro r hr h0
  have h1 : r < b := hr ▸ Nat.mod_lt _ hb
  by_cases c : 2 * r ≤ b
  · have := Nat.mod_lt b h0; omega
  · have : b % r = b - r := by rw [Nat.mod_eq_sub_mod (by omega), Nat.mod_eq_of_lt (by omega)]
    omega
/-- Euclid's loop, whatever its slots -/
theorem euclid {fc : F1 Bool} {body : F1 Out} {E : Nat → Nat → DL.Env} (ht : ∀ a b w, fc (E a b) w = some (decide (0 < b), w)) (hb : ∀ a b w, 0 < b → body (E a b) w = some (.nx (E b (a % b)), w)) :
    ∀ (k n a b : Nat) (w : W), b < 2 ^ k → 2 * k + 1 ≤ n → whD fc body n (E a b) w = some (.nx (E (Nat.gcd a b) 0), w)
  | k, 0, _, _, _, _, hn => by omega
  | k, n + 1, a, 0, w, _, _ => by
    simp only [whD, ht]
    simp
  | 0, n + 1, a, b + 1, w, h, _ => by simp at h
  | k + 1, n + 1, a, b + 1, w, h, hn => by
    rw [whD, ht]
    simp only [b_some, Nat.succ_pos, decide_true, if_true, hb a (b + 1) w (Nat.succ_pos _)]
    rw [Nat.gcd_comm, Nat.gcd_rec]
    generalize hr : a % (b + 1) = r
    match n, hn with
    | 0, hn => omega
    | n + 1, hn =>
      by_cases r0 : r = 0
      · subst r0
        simp only [whD, ht]
        simp
      · rw [whD, ht]
        have rp : 0 < r := by omega
        simp only [b_some, rp, decide_true, if_true, hb (b + 1) r w rp]
        have hh := half_rest (a := a) (b := b + 1) (Nat.succ_pos _) hr.symm rp
        have h2 : (b + 1) % r < 2 ^ k := by rw [Nat.pow_succ] at h; omega
        rw [euclid ht hb k n r ((b + 1) % r) w h2 (by omega)]
        rw [Nat.gcd_rec r (b + 1), Nat.gcd_comm]
def fr (a b : Int) : D := .tuple [.int (Rat.divInt a b).num, .int ((Rat.divInt a b).den : Int)]
theorem fr_eq {a b c d : Int} (hb : b ≠ 0) (hd : d ≠ 0) (h : a * d = c * b) : fr a b = fr c d := by
  unfold fr
  rw [(Rat.divInt_eq_divInt_iff hb hd).mpr h]
theorem fr_iff {a b c d : Int} (hb : b ≠ 0) (hd : d ≠ 0) : fr a b = fr c d ↔ a * d = c * b := by
  refine ⟨fun h => (Rat.divInt_eq_divInt_iff hb hd).mp ?_, fr_eq hb hd⟩
  simp only [fr, PyData.tuple.injEq, List.cons.injEq, PyData.int.injEq, and_true] at h
  exact Rat.ext h.1 (by omega)
/-- numerator and denominator beside what they come of -/
theorem fr_parts (a : Int) {b : Int} (hb : 0 < b) : ∃ g : Int, 0 < g ∧ a = (Rat.divInt a b).num * g ∧ b = ((Rat.divInt a b).den : Int) * g := by
  have g0 : 0 < b.gcd a := by rw [Int.gcd_pos_iff]; exact Or.inl (by omega)
  refine ⟨(b.gcd a : Int), by omega, ?_, ?_⟩
  · rw [Rat.num_divInt, Int.sign_eq_one_of_pos hb, Int.one_mul, Int.ediv_mul_cancel (Int.gcd_dvd_right ..)]
  · rw [Rat.den_divInt, if_neg (by omega)]
    have d1 : b.gcd a ∣ b.natAbs := Int.natAbs_dvd_natAbs.mpr (Int.gcd_dvd_left ..) |> fun h => by simpa using h
    have : ((b.natAbs / b.gcd a : Nat) : Int) * (b.gcd a : Int) = (b.natAbs : Int) := by
      rw [← Int.natCast_mul, Nat.div_mul_cancel d1]
    rw [this]; omega
theorem fr_cross (a : Int) {b : Int} (hb : 0 < b) : (Rat.divInt a b).num * b = a * ((Rat.divInt a b).den : Int) := by
  obtain ⟨g, g0, h1, h2⟩ := fr_parts a hb
  generalize (Rat.divInt a b).num = n at h1
  generalize ((Rat.divInt a b).den : Int) = d at h2
  subst h1 h2
  simp [Int.mul_comm, Int.mul_left_comm]
theorem fr_den (a : Int) {b : Int} (hb : 0 < b) : 0 < ((Rat.divInt a b).den : Int) ∧ ((Rat.divInt a b).den : Int) ≤ b := by
  obtain ⟨g, g0, h1, h2⟩ := fr_parts a hb
  have h0 : 0 < (Rat.divInt a b).den := (Rat.divInt a b).den_pos
  refine ⟨by omega, ?_⟩
  have := Int.mul_le_mul_of_nonneg_left (show 1 ≤ g by omega) (show 0 ≤ ((Rat.divInt a b).den : Int) by omega)
  omega
theorem fr_num (a : Int) {b : Int} (hb : 0 < b) : ((Rat.divInt a b).num).natAbs ≤ a.natAbs := by
  obtain ⟨g, g0, h1, h2⟩ := fr_parts a hb
  have : a.natAbs = (Rat.divInt a b).num.natAbs * g.natAbs := by rw [← Int.natAbs_mul, ← h1]
  rw [this]
  exact Nat.le_mul_of_pos_right _ (by omega)
theorem fr_num_sign (a : Int) {b : Int} (hb : 0 < b) : ((Rat.divInt a b).num = 0 ↔ a = 0) ∧ ((Rat.divInt a b).num < 0 ↔ a < 0) := by
  obtain ⟨g, g0, h1, h2⟩ := fr_parts a hb
  generalize (Rat.divInt a b).num = n at h1
  subst h1
  constructor
  · constructor
    · rintro rfl; simp
    · intro h
      rcases Int.mul_eq_zero.mp h with h | h
      · exact h
      · omega
  · constructor
    · intro h; exact Int.mul_neg_of_neg_of_pos h g0
    · intro h
      by_cases c : n < 0
      · exact c
      · have := Int.mul_nonneg (show 0 ≤ n by omega) (show 0 ≤ g by omega)
        omega
@[simp] theorem fr_ix0 (a b : Int) : gIx (fr a b) (.int 0) = some (.int (Rat.divInt a b).num) := v_gIx0T _ _
@[simp] theorem fr_ix1 (a b : Int) : gIx (fr a b) (.int 1) = some (.int ((Rat.divInt a b).den : Int)) := by
  show atI _ 1 = _
  simp [atI, ixN]
theorem fr_plain (a b : Int) : (fr a b).plain = true ∧ (fr a b).depth ≤ 2 := by simp [fr, PyData.plain, PyData.plainAll, PyData.depth, PyData.depthAll]
theorem okFr (a b : Int) : okD (fr a b) = true := okI [_, _]
theorem okFrs {α : Type} (xs : List α) (p q : α → Int) : okD (.list (xs.map fun x => fr (p x) (q x))) = true :=
  okD_list (n := 2) (fun d hd => by obtain ⟨x, _, rfl⟩ := List.mem_map.mp hd; exact fr_plain _ _) (by decide)
@[simp] theorem gNe_fr (a b : Int) : gNe (fr a b) (fr a b) = some (.bool false) := gNe_same (okFr a b)
@[simp] theorem gEq_fr (a b : Int) : gEq (fr a b) (fr a b) = some (.bool true) := by
  have h := okFr a b
  have e := SeqAt.eqv_refl_plain _ (fr_plain a b).1
  simp [gEq, h, e]
@[simp] theorem pr_ix0 (a b : D) : gIx (.tuple [a, b]) (.int 0) = some a := v_gIx0T _ _
@[simp] theorem pr_ix1 (a b : D) : gIx (.tuple [a, b]) (.int 1) = some b := by
  show atI _ 1 = _
  simp [atI, ixN]
def yIsInteger : F1 Out := (sRet (eAndV (e1 (gIsi "int") (eVar 0)) (eNotV (e1 (gIsi "bool") (eVar 0)))))
def dIsInteger : List D → W → Option (D × W) := fnD 1 yIsInteger
def yIsWithin : F1 Out := (sRet (eAndV (eCall dIsInteger (eA (eVar 0) eA0)) (eChn pLe pLe (eVar 1) (eVar 0) (eVar 2))))
def dIsWithin : List D → W → Option (D × W) := fnD 3 yIsWithin
def yIsSized : F1 Out := (sRet (eAndV (e1 (gIsi "tuple") (eVar 0)) (eChn pLe pLe (eVar 1) (e1 gLen (eVar 0)) (eVar 2))))
def dIsSized : List D → W → Option (D × W) := fnD 3 yIsSized
def yCommon : F1 Out := (sSeq (sPar 0 1 false false (eA (e1 gAbs (eVar 0)) (eA (e1 gAbs (eVar 1)) eA0))) 
    (sSeq (sWhile 100000 (bV (e2 gGt (eVar 1) (eC (.int 0)))) 
    (sPar 0 1 false false (eA (eVar 1) (eA (e2 gMod (eVar 0) (eVar 1)) eA0)))) 
    (sRet (eVar 0))))
def dCommon : List D → W → Option (D × W) := fnD 2 yCommon
def yFraction : F1 Out := (sSeq (sSet 2 (eIf (bV (e2 gGt (eVar 1) (eC (.int 0)))) (eCall dCommon (eA (eVar 0) (eA (eVar 1) eA0))) (e1 gNeg (eCall dCommon (eA (eVar 0) (eA (eVar 1) eA0)))))) 
    (sRet (eTup (eA (e2 gDiv (eVar 0) (eVar 2)) (eA (e2 gDiv (eVar 1) (eVar 2)) eA0)))))
def dFraction : List D → W → Option (D × W) := fnD 3 yFraction
def yIsFraction : F1 Out := (sSeq (sIf (bOr (bNot (bV (eCall dIsSized (eA (eVar 0) (eA (eC (.int 2)) (eA (eC (.int 2)) eA0)))))) (bOr (bNot (bV (e1 gAll (eLc [1] (iItems (eVar 0)) (gSet 1) bYes (eCall dIsInteger (eA (eVar 1) eA0)))))) (bV (e2 gLt (e2 gIx (eVar 0) (eC (.int 1))) (eC (.int 1)))))) (sRet (eC (.bool false))) sNext) 
    (sRet (e2 gEq (eCall dCommon (eA (e2 gIx (eVar 0) (eC (.int 0))) (eA (e2 gIx (eVar 0) (eC (.int 1))) eA0))) (eC (.int 1)))))
def dIsFraction : List D → W → Option (D × W) := fnD 2 yIsFraction
def yPlus : F1 Out := (sRet (eCall dFraction (eA (e2 gAdd (e2 gMul (e2 gIx (eVar 0) (eC (.int 0))) (e2 gIx (eVar 1) (eC (.int 1)))) (e2 gMul (e2 gIx (eVar 1) (eC (.int 0))) (e2 gIx (eVar 0) (eC (.int 1))))) (eA (e2 gMul (e2 gIx (eVar 0) (eC (.int 1))) (e2 gIx (eVar 1) (eC (.int 1)))) eA0))))
def dPlus : List D → W → Option (D × W) := fnD 2 yPlus
def yMinus : F1 Out := (sRet (eCall dFraction (eA (e2 gSub (e2 gMul (e2 gIx (eVar 0) (eC (.int 0))) (e2 gIx (eVar 1) (eC (.int 1)))) (e2 gMul (e2 gIx (eVar 1) (eC (.int 0))) (e2 gIx (eVar 0) (eC (.int 1))))) (eA (e2 gMul (e2 gIx (eVar 0) (eC (.int 1))) (e2 gIx (eVar 1) (eC (.int 1)))) eA0))))
def dMinus : List D → W → Option (D × W) := fnD 2 yMinus
def yTimes : F1 Out := (sRet (eCall dFraction (eA (e2 gMul (e2 gIx (eVar 0) (eC (.int 0))) (e2 gIx (eVar 1) (eC (.int 0)))) (eA (e2 gMul (e2 gIx (eVar 0) (eC (.int 1))) (e2 gIx (eVar 1) (eC (.int 1)))) eA0))))
def dTimes : List D → W → Option (D × W) := fnD 2 yTimes
def yOver : F1 Out := (sRet (eCall dFraction (eA (e2 gMul (e2 gIx (eVar 0) (eC (.int 0))) (e2 gIx (eVar 1) (eC (.int 1)))) (eA (e2 gMul (e2 gIx (eVar 0) (eC (.int 1))) (e2 gIx (eVar 1) (eC (.int 0)))) eA0))))
def dOver : List D → W → Option (D × W) := fnD 2 yOver
def yLFrac : F1 Out := (sSeq (sPar 2 3 false false (eA (e1 gAbs (eVar 0)) (eA (eVar 1) eA0))) 
    (sSeq (sWhile 100000 (bV (e2 gGt (eVar 2) (eC (.int 0)))) 
    (sPar 2 3 false false (eA (e2 gMod (e1 gToInt (eVar 3)) (eVar 2)) (eA (eVar 2) eA0)))) 
    (sRet (eTup (eA (e2 gDiv (eVar 0) (eVar 3)) (eA (e2 gDiv (eVar 1) (eVar 3)) eA0))))))
def dLFrac : List D → W → Option (D × W) := fnD 4 yLFrac
def yLPlus : F1 Out := (sRet (eCall dLFrac (eA (e2 gAdd (e2 gMul (e2 gIx (eVar 0) (eC (.int 0))) (e2 gIx (eVar 1) (eC (.int 1)))) (e2 gMul (e2 gIx (eVar 1) (eC (.int 0))) (e2 gIx (eVar 0) (eC (.int 1))))) (eA (e2 gMul (e2 gIx (eVar 0) (eC (.int 1))) (e2 gIx (eVar 1) (eC (.int 1)))) eA0))))
def dLPlus : List D → W → Option (D × W) := fnD 2 yLPlus
def yLMinus : F1 Out := (sRet (eCall dLFrac (eA (e2 gSub (e2 gMul (e2 gIx (eVar 0) (eC (.int 0))) (e2 gIx (eVar 1) (eC (.int 1)))) (e2 gMul (e2 gIx (eVar 1) (eC (.int 0))) (e2 gIx (eVar 0) (eC (.int 1))))) (eA (e2 gMul (e2 gIx (eVar 0) (eC (.int 1))) (e2 gIx (eVar 1) (eC (.int 1)))) eA0))))
def dLMinus : List D → W → Option (D × W) := fnD 2 yLMinus
def yLTimes : F1 Out := (sRet (eCall dLFrac (eA (e2 gMul (e2 gIx (eVar 0) (eC (.int 0))) (e2 gIx (eVar 1) (eC (.int 0)))) (eA (e2 gMul (e2 gIx (eVar 0) (eC (.int 1))) (e2 gIx (eVar 1) (eC (.int 1)))) eA0))))
def dLTimes : List D → W → Option (D × W) := fnD 2 yLTimes
def yLOver : F1 Out := (sSeq (sPar 2 3 false false (eA (e2 gMul (e2 gIx (eVar 0) (eC (.int 0))) (e2 gIx (eVar 1) (eC (.int 1)))) (eA (e2 gMul (e2 gIx (eVar 0) (eC (.int 1))) (e2 gIx (eVar 1) (eC (.int 0)))) eA0))) 
    (sRet (eIf (bV (e2 gGt (eVar 3) (eC (.int 0)))) (eCall dLFrac (eA (eVar 2) (eA (eVar 3) eA0))) (eCall dLFrac (eA (e2 gSub (eC (.int 0)) (eVar 2)) (eA (e2 gSub (eC (.int 0)) (eVar 3)) eA0))))))
def dLOver : List D → W → Option (D × W) := fnD 4 yLOver

theorem isInteger_ok (n : Int) (w : W) : dIsInteger [.int n] w = some (.bool true, w) := by simp [dIsInteger, yIsInteger, fnD]
theorem isWithin_ok (n a b : Int) (w : W) : dIsWithin [.int n, .int a, .int b] w = some (.bool (decide (a ≤ n) && decide (n ≤ b)), w) := by
  by_cases h : a ≤ n <;> simp [dIsWithin, yIsWithin, fnD, isInteger_ok, h]
theorem isSized_ok (ds : List D) (a b : Int) (w : W) : dIsSized [.tuple ds, .int a, .int b] w = some (.bool (decide (a ≤ ds.length) && decide ((ds.length : Int) ≤ b)), w) := by
  by_cases h : a ≤ (ds.length : Int) <;> simp [dIsSized, yIsSized, fnD, h]
theorem abs_nat (a : Int) : (if a < 0 then -a else a) = (a.natAbs : Int) := by split <;> omega
theorem gcd_nat (a b : Int) : (Nat.gcd a.natAbs b.natAbs : Int) = (Int.gcd a b : Int) := rfl
theorem common_ok {k : Nat} {a b : Int} (hb : b.natAbs < 2 ^ k) (hk : 2 * k + 1 ≤ 100000) (w : W) : dCommon [.int a, .int b] w = some (.int (Int.gcd a b), w) := by
  have e := euclid (fc := bV (e2 gGt (eVar 1) (eC (.int 0)))) (body := sPar 0 1 false false (eA (eVar 1) (eA (e2 gMod (eVar 0) (eVar 1)) eA0))) (E := fun a b => [.sh (.int (a : Int)), .sh (.int (b : Int))])
    (fun a b w => by simp) (fun a b w h => by
      have q := v_gMod (i := (a : Int)) (j := (b : Int)) (by omega)
      rw [Int.fmod_eq_emod_of_nonneg _ (by omega), ← Int.natCast_emod] at q
      exact par_ok (by simp [q])) k 100000 a.natAbs b.natAbs w hb hk
  refine fnD_rt (seq_nx (e' := [.sh (.int (a.natAbs : Int)), .sh (.int (b.natAbs : Int))]) (w' := w) ?_ (seq_nx e ?_))
  · exact par_ok (by simp [abs_nat])
  · simp [gcd_nat]
theorem lt_pow30 {n : Nat} (h : n < 1073741824) : n < 2 ^ 30 := h
/-- top and bottom through what both have in common -/
theorem parts_ok {a b : Int} (h0 : b ≠ 0) : (Int.gcd a b : Int) ≠ 0 ∧ fr a b = .tuple [.int (a.fdiv (if 0 < b then (Int.gcd a b : Int) else -(Int.gcd a b : Int))), .int (b.fdiv (if 0 < b then (Int.gcd a b : Int) else -(Int.gcd a b : Int)))] := by
  have g0 : 0 < Int.gcd a b := by rw [Int.gcd_pos_iff]; exact Or.inr h0
  have da : (Int.gcd a b : Int) ∣ a := Int.gcd_dvd_left ..
  have db : (Int.gcd a b : Int) ∣ b := Int.gcd_dvd_right ..
  refine ⟨by omega, ?_⟩
  unfold fr
  rw [Rat.num_divInt, Rat.den_divInt, if_neg h0, Int.gcd_comm b a]
  by_cases c : 0 < b
  · rw [if_pos c, Int.sign_eq_one_of_pos c, Int.one_mul, Int.fdiv_eq_ediv_of_dvd da, Int.fdiv_eq_ediv_of_dvd db]
    have : ((b.natAbs / Int.gcd a b : Nat) : Int) = b / (Int.gcd a b : Int) := by
      rw [Int.natCast_ediv]
      congr 1
      omega
    rw [this]
  · have hn : b < 0 := by omega
    have na : -(Int.gcd a b : Int) ∣ a := Int.neg_dvd.mpr da
    have nb : -(Int.gcd a b : Int) ∣ b := Int.neg_dvd.mpr db
    rw [if_neg c, Int.sign_eq_neg_one_of_neg hn, Int.fdiv_eq_ediv_of_dvd na, Int.fdiv_eq_ediv_of_dvd nb, Int.ediv_neg, Int.ediv_neg]
    have h1 : -1 * a / (Int.gcd a b : Int) = -(a / (Int.gcd a b : Int)) := by
      rw [Int.neg_one_mul, Int.neg_ediv_of_dvd da]
    have h2 : ((b.natAbs / Int.gcd a b : Nat) : Int) = -(b / (Int.gcd a b : Int)) := by
      rw [Int.natCast_ediv, ← Int.neg_ediv_of_dvd db]
      congr 1
      omega
    rw [h1, h2]
theorem gcd_le {a b : Int} (h0 : b ≠ 0) : Int.gcd a b ≤ b.natAbs := Nat.le_of_dvd (by omega) (Int.natAbs_dvd_natAbs.mpr (Int.gcd_dvd_right a b) |> fun h => by simpa using h)
/-- the fraction of two numbers: b below 2^k, what both have in common below 2^30 -/
theorem fraction_gen {k : Nat} {a b : Int} (h0 : b ≠ 0) (hb : b.natAbs < 2 ^ k) (hk : 2 * k + 1 ≤ 100000) (hg : Int.gcd a b < 1073741824) (w : W) : dFraction [.int a, .int b] w = some (fr a b, w) := by
  obtain ⟨g0, e⟩ := parts_ok (a := a) h0
  have q := common_ok (a := a) hb hk w
  rw [e]
  by_cases c : 0 < b
  · rw [if_pos c]
    have d := fun i : Int => v_gDiv (i := i) (j := (Int.gcd a b : Int)) (by omega) (by omega) (by omega)
    refine fnD_rt (seq_nx (set_ok (d := .int (Int.gcd a b)) (w' := w) (by simp [q, c])) ?_)
    simp [d]
  · rw [if_neg c]
    have d := fun i : Int => v_gDiv (i := i) (j := -(Int.gcd a b : Int)) (by omega) (by omega) (by omega)
    refine fnD_rt (seq_nx (set_ok (d := .int (-(Int.gcd a b : Int))) (w' := w) (by simp [q, c])) ?_)
    simp [d]
theorem fraction_ok {a b : Int} (h0 : b ≠ 0) (hb : b.natAbs < 1073741824) (w : W) : dFraction [.int a, .int b] w = some (fr a b, w) :=
  fraction_gen h0 (lt_pow30 hb) (by decide) (by have := gcd_le (a := a) h0; omega) w
theorem lfrac_gen {k : Nat} {a b : Int} (h0 : 0 < b) (ha : a.natAbs < 2 ^ k) (hk : 2 * k + 1 ≤ 100000) (hg : Int.gcd a b < 1073741824) (w : W) : dLFrac [.int a, .int b] w = some (fr a b, w) := by
  obtain ⟨g0, e⟩ := parts_ok (a := a) (b := b) (by omega)
  have c := euclid (fc := bV (e2 gGt (eVar 2) (eC (.int 0)))) (body := sPar 2 3 false false (eA (e2 gMod (e1 gToInt (eVar 3)) (eVar 2)) (eA (eVar 2) eA0))) (E := fun x y => [.sh (.int a), .sh (.int b), .sh (.int (y : Int)), .sh (.int (x : Int))])
    (fun a b w => by simp) (fun a b w h => by
      have q := v_gMod (i := (a : Int)) (j := (b : Int)) (by omega)
      rw [Int.fmod_eq_emod_of_nonneg _ (by omega), ← Int.natCast_emod] at q
      exact par_ok (by simp [q])) k 100000 b.natAbs a.natAbs w ha hk
  have gg : (Nat.gcd b.natAbs a.natAbs : Int) = (Int.gcd a b : Int) := by rw [Nat.gcd_comm]; rfl
  rw [e, if_pos h0]
  have d := fun i : Int => v_gDiv (i := i) (j := (Int.gcd a b : Int)) (by omega) (by omega) (by omega)
  have bb : (b.natAbs : Int) = b := by omega
  refine fnD_rt (seq_nx (e' := [.sh (.int a), .sh (.int b), .sh (.int (a.natAbs : Int)), .sh (.int (b.natAbs : Int))]) (w' := w) ?_ (seq_nx c ?_))
  · exact par_ok (by simp [abs_nat, bb])
  · simp [gg, d]
theorem lfrac_ok {a b : Int} (h0 : 0 < b) (ha : a.natAbs < 18446744073709551616) (hb : b < 1073741824) (w : W) : dLFrac [.int a, .int b] w = some (fr a b, w) :=
  lfrac_gen (k := 64) h0 ha (by decide) (by have := gcd_le (a := a) (b := b) (by omega); omega) w
theorem mul_abs {x y : Int} {A B : Nat} (hx : x.natAbs ≤ A) (hy : y.natAbs ≤ B) : (x * y).natAbs ≤ A * B := by
  rw [Int.natAbs_mul]
  exact Nat.mul_le_mul hx hy
theorem small_abs {x : Int} (h : x.natAbs < 18446744073709551616) : small x = true := small_of (by omega) (by omega)
/-- a fraction whose top and bottom are of no great size -/
structure FrOk (a b : Int) : Prop where
  pos : 0 < b
  bot : b < 1073741824
  top : a.natAbs < 2147483648
structure FrParts (a b n d : Int) : Prop where
  cross : n * b = a * d
  pos : 0 < d
  le : d ≤ b
  top : n.natAbs ≤ a.natAbs
theorem fr_P {a b : Int} (hb : 0 < b) : FrParts a b (Rat.divInt a b).num ((Rat.divInt a b).den : Int) := ⟨fr_cross a hb, (fr_den a hb).1, (fr_den a hb).2, fr_num a hb⟩
theorem mul_ok_num {a b n d j : Int} (h : FrOk a b) (p : FrParts a b n d) : gMul (.int n) (.int j) = some (.int (n * j)) := v_gMul (mulOk_l (small_abs (by have := h.top; have := p.top; omega)))
theorem mul_ok_den {a b n d j : Int} (h : FrOk a b) (p : FrParts a b n d) : gMul (.int d) (.int j) = some (.int (d * j)) := v_gMul (mulOk_l (small_of (by have := p.pos; omega) (by have := h.bot; have := p.le; omega)))
theorem den_mul {b d x y : Int} (h1 : 0 < x) (h2 : x ≤ b) (h3 : 0 < y) (h4 : y ≤ d) : 0 < x * y ∧ x * y ≤ b * d := ⟨Int.mul_pos h1 h3, Int.mul_le_mul h2 h4 (by omega) (by omega)⟩
section
variable {a b c d : Int} (w : W)
theorem plus_ok (h : FrOk a b) (k : FrOk c d) (hbd : b * d < 1073741824) : dPlus [fr a b, fr c d] w = some (fr (a * d + c * b) (b * d), w) := by
  have p := fr_P (a := a) h.pos
  have q := fr_P (a := c) k.pos
  have m1 := fun j => mul_ok_num (j := j) h p
  have m2 := fun j => mul_ok_num (j := j) k q
  have m3 := fun j => mul_ok_den (j := j) h p
  obtain ⟨z1, z2⟩ := den_mul p.pos p.le q.pos q.le
  have f := fraction_ok (a := (Rat.divInt a b).num * ((Rat.divInt c d).den : Int) + (Rat.divInt c d).num * ((Rat.divInt a b).den : Int)) (b := ((Rat.divInt a b).den : Int) * ((Rat.divInt c d).den : Int)) (by omega) (by omega) w
  have e : fr ((Rat.divInt a b).num * ((Rat.divInt c d).den : Int) + (Rat.divInt c d).num * ((Rat.divInt a b).den : Int)) (((Rat.divInt a b).den : Int) * ((Rat.divInt c d).den : Int)) = fr (a * d + c * b) (b * d) := by
    refine fr_eq (by omega) (by have := Int.mul_pos h.pos k.pos; omega) ?_
    have c1 := p.cross
    have c2 := q.cross
    grind
  rw [e] at f
  exact fnD_rt (ret_ok (by simp [m1, m2, m3, f]))
theorem minus_ok (h : FrOk a b) (k : FrOk c d) (hbd : b * d < 1073741824) : dMinus [fr a b, fr c d] w = some (fr (a * d - c * b) (b * d), w) := by
  have p := fr_P (a := a) h.pos
  have q := fr_P (a := c) k.pos
  have m1 := fun j => mul_ok_num (j := j) h p
  have m2 := fun j => mul_ok_num (j := j) k q
  have m3 := fun j => mul_ok_den (j := j) h p
  obtain ⟨z1, z2⟩ := den_mul p.pos p.le q.pos q.le
  have f := fraction_ok (a := (Rat.divInt a b).num * ((Rat.divInt c d).den : Int) - (Rat.divInt c d).num * ((Rat.divInt a b).den : Int)) (b := ((Rat.divInt a b).den : Int) * ((Rat.divInt c d).den : Int)) (by omega) (by omega) w
  have e : fr ((Rat.divInt a b).num * ((Rat.divInt c d).den : Int) - (Rat.divInt c d).num * ((Rat.divInt a b).den : Int)) (((Rat.divInt a b).den : Int) * ((Rat.divInt c d).den : Int)) = fr (a * d - c * b) (b * d) := by
    refine fr_eq (by omega) (by have := Int.mul_pos h.pos k.pos; omega) ?_
    have c1 := p.cross
    have c2 := q.cross
    grind
  rw [e] at f
  exact fnD_rt (ret_ok (by simp [m1, m2, m3, f]))
theorem times_ok (h : FrOk a b) (k : FrOk c d) (hbd : b * d < 1073741824) : dTimes [fr a b, fr c d] w = some (fr (a * c) (b * d), w) := by
  have p := fr_P (a := a) h.pos
  have q := fr_P (a := c) k.pos
  have m1 := fun j => mul_ok_num (j := j) h p
  have m3 := fun j => mul_ok_den (j := j) h p
  obtain ⟨z1, z2⟩ := den_mul p.pos p.le q.pos q.le
  have f := fraction_ok (a := (Rat.divInt a b).num * (Rat.divInt c d).num) (b := ((Rat.divInt a b).den : Int) * ((Rat.divInt c d).den : Int)) (by omega) (by omega) w
  have e : fr ((Rat.divInt a b).num * (Rat.divInt c d).num) (((Rat.divInt a b).den : Int) * ((Rat.divInt c d).den : Int)) = fr (a * c) (b * d) := by
    refine fr_eq (by omega) (by have := Int.mul_pos h.pos k.pos; omega) ?_
    have c1 := p.cross
    have c2 := q.cross
    grind
  rw [e] at f
  exact fnD_rt (ret_ok (by simp [m1, m3, f]))
theorem over_ok (h : FrOk a b) (k : FrOk c d) (hc : c ≠ 0) (hbc : b * (c.natAbs : Int) < 1073741824) : dOver [fr a b, fr c d] w = some (fr (a * d) (b * c), w) := by
  have p := fr_P (a := a) h.pos
  have q := fr_P (a := c) k.pos
  have m1 := fun j => mul_ok_num (j := j) h p
  have m3 := fun j => mul_ok_den (j := j) h p
  have n0 : (Rat.divInt c d).num ≠ 0 := fun e => hc ((fr_num_sign c k.pos).1.mp e)
  have b0 := h.pos
  have z : (((Rat.divInt a b).den : Int) * (Rat.divInt c d).num).natAbs ≤ b.natAbs * c.natAbs := mul_abs (by have := p.le; have := p.pos; omega) q.top
  have z' : ((b.natAbs * c.natAbs : Nat) : Int) < 1073741824 := by rw [Int.natCast_mul, show (b.natAbs : Int) = b by omega]; exact hbc
  have z0 : ((Rat.divInt a b).den : Int) * (Rat.divInt c d).num ≠ 0 := Int.mul_ne_zero (by have := p.pos; omega) n0
  have f := fraction_ok (a := (Rat.divInt a b).num * ((Rat.divInt c d).den : Int)) (b := ((Rat.divInt a b).den : Int) * (Rat.divInt c d).num) z0 (by omega) w
  have e : fr ((Rat.divInt a b).num * ((Rat.divInt c d).den : Int)) (((Rat.divInt a b).den : Int) * (Rat.divInt c d).num) = fr (a * d) (b * c) := by
    refine fr_eq z0 (Int.mul_ne_zero (by omega) hc) ?_
    have c1 := p.cross
    have c2 := q.cross
    grind
  rw [e] at f
  exact fnD_rt (ret_ok (by simp [m1, m3, f]))
theorem isFraction_ok (h : FrOk a b) : dIsFraction [fr a b] w = some (.bool true, w) := by
  have p := fr_P (a := a) h.pos
  have co := Rat.reduced (Rat.divInt a b)
  have q := common_ok (k := 30) (a := (Rat.divInt a b).num) (b := ((Rat.divInt a b).den : Int)) (by have := p.le; have := h.bot; have := p.pos; omega) (by decide) w
  have g1 : (Int.gcd (Rat.divInt a b).num ((Rat.divInt a b).den : Int) : Int) = 1 := by
    have : Int.gcd (Rat.divInt a b).num ((Rat.divInt a b).den : Int) = 1 := co
    omega
  rw [g1] at q
  have d1 : ¬ ((Rat.divInt a b).den : Int) < 1 := by have := p.pos; omega
  have lc : lcD (gSet 1) bYes (eCall dIsInteger (eA (eVar 1) eA0)) [.sh (fr a b), .no] [.int (Rat.divInt a b).num, .int ((Rat.divInt a b).den : Int)] w = some ([true, true].map .bool, w) := by
    simp [lcD, isInteger_ok]
  have s := isSized_ok [.int (Rat.divInt a b).num, .int ((Rat.divInt a b).den : Int)] 2 2 w
  have s' : dIsSized [fr a b, .int 2, .int 2] w = some (.bool true, w) := by simpa [fr] using s
  have it : iItems (eVar 0) [.sh (fr a b), .no] w = some ([.int (Rat.divInt a b).num, .int ((Rat.divInt a b).den : Int)], w) := by simp [fr]
  have al : e1 gAll (eLc [1] (iItems (eVar 0)) (gSet 1) bYes (eCall dIsInteger (eA (eVar 1) eA0))) [.sh (fr a b), .no] w = some (.bool true, w) := e1_ok (lc_ok it lc) (v_gAll _)
  refine fnD_rt (seq_nx (pass_if (e := [.sh (fr a b), .no]) (w' := w) ?_) ?_)
  · rw [v_bOr, v_bNot, v_bV, v_eCall]
    simp only [v_eA, v_eA0, v_eVar0, v_eC, b_some, m_some, s', v_asB, Bool.not_true, Bool.false_eq_true, if_false, v_bOr, v_bNot, v_bV, al]
    simp [d1]
  · simp [q]
theorem lplus_ok (h : FrOk a b) (k : FrOk c d) (hbd : b * d < 1073741824) : dLPlus [fr a b, fr c d] w = some (fr (a * d + c * b) (b * d), w) := by
  have p := fr_P (a := a) h.pos
  have q := fr_P (a := c) k.pos
  have m1 := fun j => mul_ok_num (j := j) h p
  have m2 := fun j => mul_ok_num (j := j) k q
  have m3 := fun j => mul_ok_den (j := j) h p
  obtain ⟨z1, z2⟩ := den_mul p.pos p.le q.pos q.le
  have t1 := h.top
  have t2 := k.top
  have t3 := h.bot
  have t4 := k.bot
  have p1 := p.top
  have p2 := q.top
  have p3 := p.le
  have p4 := q.le
  have p5 := p.pos
  have p6 := q.pos
  have u1 := mul_abs (x := (Rat.divInt a b).num) (y := ((Rat.divInt c d).den : Int)) (A := 2147483648) (B := 1073741824) (by omega) (by omega)
  have u2 := mul_abs (x := (Rat.divInt c d).num) (y := ((Rat.divInt a b).den : Int)) (A := 2147483648) (B := 1073741824) (by omega) (by omega)
  have u3 := mul_abs (x := (Rat.divInt a b).num) (y := (Rat.divInt c d).num) (A := 2147483648) (B := 2147483648) (by omega) (by omega)
  have f := lfrac_ok (a := (Rat.divInt a b).num * ((Rat.divInt c d).den : Int) + (Rat.divInt c d).num * ((Rat.divInt a b).den : Int)) (b := ((Rat.divInt a b).den : Int) * ((Rat.divInt c d).den : Int)) z1 (by omega) (by omega) w
  have e : fr ((Rat.divInt a b).num * ((Rat.divInt c d).den : Int) + (Rat.divInt c d).num * ((Rat.divInt a b).den : Int)) (((Rat.divInt a b).den : Int) * ((Rat.divInt c d).den : Int)) = fr (a * d + c * b) (b * d) := by
    refine fr_eq (by omega) (by have := Int.mul_pos h.pos k.pos; omega) ?_
    have c1 := p.cross
    have c2 := q.cross
    grind
  rw [e] at f
  exact fnD_rt (ret_ok (by simp [m1, m2, m3, f]))
theorem lminus_ok (h : FrOk a b) (k : FrOk c d) (hbd : b * d < 1073741824) : dLMinus [fr a b, fr c d] w = some (fr (a * d - c * b) (b * d), w) := by
  have p := fr_P (a := a) h.pos
  have q := fr_P (a := c) k.pos
  have m1 := fun j => mul_ok_num (j := j) h p
  have m2 := fun j => mul_ok_num (j := j) k q
  have m3 := fun j => mul_ok_den (j := j) h p
  obtain ⟨z1, z2⟩ := den_mul p.pos p.le q.pos q.le
  have t1 := h.top
  have t2 := k.top
  have t3 := h.bot
  have t4 := k.bot
  have p1 := p.top
  have p2 := q.top
  have p3 := p.le
  have p4 := q.le
  have p5 := p.pos
  have p6 := q.pos
  have u1 := mul_abs (x := (Rat.divInt a b).num) (y := ((Rat.divInt c d).den : Int)) (A := 2147483648) (B := 1073741824) (by omega) (by omega)
  have u2 := mul_abs (x := (Rat.divInt c d).num) (y := ((Rat.divInt a b).den : Int)) (A := 2147483648) (B := 1073741824) (by omega) (by omega)
  have u3 := mul_abs (x := (Rat.divInt a b).num) (y := (Rat.divInt c d).num) (A := 2147483648) (B := 2147483648) (by omega) (by omega)
  have f := lfrac_ok (a := (Rat.divInt a b).num * ((Rat.divInt c d).den : Int) - (Rat.divInt c d).num * ((Rat.divInt a b).den : Int)) (b := ((Rat.divInt a b).den : Int) * ((Rat.divInt c d).den : Int)) z1 (by omega) (by omega) w
  have e : fr ((Rat.divInt a b).num * ((Rat.divInt c d).den : Int) - (Rat.divInt c d).num * ((Rat.divInt a b).den : Int)) (((Rat.divInt a b).den : Int) * ((Rat.divInt c d).den : Int)) = fr (a * d - c * b) (b * d) := by
    refine fr_eq (by omega) (by have := Int.mul_pos h.pos k.pos; omega) ?_
    have c1 := p.cross
    have c2 := q.cross
    grind
  rw [e] at f
  exact fnD_rt (ret_ok (by simp [m1, m2, m3, f]))
theorem ltimes_ok (h : FrOk a b) (k : FrOk c d) (hbd : b * d < 1073741824) : dLTimes [fr a b, fr c d] w = some (fr (a * c) (b * d), w) := by
  have p := fr_P (a := a) h.pos
  have q := fr_P (a := c) k.pos
  have m1 := fun j => mul_ok_num (j := j) h p
  have m2 := fun j => mul_ok_num (j := j) k q
  have m3 := fun j => mul_ok_den (j := j) h p
  obtain ⟨z1, z2⟩ := den_mul p.pos p.le q.pos q.le
  have t1 := h.top
  have t2 := k.top
  have t3 := h.bot
  have t4 := k.bot
  have p1 := p.top
  have p2 := q.top
  have p3 := p.le
  have p4 := q.le
  have p5 := p.pos
  have p6 := q.pos
  have u1 := mul_abs (x := (Rat.divInt a b).num) (y := ((Rat.divInt c d).den : Int)) (A := 2147483648) (B := 1073741824) (by omega) (by omega)
  have u2 := mul_abs (x := (Rat.divInt c d).num) (y := ((Rat.divInt a b).den : Int)) (A := 2147483648) (B := 1073741824) (by omega) (by omega)
  have u3 := mul_abs (x := (Rat.divInt a b).num) (y := (Rat.divInt c d).num) (A := 2147483648) (B := 2147483648) (by omega) (by omega)
  have f := lfrac_ok (a := (Rat.divInt a b).num * (Rat.divInt c d).num) (b := ((Rat.divInt a b).den : Int) * ((Rat.divInt c d).den : Int)) z1 (by omega) (by omega) w
  have e : fr ((Rat.divInt a b).num * (Rat.divInt c d).num) (((Rat.divInt a b).den : Int) * ((Rat.divInt c d).den : Int)) = fr (a * c) (b * d) := by
    refine fr_eq (by omega) (by have := Int.mul_pos h.pos k.pos; omega) ?_
    have c1 := p.cross
    have c2 := q.cross
    grind
  rw [e] at f
  exact fnD_rt (ret_ok (by simp [m1, m2, m3, f]))
theorem lover_ok (h : FrOk a b) (k : FrOk c d) (hc : c ≠ 0) (hbc : b * (c.natAbs : Int) < 1073741824) : dLOver [fr a b, fr c d] w = some (fr (a * d) (b * c), w) := by
  have p := fr_P (a := a) h.pos
  have q := fr_P (a := c) k.pos
  have m1 := fun j => mul_ok_num (j := j) h p
  have m3 := fun j => mul_ok_den (j := j) h p
  have n0 : (Rat.divInt c d).num ≠ 0 := fun e => hc ((fr_num_sign c k.pos).1.mp e)
  have b0 := h.pos
  have z : (((Rat.divInt a b).den : Int) * (Rat.divInt c d).num).natAbs ≤ b.natAbs * c.natAbs := mul_abs (by have := p.le; have := p.pos; omega) q.top
  have z' : ((b.natAbs * c.natAbs : Nat) : Int) < 1073741824 := by rw [Int.natCast_mul, show (b.natAbs : Int) = b by omega]; exact hbc
  have z0 : ((Rat.divInt a b).den : Int) * (Rat.divInt c d).num ≠ 0 := Int.mul_ne_zero (by have := p.pos; omega) n0
  have u1 := mul_abs (x := (Rat.divInt a b).num) (y := ((Rat.divInt c d).den : Int)) (A := 2147483648) (B := 1073741824) (by have := h.top; have := p.top; omega) (by have := k.bot; have := q.le; have := q.pos; omega)
  have e : fr ((Rat.divInt a b).num * ((Rat.divInt c d).den : Int)) (((Rat.divInt a b).den : Int) * (Rat.divInt c d).num) = fr (a * d) (b * c) := by
    refine fr_eq z0 (Int.mul_ne_zero (by omega) hc) ?_
    have c1 := p.cross
    have c2 := q.cross
    grind
  have s : sPar 2 3 false false (eA (e2 gMul (e2 gIx (eVar 0) (eC (.int 0))) (e2 gIx (eVar 1) (eC (.int 1)))) (eA (e2 gMul (e2 gIx (eVar 0) (eC (.int 1))) (e2 gIx (eVar 1) (eC (.int 0)))) eA0)) [.sh (fr a b), .sh (fr c d), .no, .no] w =
      some (.nx [.sh (fr a b), .sh (fr c d), .sh (.int ((Rat.divInt a b).num * ((Rat.divInt c d).den : Int))), .sh (.int (((Rat.divInt a b).den : Int) * (Rat.divInt c d).num))], w) := par_ok (by simp [m1, m3])
  refine fnD_rt (seq_nx s (ret_ok ?_))
  rw [← e]
  generalize (Rat.divInt a b).num * ((Rat.divInt c d).den : Int) = x at u1 ⊢
  generalize ((Rat.divInt a b).den : Int) * (Rat.divInt c d).num = y at z z0 ⊢
  by_cases g : 0 < y
  · have f := lfrac_ok (a := x) (b := y) g (by omega) (by omega) w
    simp [g, f]
  · have f := lfrac_ok (a := 0 - x) (b := 0 - y) (by omega) (by omega) (by omega) w
    rw [show fr (0 - x) (0 - y) = fr x y from fr_eq (by omega) z0 (by grind)] at f
    simp at f
    simp [g, f]
end
end DL

set_option autoImplicit false
namespace DL
open PySem L2
/-! repr of what is of no great length -/
theorem log_small {n : Nat} (h : n < 1000000000000) : n.log2 < 1920 := by
  by_cases c : n = 0
  · subst c; decide
  · rw [Nat.log2_lt c]
    exact Nat.lt_of_lt_of_le h (Nat.le_trans (by decide : 1000000000000 ≤ 2 ^ 40) (Nat.pow_le_pow_right (by decide) (by decide)))
theorem show_int {x : Int} (h : x.natAbs < 1000000000000) : (PyData.shown (.int x)).length ≤ 13 := PyData.shown_int_le h
theorem okR_n : okR .none = true := by
  have e := PyData.shown_le 13 (by decide) .none (by simp [PyData.leavesShort])
  have z : (PyData.shown .none).length ≤ SZ := Nat.le_trans e (le_SZ (by simp [PyData.weight]))
  simp [okR, okD, PyData.plain, PyData.depth, PyData.showable, PyData.hasDict, z]
theorem okR_pr {x y : Int} (hx : x.natAbs < 1000000000000) (hy : y.natAbs < 1000000000000) : okR (.tuple [.int x, .int y]) = true := by
  have e := PyData.shown_le 13 (by decide) (.tuple [.int x, .int y]) (by simp [PyData.leavesShort, PyData.leavesShortAll, show_int hx, show_int hy])
  have z : (PyData.shown (.tuple [.int x, .int y])).length ≤ SZ := Nat.le_trans e (le_SZ (by
    have l1 := log_small hx
    have l2 := log_small hy
    have w1 : PyData.weight (.int x) ≤ 1921 := by simp only [PyData.weight]; split <;> omega
    have w2 : PyData.weight (.int y) ≤ 1921 := by simp only [PyData.weight]; split <;> omega
    simp only [PyData.weight, PyData.weightAll] at w1 w2 ⊢
    omega))
  simp [okR, okD, PyData.plain, PyData.plainAll, PyData.depth, PyData.depthAll, PyData.showable, PyData.showableAll, PyData.hasDict, PyData.hasDictAll, log_small hx, log_small hy, z]
theorem okR_fr {a b : Int} (h : FrOk a b) : okR (fr a b) = true := by
  have p := fr_P (a := a) h.pos
  have h1 := p.top
  have h2 := p.le
  have h3 := p.pos
  have h4 := h.top
  have h5 := h.bot
  exact okR_pr (by omega) (by omega)
theorem v_gRepr {d : D} (h : okR d = true) : gRepr d = some (.str d.shown) := if_pos h
theorem gNe_str (x : Str) : gNe (.str x) (.str x) = some (.bool false) := gNe_same (by simp [okD, PyData.plain, PyData.depth])
theorem gEq_str (x : Str) : gEq (.str x) (.str x) = some (.bool true) := by
  have h : okD (.str x) = true := by simp [okD, PyData.plain, PyData.depth]
  have e := SeqAt.eqv_refl_plain (.str x) (by simp [PyData.plain])
  simp [gEq, h, e]
end DL

set_option maxRecDepth 100000
set_option maxHeartbeats 4000000
namespace K03
open PySem L2 DL
/-! printed by pr.py -/
def top (i : Nat) : Stmt := PySem.Challenge.pw_wayriddles_k03_whole_hands_and_clocks_as.main.body.getD i (.Pass ⟨0, 0, 0, 0⟩)
abbrev s_is_integer : Stmt := top 1
abbrev n_is_integer : List Str := ["thing"]
abbrev p_is_integer : List Str := ["thing"]
theorem sc_is_integer : FnScope n_is_integer p_is_integer (defScope s_is_integer) := ⟨rfl, rfl, rfl, by decide +kernel, rfl, by decide +kernel, by decide +kernel⟩
abbrev s_is_within : Stmt := top 2
abbrev n_is_within : List Str := ["thing", "least", "most"]
abbrev p_is_within : List Str := ["thing", "least", "most"]
theorem sc_is_within : FnScope n_is_within p_is_within (defScope s_is_within) := ⟨rfl, rfl, rfl, by decide +kernel, rfl, by decide +kernel, by decide +kernel⟩
abbrev s_is_sized : Stmt := top 3
abbrev n_is_sized : List Str := ["thing", "least", "most"]
abbrev p_is_sized : List Str := ["thing", "least", "most"]
theorem sc_is_sized : FnScope n_is_sized p_is_sized (defScope s_is_sized) := ⟨rfl, rfl, rfl, by decide +kernel, rfl, by decide +kernel, by decide +kernel⟩
abbrev s_common : Stmt := top 4
abbrev n_common : List Str := ["one", "other"]
abbrev p_common : List Str := ["one", "other"]
theorem sc_common : FnScope n_common p_common (defScope s_common) := ⟨rfl, rfl, rfl, by decide +kernel, rfl, by decide +kernel, by decide +kernel⟩
abbrev s_fraction : Stmt := top 5
abbrev n_fraction : List Str := ["top", "bottom", "part"]
abbrev p_fraction : List Str := ["top", "bottom"]
theorem sc_fraction : FnScope n_fraction p_fraction (defScope s_fraction) := ⟨rfl, rfl, rfl, by decide +kernel, rfl, by decide +kernel, by decide +kernel⟩
abbrev s_is_fraction : Stmt := top 6
abbrev n_is_fraction : List Str := ["thing", "one"]
abbrev p_is_fraction : List Str := ["thing"]
theorem sc_is_fraction : FnScope n_is_fraction p_is_fraction (defScope s_is_fraction) := ⟨rfl, rfl, rfl, by decide +kernel, rfl, by decide +kernel, by decide +kernel⟩
abbrev s_plus : Stmt := top 7
abbrev n_plus : List Str := ["one", "other"]
abbrev p_plus : List Str := ["one", "other"]
theorem sc_plus : FnScope n_plus p_plus (defScope s_plus) := ⟨rfl, rfl, rfl, by decide +kernel, rfl, by decide +kernel, by decide +kernel⟩
abbrev s_minus : Stmt := top 8
abbrev n_minus : List Str := ["one", "other"]
abbrev p_minus : List Str := ["one", "other"]
theorem sc_minus : FnScope n_minus p_minus (defScope s_minus) := ⟨rfl, rfl, rfl, by decide +kernel, rfl, by decide +kernel, by decide +kernel⟩
abbrev s_times : Stmt := top 9
abbrev n_times : List Str := ["one", "other"]
abbrev p_times : List Str := ["one", "other"]
theorem sc_times : FnScope n_times p_times (defScope s_times) := ⟨rfl, rfl, rfl, by decide +kernel, rfl, by decide +kernel, by decide +kernel⟩
abbrev s_over : Stmt := top 10
abbrev n_over : List Str := ["one", "other"]
abbrev p_over : List Str := ["one", "other"]
theorem sc_over : FnScope n_over p_over (defScope s_over) := ⟨rfl, rfl, rfl, by decide +kernel, rfl, by decide +kernel, by decide +kernel⟩
abbrev s_is_racer : Stmt := top 27
abbrev n_is_racer : List Str := ["thing"]
abbrev p_is_racer : List Str := ["thing"]
theorem sc_is_racer : FnScope n_is_racer p_is_racer (defScope s_is_racer) := ⟨rfl, rfl, rfl, by decide +kernel, rfl, by decide +kernel, by decide +kernel⟩
abbrev s_is_racers : Stmt := top 28
abbrev n_is_racers : List Str := ["thing", "one"]
abbrev p_is_racers : List Str := ["thing"]
theorem sc_is_racers : FnScope n_is_racers p_is_racers (defScope s_is_racers) := ⟨rfl, rfl, rfl, by decide +kernel, rfl, by decide +kernel, by decide +kernel⟩
abbrev s_check_racers : Stmt := top 29
abbrev n_check_racers : List Str := ["racers"]
abbrev p_check_racers : List Str := ["racers"]
theorem sc_check_racers : FnScope n_check_racers p_check_racers (defScope s_check_racers) := ⟨rfl, rfl, rfl, by decide +kernel, rfl, by decide +kernel, by decide +kernel⟩
abbrev s_check_time_races : Stmt := top 30
abbrev n_check_time_races : List Str := ["time"]
abbrev p_check_time_races : List Str := ["time"]
theorem sc_check_time_races : FnScope n_check_time_races p_check_time_races (defScope s_check_time_races) := ⟨rfl, rfl, rfl, by decide +kernel, rfl, by decide +kernel, by decide +kernel⟩
abbrev s_check_racer : Stmt := top 32
abbrev n_check_racer : List Str := ["many", "racer"]
abbrev p_check_racer : List Str := ["many", "racer"]
theorem sc_check_racer : FnScope n_check_racer p_check_racer (defScope s_check_racer) := ⟨rfl, rfl, rfl, by decide +kernel, rfl, by decide +kernel, by decide +kernel⟩
abbrev s_raw_racer_at : Stmt := top 33
abbrev n_raw_racer_at : List Str := ["racers", "racer", "time"]
abbrev p_raw_racer_at : List Str := ["racers", "racer", "time"]
theorem sc_raw_racer_at : FnScope n_raw_racer_at p_raw_racer_at (defScope s_raw_racer_at) := ⟨rfl, rfl, rfl, by decide +kernel, rfl, by decide +kernel, by decide +kernel⟩
abbrev s_racer_at : Stmt := top 34
abbrev n_racer_at : List Str := ["racers", "racer", "time"]
abbrev p_racer_at : List Str := ["racers", "racer", "time"]
theorem sc_racer_at : FnScope n_racer_at p_racer_at (defScope s_racer_at) := ⟨rfl, rfl, rfl, by decide +kernel, rfl, by decide +kernel, by decide +kernel⟩
abbrev s_ring_times : Stmt := top 35
abbrev n_ring_times : List Str := ["ring", "racers", "one", "other", "far", "gap"]
abbrev p_ring_times : List Str := ["ring", "racers", "one", "other"]
theorem sc_ring_times : FnScope n_ring_times p_ring_times (defScope s_ring_times) := ⟨rfl, rfl, rfl, by decide +kernel, rfl, by decide +kernel, by decide +kernel⟩
abbrev s_both_times : Stmt := top 36
abbrev n_both_times : List Str := ["one", "other", "scale", "whole", "first", "step", "begin", "by", "part"]
abbrev p_both_times : List Str := ["one", "other"]
theorem sc_both_times : FnScope n_both_times p_both_times (defScope s_both_times) := ⟨rfl, rfl, rfl, by decide +kernel, rfl, by decide +kernel, by decide +kernel⟩
abbrev s_ring_time : Stmt := top 37
abbrev n_ring_time : List Str := ["ring", "racers", "lot", "found", "other"]
abbrev p_ring_time : List Str := ["ring", "racers", "lot"]
theorem sc_ring_time : FnScope n_ring_time p_ring_time (defScope s_ring_time) := ⟨rfl, rfl, rfl, by decide +kernel, rfl, by decide +kernel, by decide +kernel⟩
abbrev s_check_round : Stmt := top 38
abbrev n_check_round : List Str := ["ring", "racers"]
abbrev p_check_round : List Str := ["ring", "racers"]
theorem sc_check_round : FnScope n_check_round p_check_round (defScope s_check_round) := ⟨rfl, rfl, rfl, by decide +kernel, rfl, by decide +kernel, by decide +kernel⟩
abbrev s_ring_meeting : Stmt := top 39
abbrev n_ring_meeting : List Str := ["ring", "racers", "one", "other"]
abbrev p_ring_meeting : List Str := ["ring", "racers", "one", "other"]
theorem sc_ring_meeting : FnScope n_ring_meeting p_ring_meeting (defScope s_ring_meeting) := ⟨rfl, rfl, rfl, by decide +kernel, rfl, by decide +kernel, by decide +kernel⟩
abbrev s_whole_below : Stmt := top 45
abbrev n_whole_below : List Str := ["one"]
abbrev p_whole_below : List Str := ["one"]
theorem sc_whole_below : FnScope n_whole_below p_whole_below (defScope s_whole_below) := ⟨rfl, rfl, rfl, by decide +kernel, rfl, by decide +kernel, by decide +kernel⟩
abbrev s_round_place : Stmt := top 46
abbrev n_round_place : List Str := ["one"]
abbrev p_round_place : List Str := ["one"]
theorem sc_round_place : FnScope n_round_place p_round_place (defScope s_round_place) := ⟨rfl, rfl, rfl, by decide +kernel, rfl, by decide +kernel, by decide +kernel⟩
abbrev s_is_time : Stmt := top 47
abbrev n_is_time : List Str := ["thing"]
abbrev p_is_time : List Str := ["thing"]
theorem sc_is_time : FnScope n_is_time p_is_time (defScope s_is_time) := ⟨rfl, rfl, rfl, by decide +kernel, rfl, by decide +kernel, by decide +kernel⟩
abbrev s_check_time : Stmt := top 48
abbrev n_check_time : List Str := ["time"]
abbrev p_check_time : List Str := ["time"]
theorem sc_check_time : FnScope n_check_time p_check_time (defScope s_check_time) := ⟨rfl, rfl, rfl, by decide +kernel, rfl, by decide +kernel, by decide +kernel⟩
abbrev s_check_time_clockhands : Stmt := top 48
abbrev n_check_time_clockhands : List Str := ["time"]
abbrev p_check_time_clockhands : List Str := ["time"]
theorem sc_check_time_clockhands : FnScope n_check_time_clockhands p_check_time_clockhands (defScope s_check_time_clockhands) := ⟨rfl, rfl, rfl, by decide +kernel, rfl, by decide +kernel, by decide +kernel⟩
abbrev s_check_place : Stmt := top 50
abbrev n_check_place : List Str := ["place"]
abbrev p_check_place : List Str := ["place"]
theorem sc_check_place : FnScope n_check_place p_check_place (defScope s_check_place) := ⟨rfl, rfl, rfl, by decide +kernel, rfl, by decide +kernel, by decide +kernel⟩
abbrev s_hand_place : Stmt := top 51
abbrev n_hand_place : List Str := ["hand", "time"]
abbrev p_hand_place : List Str := ["hand", "time"]
theorem sc_hand_place : FnScope n_hand_place p_hand_place (defScope s_hand_place) := ⟨rfl, rfl, rfl, by decide +kernel, rfl, by decide +kernel, by decide +kernel⟩
abbrev s_hour_place : Stmt := top 52
abbrev n_hour_place : List Str := ["time"]
abbrev p_hour_place : List Str := ["time"]
theorem sc_hour_place : FnScope n_hour_place p_hour_place (defScope s_hour_place) := ⟨rfl, rfl, rfl, by decide +kernel, rfl, by decide +kernel, by decide +kernel⟩
abbrev s_minute_place : Stmt := top 53
abbrev n_minute_place : List Str := ["time"]
abbrev p_minute_place : List Str := ["time"]
theorem sc_minute_place : FnScope n_minute_place p_minute_place (defScope s_minute_place) := ⟨rfl, rfl, rfl, by decide +kernel, rfl, by decide +kernel, by decide +kernel⟩
abbrev s_raw_gap : Stmt := top 54
abbrev n_raw_gap : List Str := ["time"]
abbrev p_raw_gap : List Str := ["time"]
theorem sc_raw_gap : FnScope n_raw_gap p_raw_gap (defScope s_raw_gap) := ⟨rfl, rfl, rfl, by decide +kernel, rfl, by decide +kernel, by decide +kernel⟩
abbrev s_gap_of : Stmt := top 55
abbrev n_gap_of : List Str := ["time"]
abbrev p_gap_of : List Str := ["time"]
theorem sc_gap_of : FnScope n_gap_of p_gap_of (defScope s_gap_of) := ⟨rfl, rfl, rfl, by decide +kernel, rfl, by decide +kernel, by decide +kernel⟩
abbrev s_raw_when : Stmt := top 56
abbrev n_raw_when : List Str := ["gap", "turn"]
abbrev p_raw_when : List Str := ["gap"]
theorem sc_raw_when : FnScope n_raw_when p_raw_when (defScope s_raw_when) := ⟨rfl, rfl, rfl, by decide +kernel, rfl, by decide +kernel, by decide +kernel⟩
abbrev s_when_gap : Stmt := top 57
abbrev n_when_gap : List Str := ["gap"]
abbrev p_when_gap : List Str := ["gap"]
theorem sc_when_gap : FnScope n_when_gap p_when_gap (defScope s_when_gap) := ⟨rfl, rfl, rfl, by decide +kernel, rfl, by decide +kernel, by decide +kernel⟩
abbrev s_times_together : Stmt := top 58
abbrev n_times_together : List Str := ["one", "other", "hand", "many", "turn"]
abbrev p_times_together : List Str := ["one", "other"]
theorem sc_times_together : FnScope n_times_together p_times_together (defScope s_times_together) := ⟨rfl, rfl, rfl, by decide +kernel, rfl, by decide +kernel, by decide +kernel⟩
abbrev s_check_lag : Stmt := top 59
abbrev n_check_lag : List Str := ["lag"]
abbrev p_check_lag : List Str := ["lag"]
theorem sc_check_lag : FnScope n_check_lag p_check_lag (defScope s_check_lag) := ⟨rfl, rfl, rfl, by decide +kernel, rfl, by decide +kernel, by decide +kernel⟩
abbrev s_shown : Stmt := top 60
abbrev n_shown : List Str := ["lag", "days"]
abbrev p_shown : List Str := ["lag", "days"]
theorem sc_shown : FnScope n_shown p_shown (defScope s_shown) := ⟨rfl, rfl, rfl, by decide +kernel, rfl, by decide +kernel, by decide +kernel⟩
abbrev s_right_again : Stmt := top 61
abbrev n_right_again : List Str := ["lag"]
abbrev p_right_again : List Str := ["lag"]
theorem sc_right_again : FnScope n_right_again p_right_again (defScope s_right_again) := ⟨rfl, rfl, rfl, by decide +kernel, rfl, by decide +kernel, by decide +kernel⟩
abbrev s_agree_again : Stmt := top 62
abbrev n_agree_again : List Str := ["lag", "other"]
abbrev p_agree_again : List Str := ["lag", "other"]
theorem sc_agree_again : FnScope n_agree_again p_agree_again (defScope s_agree_again) := ⟨rfl, rfl, rfl, by decide +kernel, rfl, by decide +kernel, by decide +kernel⟩
abbrev s__law_hand : Stmt := top 64
abbrev n__law_hand : List Str := ["script", "cells", "cell"]
abbrev p__law_hand : List Str := ["script"]
theorem sc__law_hand : FnScope n__law_hand p__law_hand (defScope s__law_hand) := ⟨rfl, rfl, rfl, by decide +kernel, rfl, by decide +kernel, by decide +kernel⟩
abbrev s__law_draw : Stmt := top 65
abbrev n__law_draw : List Str := ["hand", "many", "mixed_here", "cell", "digit"]
abbrev p__law_draw : List Str := ["hand", "many"]
theorem sc__law_draw : FnScope n__law_draw p__law_draw (defScope s__law_draw) := ⟨rfl, rfl, rfl, by decide +kernel, rfl, by decide +kernel, by decide +kernel⟩
abbrev s__law_any : Stmt := top 66
abbrev n__law_any : List Str := ["hand", "some"]
abbrev p__law_any : List Str := ["hand", "some"]
theorem sc__law_any : FnScope n__law_any p__law_any (defScope s__law_any) := ⟨rfl, rfl, rfl, by decide +kernel, rfl, by decide +kernel, by decide +kernel⟩
abbrev s__law_frac : Stmt := top 67
abbrev n__law_frac : List Str := ["top", "bottom", "one", "other"]
abbrev p__law_frac : List Str := ["top", "bottom"]
theorem sc__law_frac : FnScope n__law_frac p__law_frac (defScope s__law_frac) := ⟨rfl, rfl, rfl, by decide +kernel, rfl, by decide +kernel, by decide +kernel⟩
abbrev s__law_plus : Stmt := top 68
abbrev n__law_plus : List Str := ["one", "other"]
abbrev p__law_plus : List Str := ["one", "other"]
theorem sc__law_plus : FnScope n__law_plus p__law_plus (defScope s__law_plus) := ⟨rfl, rfl, rfl, by decide +kernel, rfl, by decide +kernel, by decide +kernel⟩
abbrev s__law_minus : Stmt := top 69
abbrev n__law_minus : List Str := ["one", "other"]
abbrev p__law_minus : List Str := ["one", "other"]
theorem sc__law_minus : FnScope n__law_minus p__law_minus (defScope s__law_minus) := ⟨rfl, rfl, rfl, by decide +kernel, rfl, by decide +kernel, by decide +kernel⟩
abbrev s__law_times : Stmt := top 70
abbrev n__law_times : List Str := ["one", "other"]
abbrev p__law_times : List Str := ["one", "other"]
theorem sc__law_times : FnScope n__law_times p__law_times (defScope s__law_times) := ⟨rfl, rfl, rfl, by decide +kernel, rfl, by decide +kernel, by decide +kernel⟩
abbrev s__law_over : Stmt := top 71
abbrev n__law_over : List Str := ["one", "other", "top", "under"]
abbrev p__law_over : List Str := ["one", "other"]
theorem sc__law_over : FnScope n__law_over p__law_over (defScope s__law_over) := ⟨rfl, rfl, rfl, by decide +kernel, rfl, by decide +kernel, by decide +kernel⟩
abbrev s__law_left : Stmt := top 72
abbrev n__law_left : List Str := ["one", "whole"]
abbrev p__law_left : List Str := ["one", "whole"]
theorem sc__law_left : FnScope n__law_left p__law_left (defScope s__law_left) := ⟨rfl, rfl, rfl, by decide +kernel, rfl, by decide +kernel, by decide +kernel⟩
abbrev s__law_are_hands_right : Stmt := top 73
abbrev n__law_are_hands_right : List Str := ["hand", "racers", "first", "ring", "apart", "told", "one", "spots", "place", "before", "hour", "wide", "time", "meets", "gap", "at"]
abbrev p__law_are_hands_right : List Str := ["hand"]
theorem sc__law_are_hands_right : FnScope n__law_are_hands_right p__law_are_hands_right (defScope s__law_are_hands_right) := ⟨rfl, rfl, rfl, by decide +kernel, rfl, by decide +kernel, by decide +kernel⟩
abbrev s__law_lag : Stmt := top 74
abbrev n__law_lag : List Str := ["hand"]
abbrev p__law_lag : List Str := ["hand"]
theorem sc__law_lag : FnScope n__law_lag p__law_lag (defScope s__law_lag) := ⟨rfl, rfl, rfl, by decide +kernel, rfl, by decide +kernel, by decide +kernel⟩
abbrev s__law_are_lags_right : Stmt := top 75
abbrev n__law_are_lags_right : List Str := ["hand", "speeds", "racers", "days", "due", "far", "pair", "met", "one", "other", "at", "lag", "spot", "seconds", "fast", "slow"]
abbrev p__law_are_lags_right : List Str := ["hand"]
theorem sc__law_are_lags_right : FnScope n__law_are_lags_right p__law_are_lags_right (defScope s__law_are_lags_right) := ⟨rfl, rfl, rfl, by decide +kernel, rfl, by decide +kernel, by decide +kernel⟩
abbrev s_law : Stmt := top 76
abbrev n_law : List Str := ["script", "hand", "lap"]
abbrev p_law : List Str := ["script"]
theorem sc_law : FnScope n_law p_law (defScope s_law) := ⟨rfl, rfl, rfl, by decide +kernel, rfl, by decide +kernel, by decide +kernel⟩
/-- a def as it stands -/
structure Fn (K : PySem.W.Frag) (mg : Str → Option Value) (x y : Str) (st : Stmt) (ps : List Str) (a : Addr) (fd : FuncData) : Prop where
  mg : mg x = some (.ref a)
  F : L2.Fun K y y st a fd
  b : Binds K fd ps []
structure Txt (K : PySem.W.Frag) (mg : Str → Option Value) (A : Nat → Addr) (D : Nat → FuncData) : Prop where
  f_is_integer : Fn K mg "is_integer" "is_integer" s_is_integer p_is_integer (A 0) (D 0)
  f_is_within : Fn K mg "is_within" "is_within" s_is_within p_is_within (A 1) (D 1)
  f_is_sized : Fn K mg "is_sized" "is_sized" s_is_sized p_is_sized (A 2) (D 2)
  f_common : Fn K mg "common" "common" s_common p_common (A 3) (D 3)
  f_fraction : Fn K mg "fraction" "fraction" s_fraction p_fraction (A 4) (D 4)
  f_is_fraction : Fn K mg "is_fraction" "is_fraction" s_is_fraction p_is_fraction (A 5) (D 5)
  f_plus : Fn K mg "plus" "plus" s_plus p_plus (A 6) (D 6)
  f_minus : Fn K mg "minus" "minus" s_minus p_minus (A 7) (D 7)
  f_times : Fn K mg "times" "times" s_times p_times (A 8) (D 8)
  f_over : Fn K mg "over" "over" s_over p_over (A 9) (D 9)
  f_is_racer : Fn K mg "is_racer" "is_racer" s_is_racer p_is_racer (A 10) (D 10)
  f_is_racers : Fn K mg "is_racers" "is_racers" s_is_racers p_is_racers (A 11) (D 11)
  f_check_racers : Fn K mg "check_racers" "check_racers" s_check_racers p_check_racers (A 12) (D 12)
  f_check_time_races : Fn K mg "check_time_races" "check_time" s_check_time_races p_check_time_races (A 13) (D 13)
  f_check_racer : Fn K mg "check_racer" "check_racer" s_check_racer p_check_racer (A 14) (D 14)
  f_raw_racer_at : Fn K mg "raw_racer_at" "raw_racer_at" s_raw_racer_at p_raw_racer_at (A 15) (D 15)
  f_racer_at : Fn K mg "racer_at" "racer_at" s_racer_at p_racer_at (A 16) (D 16)
  f_ring_times : Fn K mg "ring_times" "ring_times" s_ring_times p_ring_times (A 17) (D 17)
  f_both_times : Fn K mg "both_times" "both_times" s_both_times p_both_times (A 18) (D 18)
  f_ring_time : Fn K mg "ring_time" "ring_time" s_ring_time p_ring_time (A 19) (D 19)
  f_check_round : Fn K mg "check_round" "check_round" s_check_round p_check_round (A 20) (D 20)
  f_ring_meeting : Fn K mg "ring_meeting" "ring_meeting" s_ring_meeting p_ring_meeting (A 21) (D 21)
  f_whole_below : Fn K mg "whole_below" "whole_below" s_whole_below p_whole_below (A 22) (D 22)
  f_round_place : Fn K mg "round_place" "round_place" s_round_place p_round_place (A 23) (D 23)
  f_is_time : Fn K mg "is_time" "is_time" s_is_time p_is_time (A 24) (D 24)
  f_check_time : Fn K mg "check_time" "check_time" s_check_time p_check_time (A 25) (D 25)
  f_check_time_clockhands : Fn K mg "check_time_clockhands" "check_time" s_check_time_clockhands p_check_time_clockhands (A 26) (D 26)
  f_check_place : Fn K mg "check_place" "check_place" s_check_place p_check_place (A 27) (D 27)
  f_hand_place : Fn K mg "hand_place" "hand_place" s_hand_place p_hand_place (A 28) (D 28)
  f_hour_place : Fn K mg "hour_place" "hour_place" s_hour_place p_hour_place (A 29) (D 29)
  f_minute_place : Fn K mg "minute_place" "minute_place" s_minute_place p_minute_place (A 30) (D 30)
  f_raw_gap : Fn K mg "raw_gap" "raw_gap" s_raw_gap p_raw_gap (A 31) (D 31)
  f_gap_of : Fn K mg "gap_of" "gap_of" s_gap_of p_gap_of (A 32) (D 32)
  f_raw_when : Fn K mg "raw_when" "raw_when" s_raw_when p_raw_when (A 33) (D 33)
  f_when_gap : Fn K mg "when_gap" "when_gap" s_when_gap p_when_gap (A 34) (D 34)
  f_times_together : Fn K mg "times_together" "times_together" s_times_together p_times_together (A 35) (D 35)
  f_check_lag : Fn K mg "check_lag" "check_lag" s_check_lag p_check_lag (A 36) (D 36)
  f_shown : Fn K mg "shown" "shown" s_shown p_shown (A 37) (D 37)
  f_right_again : Fn K mg "right_again" "right_again" s_right_again p_right_again (A 38) (D 38)
  f_agree_again : Fn K mg "agree_again" "agree_again" s_agree_again p_agree_again (A 39) (D 39)
  f__law_hand : Fn K mg "_law_hand" "_law_hand" s__law_hand p__law_hand (A 40) (D 40)
  f__law_draw : Fn K mg "_law_draw" "_law_draw" s__law_draw p__law_draw (A 41) (D 41)
  f__law_any : Fn K mg "_law_any" "_law_any" s__law_any p__law_any (A 42) (D 42)
  f__law_frac : Fn K mg "_law_frac" "_law_frac" s__law_frac p__law_frac (A 43) (D 43)
  f__law_plus : Fn K mg "_law_plus" "_law_plus" s__law_plus p__law_plus (A 44) (D 44)
  f__law_minus : Fn K mg "_law_minus" "_law_minus" s__law_minus p__law_minus (A 45) (D 45)
  f__law_times : Fn K mg "_law_times" "_law_times" s__law_times p__law_times (A 46) (D 46)
  f__law_over : Fn K mg "_law_over" "_law_over" s__law_over p__law_over (A 47) (D 47)
  f__law_left : Fn K mg "_law_left" "_law_left" s__law_left p__law_left (A 48) (D 48)
  f__law_are_hands_right : Fn K mg "_law_are_hands_right" "_law_are_hands_right" s__law_are_hands_right p__law_are_hands_right (A 49) (D 49)
  f__law_lag : Fn K mg "_law_lag" "_law_lag" s__law_lag p__law_lag (A 50) (D 50)
  f__law_are_lags_right : Fn K mg "_law_are_lags_right" "_law_are_lags_right" s__law_are_lags_right p__law_are_lags_right (A 51) (D 51)
  f_law : Fn K mg "law" "law" s_law p_law (A 52) (D 52)
  b_abs : mg "abs" = none
  b_all : mg "all" = none
  b_bool : mg "bool" = none
  b_int : mg "int" = none
  b_isinstance : mg "isinstance" = none
  b_len : mg "len" = none
  b_list : mg "list" = none
  b_max : mg "max" = none
  b_min : mg "min" = none
  b_range : mg "range" = none
  b_repr : mg "repr" = none
  b_tuple : mg "tuple" = none
  c_DIAL_SECONDS : ∃ t, mg "DIAL_SECONDS" = some (.int (43200) t)
  c_HOURS : ∃ t, mg "HOURS" = some (.int (12) t)
  c_MOST_LAG_DAYS : ∃ t, mg "MOST_LAG_DAYS" = some (.int (1000000) t)
  c_MOST_ROUND : ∃ t, mg "MOST_ROUND" = some (.int (360) t)
  c_MOST_SPEED_BOTTOM : ∃ t, mg "MOST_SPEED_BOTTOM" = some (.int (20) t)
  c_MOST_SPEED_TOP : ∃ t, mg "MOST_SPEED_TOP" = some (.int (50) t)
  c_MOST_START : ∃ t, mg "MOST_START" = some (.int (1000) t)
  c_MOST_TIME_PART : ∃ t, mg "MOST_TIME_PART" = some (.int (1000000000) t)
  c_TURNS : mg "TURNS" = some (.ref (A 53)) ∧ CT K (.ref (A 53)) (.tuple [(.int (1)), (.int (12)), (.int (720))])
def y_is_integer : F1 Out := (sRet (eAndV (e1 (gIsi "int") (eVar 0)) (eNotV (e1 (gIsi "bool") (eVar 0)))))
def d_is_integer : List PyData → W → Option (PyData × W) := fnD 1 y_is_integer
section
variable {P : Program} {w : World} {K : PySem.W.Frag} {mg : Str → Option Value} {base : Heap} {A : Nat → Addr} {D : Nat → FuncData}
theorem ok_is_integer (T : Txt K mg A D) : FnG P w K mg base 1 (A 0) (D 0) p_is_integer (spD K 1 d_is_integer) :=
  FnG.ok T.f_is_integer.F sc_is_integer (fun vs H Q E h => spD.len h) fun cdv Ar outer s H vs Q E hgd hr h => by
    have hu := hr.units
    exact ⟨_, (pss_one (ps_ret (pe_and (pe_callB call_isi (by rfl) T.b_isinstance bb_isinstance (pa_cons (pv 0) (pa_cons (pe_bltn (v := .ty "int") (by rfl) T.b_int bb_int rfl) pa_nil))) (pe_one (pe_not (pe_callB call_isi (by rfl) T.b_isinstance bb_isinstance (pa_cons (pv 0) (pa_cons (pe_bltn (v := .ty "bool") (by rfl) T.b_bool bb_bool rfl) pa_nil)))))))),
    body_ok (N := n_is_integer) (f := y_is_integer) ((sn_ret (SndE.bo (sn_andV (sn_isi "int" (sn_var 0)) (sn_notV (sn_isi "bool" (sn_var 0))))))) h⟩
end
def y_is_within : F1 Out := (sRet (eAndV (eCall d_is_integer (eA (eVar 0) eA0)) (eChn pLe pLe (eVar 1) (eVar 0) (eVar 2))))
def d_is_within : List PyData → W → Option (PyData × W) := fnD 3 y_is_within
section
variable {P : Program} {w : World} {K : PySem.W.Frag} {mg : Str → Option Value} {base : Heap} {A : Nat → Addr} {D : Nat → FuncData}
theorem ok_is_within (T : Txt K mg A D) : FnG P w K mg base 2 (A 1) (D 1) p_is_within (spD K 3 d_is_within) :=
  FnG.ok T.f_is_within.F sc_is_within (fun vs H Q E h => spD.len h) fun cdv Ar outer s H vs Q E hgd hr h => by
    have hu := hr.units
    exact ⟨_, (pss_one (ps_ret (pe_and (pe_fn (ok_is_integer T) hgd (hr.mono (by decide)) rfl T.f_is_integer.mg T.f_is_integer.F.kp T.f_is_integer.b (pa_cons (pv 0) pa_nil)) (pe_one (pe_chain op_le op_le (pv 1) (pv 0) (pv 2)))))),
    body_ok (N := n_is_within) (f := y_is_within) ((sn_ret (SndE.bo (sn_andV (sn_call (sn_a (sn_var 0) sn_a0)) (sn_chn (sn_var 1) (sn_var 0) (sn_var 2)))))) h⟩
end
def y_is_sized : F1 Out := (sRet (eAndV (e1 (gIsi "tuple") (eVar 0)) (eChn pLe pLe (eVar 1) (e1 gLen (eVar 0)) (eVar 2))))
def d_is_sized : List PyData → W → Option (PyData × W) := fnD 3 y_is_sized
section
variable {P : Program} {w : World} {K : PySem.W.Frag} {mg : Str → Option Value} {base : Heap} {A : Nat → Addr} {D : Nat → FuncData}
theorem ok_is_sized (T : Txt K mg A D) : FnG P w K mg base 1 (A 2) (D 2) p_is_sized (spD K 3 d_is_sized) :=
  FnG.ok T.f_is_sized.F sc_is_sized (fun vs H Q E h => spD.len h) fun cdv Ar outer s H vs Q E hgd hr h => by
    have hu := hr.units
    exact ⟨_, (pss_one (ps_ret (pe_and (pe_callB call_isi (by rfl) T.b_isinstance bb_isinstance (pa_cons (pv 0) (pa_cons (pe_bltn (v := .ty "tuple") (by rfl) T.b_tuple bb_tuple rfl) pa_nil))) (pe_one (pe_chain op_le op_le (pv 1) (pe_callB call_len (by rfl) T.b_len bb_len (pa_cons (pv 0) pa_nil)) (pv 2)))))),
    body_ok (N := n_is_sized) (f := y_is_sized) ((sn_ret (SndE.bo (sn_andV (sn_isi "tuple" (sn_var 0)) (sn_chn (sn_var 1) (sn_cb1 o_len (sn_var 0)) (sn_var 2)))))) h⟩
end
def y_common : F1 Out := (sSeq (sPar 0 1 false false (eA (e1 gAbs (eVar 0)) (eA (e1 gAbs (eVar 1)) eA0))) 
    (sSeq (sWhile 100000 (bV (e2 gGt (eVar 1) (eC (.int 0)))) 
    (sPar 0 1 false false (eA (eVar 1) (eA (e2 gMod (eVar 0) (eVar 1)) eA0)))) 
    (sRet (eVar 0))))
def d_common : List PyData → W → Option (PyData × W) := fnD 2 y_common
section
variable {P : Program} {w : World} {K : PySem.W.Frag} {mg : Str → Option Value} {base : Heap} {A : Nat → Addr} {D : Nat → FuncData}
theorem ok_common (T : Txt K mg A D) : FnG P w K mg base 1 (A 3) (D 3) p_common (spD K 2 d_common) :=
  FnG.ok T.f_common.F sc_common (fun vs H Q E h => spD.len h) fun cdv Ar outer s H vs Q E hgd hr h => by
    have hu := hr.units
    exact ⟨_, (pss_cons (ps_par (i := 0) (j := 1) (by rfl) sc_common.nd rfl rfl (by decide) rfl rfl (pa_cons (pe_callB call_abs (by rfl) T.b_abs bb_abs (pa_cons (pv 0) pa_nil)) (pa_cons (pe_callB call_abs (by rfl) T.b_abs bb_abs (pa_cons (pv 1) pa_nil)) pa_nil)) (by rfl))
    (pss_cons (ps_while PassesOwn.never (pt_cmpR op_gt (pv 1) pe_int (nomark _))
    (pss_one (ps_par (i := 0) (j := 1) (by rfl) sc_common.nd rfl rfl (by decide) rfl rfl (pa_cons (pv 1) (pa_cons (pe_op op_modN (pv 0) (pv 1)) pa_nil)) (by rfl))))
    (pss_one (ps_ret (pv 0))))),
    body_ok (N := n_common) (f := y_common) ((sn_seq (sn_par false false (sn_a (sn_cb1 o_abs (sn_var 0)) (sn_a (sn_cb1 o_abs (sn_var 1)) sn_a0))) 
    (sn_seq (sn_while 100000 (sn_tst (sn_op o_cmp (sn_var 1) (sn_int 0))) 
    (sn_par false false (sn_a (sn_var 1) (sn_a (sn_op o_mod (sn_var 0) (sn_var 1)) sn_a0)))) 
    (sn_ret (SndE.bo (sn_var 0)))))) h⟩
end
def y_fraction : F1 Out := (sSeq (sSet 2 (eIf (bV (e2 gGt (eVar 1) (eC (.int 0)))) (eCall d_common (eA (eVar 0) (eA (eVar 1) eA0))) (e1 gNeg (eCall d_common (eA (eVar 0) (eA (eVar 1) eA0)))))) 
    (sRet (eTup (eA (e2 gDiv (eVar 0) (eVar 2)) (eA (e2 gDiv (eVar 1) (eVar 2)) eA0)))))
def d_fraction : List PyData → W → Option (PyData × W) := fnD 3 y_fraction
section
variable {P : Program} {w : World} {K : PySem.W.Frag} {mg : Str → Option Value} {base : Heap} {A : Nat → Addr} {D : Nat → FuncData}
theorem ok_fraction (T : Txt K mg A D) : FnG P w K mg base 2 (A 4) (D 4) p_fraction (spD K 2 d_fraction) :=
  FnG.ok T.f_fraction.F sc_fraction (fun vs H Q E h => spD.len h) fun cdv Ar outer s H vs Q E hgd hr h => by
    have hu := hr.units
    exact ⟨_, (pss_cons (ps_set (i := 2) sc_fraction.nd rfl (by first | exact Or.inl rfl | exact Or.inr rfl) (pe_ifExp (pt_cmpR op_gt (pv 1) pe_int (nomark _)) (pe_fn (ok_common T) hgd (hr.mono (by decide)) rfl T.f_common.mg T.f_common.F.kp T.f_common.b (pa_cons (pv 0) (pa_cons (pv 1) pa_nil))) (pe_un un_neg (pe_fn (ok_common T) hgd (hr.mono (by decide)) rfl T.f_common.mg T.f_common.F.kp T.f_common.b (pa_cons (pv 0) (pa_cons (pv 1) pa_nil))))))
    (pss_one (ps_ret (pe_tup (pa_cons (pe_op op_fdivN (pv 0) (pv 2)) (pa_cons (pe_op op_fdivN (pv 1) (pv 2)) pa_nil)))))),
    body_ok (N := n_fraction) (f := y_fraction) ((sn_seq (sn_set 2 (sn_ifx (sn_tst (sn_op o_cmp (sn_var 1) (sn_int 0))) (sn_call (sn_a (sn_var 0) (sn_a (sn_var 1) sn_a0))) (sn_un o_neg (sn_call (sn_a (sn_var 0) (sn_a (sn_var 1) sn_a0)))))) 
    (sn_ret (SndE.bo (sn_tup (sn_a (sn_op o_fdiv (sn_var 0) (sn_var 2)) (sn_a (sn_op o_fdiv (sn_var 1) (sn_var 2)) sn_a0))))))) h⟩
end
def y_is_fraction : F1 Out := (sSeq (sIf (bOr (bNot (bV (eCall d_is_sized (eA (eVar 0) (eA (eC (.int 2)) (eA (eC (.int 2)) eA0)))))) (bOr (bNot (bV (e1 gAll (eLc [1] (iItems (eVar 0)) (gSet 1) bYes (eCall d_is_integer (eA (eVar 1) eA0)))))) (bV (e2 gLt (e2 gIx (eVar 0) (eC (.int 1))) (eC (.int 1)))))) (sRet (eC (.bool false))) sNext) 
    (sRet (e2 gEq (eCall d_common (eA (e2 gIx (eVar 0) (eC (.int 0))) (eA (e2 gIx (eVar 0) (eC (.int 1))) eA0))) (eC (.int 1)))))
def d_is_fraction : List PyData → W → Option (PyData × W) := fnD 2 y_is_fraction
section
variable {P : Program} {w : World} {K : PySem.W.Frag} {mg : Str → Option Value} {base : Heap} {A : Nat → Addr} {D : Nat → FuncData}
theorem ok_is_fraction (T : Txt K mg A D) : FnG P w K mg base 2 (A 5) (D 5) p_is_fraction (spD K 1 d_is_fraction) :=
  FnG.ok T.f_is_fraction.F sc_is_fraction (fun vs H Q E h => spD.len h) fun cdv Ar outer s H vs Q E hgd hr h => by
    have hu := hr.units
    exact ⟨_, (pss_cons (ps_if (PW.pt (pw_or (pt_not (pt_val (pe_fn (ok_is_sized T) hgd (hr.mono (by decide)) rfl T.f_is_sized.mg T.f_is_sized.F.kp T.f_is_sized.b (pa_cons (pv 0) (pa_cons pe_int (pa_cons pe_int pa_nil)))))) (pw_or (pt_not (pt_val (pe_callB (cr_all rfl) (by rfl) T.b_all bb_all (pa_cons (pe_lc (own := [("one", 1)]) (tt := tYes) rfl sc_is_fraction.nd (pi_seq (pv 0)) (blkOk_by (own := [("one", 1)]) (N := n_is_fraction) (sc := defScope s_is_fraction) (by decide +kernel)) (fun _ _ _ _ _ => (pg_name (i := 1) sc_is_fraction.nd rfl (by first | exact Or.inl rfl | exact Or.inr rfl))) (fun _ _ _ _ _ => pts_nil) (fun _ _ _ _ _ => (pe_fn (ok_is_integer T) hgd (hr.mono (by decide)) rfl T.f_is_integer.mg T.f_is_integer.F.kp T.f_is_integer.b (pa_cons (pv 1) pa_nil)))) pa_nil)))) (pw_or1 (pt_cmpR op_lt (pe_ix ix_seq (pv 0) pe_int (fun _ _ => rfl)) pe_int (nomark _)))))) (pss_one (ps_ret pe_bl)) pss_nil)
    (pss_one (ps_ret (pe_cmpR (opEq hu) (pe_fn (ok_common T) hgd (hr.mono (by decide)) rfl T.f_common.mg T.f_common.F.kp T.f_common.b (pa_cons (pe_ix ix_seq (pv 0) pe_int (fun _ _ => rfl)) (pa_cons (pe_ix ix_seq (pv 0) pe_int (fun _ _ => rfl)) pa_nil))) pe_int (nomark _))))),
    body_ok (N := n_is_fraction) (f := y_is_fraction) ((sn_seq (sn_if (sn_or (sn_not (sn_tB (sn_call (sn_a (sn_var 0) (sn_a (sn_int 2) (sn_a (sn_int 2) sn_a0)))))) (sn_or (sn_not (sn_tB (sn_cb1 o_all (sn_lc (vs := [1]) (si_seqB (sn_var 0)) (sg_name 1) sn_yes (sn_call (sn_a (sn_var 1) sn_a0)))))) (sn_tst (sn_op o_cmp (sn_op o_ix (sn_var 0) (sn_int 1)) (sn_int 1))))) (sn_ret (SndE.bo (sn_bl false))) sn_next) 
    (sn_ret (SndE.bo (sn_op o_eq (sn_call (sn_a (sn_op o_ix (sn_var 0) (sn_int 0)) (sn_a (sn_op o_ix (sn_var 0) (sn_int 1)) sn_a0))) (sn_int 1)))))) h⟩
end
def y_plus : F1 Out := (sRet (eCall d_fraction (eA (e2 gAdd (e2 gMul (e2 gIx (eVar 0) (eC (.int 0))) (e2 gIx (eVar 1) (eC (.int 1)))) (e2 gMul (e2 gIx (eVar 1) (eC (.int 0))) (e2 gIx (eVar 0) (eC (.int 1))))) (eA (e2 gMul (e2 gIx (eVar 0) (eC (.int 1))) (e2 gIx (eVar 1) (eC (.int 1)))) eA0))))
def d_plus : List PyData → W → Option (PyData × W) := fnD 2 y_plus
section
variable {P : Program} {w : World} {K : PySem.W.Frag} {mg : Str → Option Value} {base : Heap} {A : Nat → Addr} {D : Nat → FuncData}
theorem ok_plus (T : Txt K mg A D) : FnG P w K mg base 3 (A 6) (D 6) p_plus (spD K 2 d_plus) :=
  FnG.ok T.f_plus.F sc_plus (fun vs H Q E h => spD.len h) fun cdv Ar outer s H vs Q E hgd hr h => by
    have hu := hr.units
    exact ⟨_, (pss_one (ps_ret (pe_fn (ok_fraction T) hgd (hr.mono (by decide)) rfl T.f_fraction.mg T.f_fraction.F.kp T.f_fraction.b (pa_cons (pe_op opAdd (pe_op opMul (pe_ix ix_seq (pv 0) pe_int (fun _ _ => rfl)) (pe_ix ix_seq (pv 1) pe_int (fun _ _ => rfl))) (pe_op opMul (pe_ix ix_seq (pv 1) pe_int (fun _ _ => rfl)) (pe_ix ix_seq (pv 0) pe_int (fun _ _ => rfl)))) (pa_cons (pe_op opMul (pe_ix ix_seq (pv 0) pe_int (fun _ _ => rfl)) (pe_ix ix_seq (pv 1) pe_int (fun _ _ => rfl))) pa_nil))))),
    body_ok (N := n_plus) (f := y_plus) ((sn_ret (SndE.bo (sn_call (sn_a (sn_op o_add (sn_op o_mul (sn_op o_ix (sn_var 0) (sn_int 0)) (sn_op o_ix (sn_var 1) (sn_int 1))) (sn_op o_mul (sn_op o_ix (sn_var 1) (sn_int 0)) (sn_op o_ix (sn_var 0) (sn_int 1)))) (sn_a (sn_op o_mul (sn_op o_ix (sn_var 0) (sn_int 1)) (sn_op o_ix (sn_var 1) (sn_int 1))) sn_a0)))))) h⟩
end
def y_minus : F1 Out := (sRet (eCall d_fraction (eA (e2 gSub (e2 gMul (e2 gIx (eVar 0) (eC (.int 0))) (e2 gIx (eVar 1) (eC (.int 1)))) (e2 gMul (e2 gIx (eVar 1) (eC (.int 0))) (e2 gIx (eVar 0) (eC (.int 1))))) (eA (e2 gMul (e2 gIx (eVar 0) (eC (.int 1))) (e2 gIx (eVar 1) (eC (.int 1)))) eA0))))
def d_minus : List PyData → W → Option (PyData × W) := fnD 2 y_minus
section
variable {P : Program} {w : World} {K : PySem.W.Frag} {mg : Str → Option Value} {base : Heap} {A : Nat → Addr} {D : Nat → FuncData}
theorem ok_minus (T : Txt K mg A D) : FnG P w K mg base 3 (A 7) (D 7) p_minus (spD K 2 d_minus) :=
  FnG.ok T.f_minus.F sc_minus (fun vs H Q E h => spD.len h) fun cdv Ar outer s H vs Q E hgd hr h => by
    have hu := hr.units
    exact ⟨_, (pss_one (ps_ret (pe_fn (ok_fraction T) hgd (hr.mono (by decide)) rfl T.f_fraction.mg T.f_fraction.F.kp T.f_fraction.b (pa_cons (pe_op op_sub (pe_op opMul (pe_ix ix_seq (pv 0) pe_int (fun _ _ => rfl)) (pe_ix ix_seq (pv 1) pe_int (fun _ _ => rfl))) (pe_op opMul (pe_ix ix_seq (pv 1) pe_int (fun _ _ => rfl)) (pe_ix ix_seq (pv 0) pe_int (fun _ _ => rfl)))) (pa_cons (pe_op opMul (pe_ix ix_seq (pv 0) pe_int (fun _ _ => rfl)) (pe_ix ix_seq (pv 1) pe_int (fun _ _ => rfl))) pa_nil))))),
    body_ok (N := n_minus) (f := y_minus) ((sn_ret (SndE.bo (sn_call (sn_a (sn_op o_sub (sn_op o_mul (sn_op o_ix (sn_var 0) (sn_int 0)) (sn_op o_ix (sn_var 1) (sn_int 1))) (sn_op o_mul (sn_op o_ix (sn_var 1) (sn_int 0)) (sn_op o_ix (sn_var 0) (sn_int 1)))) (sn_a (sn_op o_mul (sn_op o_ix (sn_var 0) (sn_int 1)) (sn_op o_ix (sn_var 1) (sn_int 1))) sn_a0)))))) h⟩
end
def y_times : F1 Out := (sRet (eCall d_fraction (eA (e2 gMul (e2 gIx (eVar 0) (eC (.int 0))) (e2 gIx (eVar 1) (eC (.int 0)))) (eA (e2 gMul (e2 gIx (eVar 0) (eC (.int 1))) (e2 gIx (eVar 1) (eC (.int 1)))) eA0))))
def d_times : List PyData → W → Option (PyData × W) := fnD 2 y_times
section
variable {P : Program} {w : World} {K : PySem.W.Frag} {mg : Str → Option Value} {base : Heap} {A : Nat → Addr} {D : Nat → FuncData}
theorem ok_times (T : Txt K mg A D) : FnG P w K mg base 3 (A 8) (D 8) p_times (spD K 2 d_times) :=
  FnG.ok T.f_times.F sc_times (fun vs H Q E h => spD.len h) fun cdv Ar outer s H vs Q E hgd hr h => by
    have hu := hr.units
    exact ⟨_, (pss_one (ps_ret (pe_fn (ok_fraction T) hgd (hr.mono (by decide)) rfl T.f_fraction.mg T.f_fraction.F.kp T.f_fraction.b (pa_cons (pe_op opMul (pe_ix ix_seq (pv 0) pe_int (fun _ _ => rfl)) (pe_ix ix_seq (pv 1) pe_int (fun _ _ => rfl))) (pa_cons (pe_op opMul (pe_ix ix_seq (pv 0) pe_int (fun _ _ => rfl)) (pe_ix ix_seq (pv 1) pe_int (fun _ _ => rfl))) pa_nil))))),
    body_ok (N := n_times) (f := y_times) ((sn_ret (SndE.bo (sn_call (sn_a (sn_op o_mul (sn_op o_ix (sn_var 0) (sn_int 0)) (sn_op o_ix (sn_var 1) (sn_int 0))) (sn_a (sn_op o_mul (sn_op o_ix (sn_var 0) (sn_int 1)) (sn_op o_ix (sn_var 1) (sn_int 1))) sn_a0)))))) h⟩
end
def y_over : F1 Out := (sRet (eCall d_fraction (eA (e2 gMul (e2 gIx (eVar 0) (eC (.int 0))) (e2 gIx (eVar 1) (eC (.int 1)))) (eA (e2 gMul (e2 gIx (eVar 0) (eC (.int 1))) (e2 gIx (eVar 1) (eC (.int 0)))) eA0))))
def d_over : List PyData → W → Option (PyData × W) := fnD 2 y_over
section
variable {P : Program} {w : World} {K : PySem.W.Frag} {mg : Str → Option Value} {base : Heap} {A : Nat → Addr} {D : Nat → FuncData}
theorem ok_over (T : Txt K mg A D) : FnG P w K mg base 3 (A 9) (D 9) p_over (spD K 2 d_over) :=
  FnG.ok T.f_over.F sc_over (fun vs H Q E h => spD.len h) fun cdv Ar outer s H vs Q E hgd hr h => by
    have hu := hr.units
    exact ⟨_, (pss_one (ps_ret (pe_fn (ok_fraction T) hgd (hr.mono (by decide)) rfl T.f_fraction.mg T.f_fraction.F.kp T.f_fraction.b (pa_cons (pe_op opMul (pe_ix ix_seq (pv 0) pe_int (fun _ _ => rfl)) (pe_ix ix_seq (pv 1) pe_int (fun _ _ => rfl))) (pa_cons (pe_op opMul (pe_ix ix_seq (pv 0) pe_int (fun _ _ => rfl)) (pe_ix ix_seq (pv 1) pe_int (fun _ _ => rfl))) pa_nil))))),
    body_ok (N := n_over) (f := y_over) ((sn_ret (SndE.bo (sn_call (sn_a (sn_op o_mul (sn_op o_ix (sn_var 0) (sn_int 0)) (sn_op o_ix (sn_var 1) (sn_int 1))) (sn_a (sn_op o_mul (sn_op o_ix (sn_var 0) (sn_int 1)) (sn_op o_ix (sn_var 1) (sn_int 0))) sn_a0)))))) h⟩
end
def y_is_racer : F1 Out := (sSeq (sIf (bOr (bNot (bV (eCall d_is_sized (eA (eVar 0) (eA (eC (.int 2)) (eA (eC (.int 2)) eA0)))))) (bOr (bNot (bV (eCall d_is_within (eA (e2 gIx (eVar 0) (eC (.int 0))) (eA (e1 gNeg (eC (.int (1000)))) (eA (eC (.int (1000))) eA0)))))) (bNot (bV (eCall d_is_fraction (eA (e2 gIx (eVar 0) (eC (.int 1))) eA0)))))) (sRet (eC (.bool false))) sNext) 
    (sRet (eAndV (e2 gLe (e1 gAbs (e2 gIx (e2 gIx (eVar 0) (eC (.int 1))) (eC (.int 0)))) (eC (.int (50)))) (e2 gLe (e2 gIx (e2 gIx (eVar 0) (eC (.int 1))) (eC (.int 1))) (eC (.int (20)))))))
def d_is_racer : List PyData → W → Option (PyData × W) := fnD 1 y_is_racer
section
variable {P : Program} {w : World} {K : PySem.W.Frag} {mg : Str → Option Value} {base : Heap} {A : Nat → Addr} {D : Nat → FuncData}
theorem ok_is_racer (T : Txt K mg A D) : FnG P w K mg base 3 (A 10) (D 10) p_is_racer (spD K 1 d_is_racer) :=
  FnG.ok T.f_is_racer.F sc_is_racer (fun vs H Q E h => spD.len h) fun cdv Ar outer s H vs Q E hgd hr h => by
    have hu := hr.units
    exact ⟨_, (pss_cons (ps_if (PW.pt (pw_or (pt_not (pt_val (pe_fn (ok_is_sized T) hgd (hr.mono (by decide)) rfl T.f_is_sized.mg T.f_is_sized.F.kp T.f_is_sized.b (pa_cons (pv 0) (pa_cons pe_int (pa_cons pe_int pa_nil)))))) (pw_or (pt_not (pt_val (pe_fn (ok_is_within T) hgd (hr.mono (by decide)) rfl T.f_is_within.mg T.f_is_within.F.kp T.f_is_within.b (pa_cons (pe_ix ix_seq (pv 0) pe_int (fun _ _ => rfl)) (pa_cons (pe_un un_neg (pe_cI rfl T.c_MOST_START)) (pa_cons (pe_cI rfl T.c_MOST_START) pa_nil)))))) (pw_or1 (pt_not (pt_val (pe_fn (ok_is_fraction T) hgd (hr.mono (by decide)) rfl T.f_is_fraction.mg T.f_is_fraction.F.kp T.f_is_fraction.b (pa_cons (pe_ix ix_seq (pv 0) pe_int (fun _ _ => rfl)) pa_nil)))))))) (pss_one (ps_ret pe_bl)) pss_nil)
    (pss_one (ps_ret (pe_and (pe_cmpR op_le (pe_callB call_abs (by rfl) T.b_abs bb_abs (pa_cons (pe_ix ix_seq (pe_ix ix_seq (pv 0) pe_int (fun _ _ => rfl)) pe_int (fun _ _ => rfl)) pa_nil)) (pe_cI rfl T.c_MOST_SPEED_TOP) (nomark _)) (pe_one (pe_cmpR op_le (pe_ix ix_seq (pe_ix ix_seq (pv 0) pe_int (fun _ _ => rfl)) pe_int (fun _ _ => rfl)) (pe_cI rfl T.c_MOST_SPEED_BOTTOM) (nomark _))))))),
    body_ok (N := n_is_racer) (f := y_is_racer) ((sn_seq (sn_if (sn_or (sn_not (sn_tB (sn_call (sn_a (sn_var 0) (sn_a (sn_int 2) (sn_a (sn_int 2) sn_a0)))))) (sn_or (sn_not (sn_tB (sn_call (sn_a (sn_op o_ix (sn_var 0) (sn_int 0)) (sn_a (sn_un o_neg (sn_int (1000))) (sn_a (sn_int (1000)) sn_a0)))))) (sn_not (sn_tB (sn_call (sn_a (sn_op o_ix (sn_var 0) (sn_int 1)) sn_a0)))))) (sn_ret (SndE.bo (sn_bl false))) sn_next) 
    (sn_ret (SndE.bo (sn_andV (sn_op o_cmp (sn_cb1 o_abs (sn_op o_ix (sn_op o_ix (sn_var 0) (sn_int 1)) (sn_int 0))) (sn_int (50))) (sn_op o_cmp (sn_op o_ix (sn_op o_ix (sn_var 0) (sn_int 1)) (sn_int 1)) (sn_int (20)))))))) h⟩
end
def y_is_racers : F1 Out := (sRet (eAndV (eCall d_is_sized (eA (eVar 0) (eA (eC (.int 2)) (eA (eC (.int 6)) eA0)))) (e1 gAll (eLc [1] (iItems (eVar 0)) (gSet 1) bYes (eCall d_is_racer (eA (eVar 1) eA0))))))
def d_is_racers : List PyData → W → Option (PyData × W) := fnD 2 y_is_racers
section
variable {P : Program} {w : World} {K : PySem.W.Frag} {mg : Str → Option Value} {base : Heap} {A : Nat → Addr} {D : Nat → FuncData}
theorem ok_is_racers (T : Txt K mg A D) : FnG P w K mg base 4 (A 11) (D 11) p_is_racers (spD K 1 d_is_racers) :=
  FnG.ok T.f_is_racers.F sc_is_racers (fun vs H Q E h => spD.len h) fun cdv Ar outer s H vs Q E hgd hr h => by
    have hu := hr.units
    exact ⟨_, (pss_one (ps_ret (pe_and (pe_fn (ok_is_sized T) hgd (hr.mono (by decide)) rfl T.f_is_sized.mg T.f_is_sized.F.kp T.f_is_sized.b (pa_cons (pv 0) (pa_cons pe_int (pa_cons pe_int pa_nil)))) (pe_one (pe_callB (cr_all rfl) (by rfl) T.b_all bb_all (pa_cons (pe_lc (own := [("one", 1)]) (tt := tYes) rfl sc_is_racers.nd (pi_seq (pv 0)) (blkOk_by (own := [("one", 1)]) (N := n_is_racers) (sc := defScope s_is_racers) (by decide +kernel)) (fun _ _ _ _ _ => (pg_name (i := 1) sc_is_racers.nd rfl (by first | exact Or.inl rfl | exact Or.inr rfl))) (fun _ _ _ _ _ => pts_nil) (fun _ _ _ _ _ => (pe_fn (ok_is_racer T) hgd (hr.mono (by decide)) rfl T.f_is_racer.mg T.f_is_racer.F.kp T.f_is_racer.b (pa_cons (pv 1) pa_nil)))) pa_nil)))))),
    body_ok (N := n_is_racers) (f := y_is_racers) ((sn_ret (SndE.bo (sn_andV (sn_call (sn_a (sn_var 0) (sn_a (sn_int 2) (sn_a (sn_int 6) sn_a0)))) (sn_cb1 o_all (sn_lc (vs := [1]) (si_seqB (sn_var 0)) (sg_name 1) sn_yes (sn_call (sn_a (sn_var 1) sn_a0)))))))) h⟩
end
def y_check_racers : F1 Out := (sIf (bNot (bV (eCall d_is_racers (eA (eVar 0) eA0)))) sNever sNext)
def d_check_racers : List PyData → W → Option (PyData × W) := fnD 1 y_check_racers
section
variable {P : Program} {w : World} {K : PySem.W.Frag} {mg : Str → Option Value} {base : Heap} {A : Nat → Addr} {D : Nat → FuncData}
theorem ok_check_racers (T : Txt K mg A D) : FnG P w K mg base 5 (A 12) (D 12) p_check_racers (spD K 1 d_check_racers) :=
  FnG.ok T.f_check_racers.F sc_check_racers (fun vs H Q E h => spD.len h) fun cdv Ar outer s H vs Q E hgd hr h => by
    have hu := hr.units
    exact ⟨_, (pss_one (ps_if (pt_not (pt_val (pe_fn (ok_is_racers T) hgd (hr.mono (by decide)) rfl T.f_is_racers.mg T.f_is_racers.F.kp T.f_is_racers.b (pa_cons (pv 0) pa_nil)))) (pss_one ps_never) pss_nil)),
    body_ok (N := n_check_racers) (f := y_check_racers) ((sn_if (sn_not (sn_tB (sn_call (sn_a (sn_var 0) sn_a0)))) sn_never sn_next)) h⟩
end
def y_check_time_races : F1 Out := (sIf (bOr (bNot (bV (eCall d_is_fraction (eA (eVar 0) eA0)))) (bOr (bNot (bV (eChn pLe pLe (eC (.int 0)) (e2 gIx (eVar 0) (eC (.int 0))) (eC (.int (1000000000)))))) (bV (e2 gGt (e2 gIx (eVar 0) (eC (.int 1))) (eC (.int (1000000000))))))) sNever sNext)
def d_check_time_races : List PyData → W → Option (PyData × W) := fnD 1 y_check_time_races
section
variable {P : Program} {w : World} {K : PySem.W.Frag} {mg : Str → Option Value} {base : Heap} {A : Nat → Addr} {D : Nat → FuncData}
theorem ok_check_time_races (T : Txt K mg A D) : FnG P w K mg base 3 (A 13) (D 13) p_check_time_races (spD K 1 d_check_time_races) :=
  FnG.ok T.f_check_time_races.F sc_check_time_races (fun vs H Q E h => spD.len h) fun cdv Ar outer s H vs Q E hgd hr h => by
    have hu := hr.units
    exact ⟨_, (pss_one (ps_if (PW.pt (pw_or (pt_not (pt_val (pe_fn (ok_is_fraction T) hgd (hr.mono (by decide)) rfl T.f_is_fraction.mg T.f_is_fraction.F.kp T.f_is_fraction.b (pa_cons (pv 0) pa_nil)))) (pw_or (pt_not (pt_chain op_le op_le pe_int (pe_ix ix_seq (pv 0) pe_int (fun _ _ => rfl)) (pe_cI rfl T.c_MOST_TIME_PART))) (pw_or1 (pt_cmpR op_gt (pe_ix ix_seq (pv 0) pe_int (fun _ _ => rfl)) (pe_cI rfl T.c_MOST_TIME_PART) (nomark _)))))) (pss_one ps_never) pss_nil)),
    body_ok (N := n_check_time_races) (f := y_check_time_races) ((sn_if (sn_or (sn_not (sn_tB (sn_call (sn_a (sn_var 0) sn_a0)))) (sn_or (sn_not (sn_tst (sn_chn (sn_int 0) (sn_op o_ix (sn_var 0) (sn_int 0)) (sn_int (1000000000))))) (sn_tst (sn_op o_cmp (sn_op o_ix (sn_var 0) (sn_int 1)) (sn_int (1000000000)))))) sn_never sn_next)) h⟩
end
def y_check_racer : F1 Out := (sIf (bNot (bV (eCall d_is_within (eA (eVar 1) (eA (eC (.int 0)) (eA (e2 gSub (eVar 0) (eC (.int 1))) eA0)))))) sNever sNext)
def d_check_racer : List PyData → W → Option (PyData × W) := fnD 2 y_check_racer
section
variable {P : Program} {w : World} {K : PySem.W.Frag} {mg : Str → Option Value} {base : Heap} {A : Nat → Addr} {D : Nat → FuncData}
theorem ok_check_racer (T : Txt K mg A D) : FnG P w K mg base 3 (A 14) (D 14) p_check_racer (spD K 2 d_check_racer) :=
  FnG.ok T.f_check_racer.F sc_check_racer (fun vs H Q E h => spD.len h) fun cdv Ar outer s H vs Q E hgd hr h => by
    have hu := hr.units
    exact ⟨_, (pss_one (ps_if (pt_not (pt_val (pe_fn (ok_is_within T) hgd (hr.mono (by decide)) rfl T.f_is_within.mg T.f_is_within.F.kp T.f_is_within.b (pa_cons (pv 1) (pa_cons pe_int (pa_cons (pe_op op_sub (pv 0) pe_int) pa_nil)))))) (pss_one ps_never) pss_nil)),
    body_ok (N := n_check_racer) (f := y_check_racer) ((sn_if (sn_not (sn_tB (sn_call (sn_a (sn_var 1) (sn_a (sn_int 0) (sn_a (sn_op o_sub (sn_var 0) (sn_int 1)) sn_a0)))))) sn_never sn_next)) h⟩
end
def y_raw_racer_at : F1 Out := (sRet (eCall d_plus (eA (eTup (eA (e2 gIx (e2 gIx (eVar 0) (eVar 1)) (eC (.int 0))) (eA (eC (.int 1)) eA0))) (eA (eCall d_times (eA (e2 gIx (e2 gIx (eVar 0) (eVar 1)) (eC (.int 1))) (eA (eVar 2) eA0))) eA0))))
def d_raw_racer_at : List PyData → W → Option (PyData × W) := fnD 3 y_raw_racer_at
section
variable {P : Program} {w : World} {K : PySem.W.Frag} {mg : Str → Option Value} {base : Heap} {A : Nat → Addr} {D : Nat → FuncData}
theorem ok_raw_racer_at (T : Txt K mg A D) : FnG P w K mg base 4 (A 15) (D 15) p_raw_racer_at (spD K 3 d_raw_racer_at) :=
  FnG.ok T.f_raw_racer_at.F sc_raw_racer_at (fun vs H Q E h => spD.len h) fun cdv Ar outer s H vs Q E hgd hr h => by
    have hu := hr.units
    exact ⟨_, (pss_one (ps_ret (pe_fn (ok_plus T) hgd (hr.mono (by decide)) rfl T.f_plus.mg T.f_plus.F.kp T.f_plus.b (pa_cons (pe_tup (pa_cons (pe_ix ix_seq (pe_ix ix_seq (pv 0) (pv 1) (fun _ _ => rfl)) pe_int (fun _ _ => rfl)) (pa_cons pe_int pa_nil))) (pa_cons (pe_fn (ok_times T) hgd (hr.mono (by decide)) rfl T.f_times.mg T.f_times.F.kp T.f_times.b (pa_cons (pe_ix ix_seq (pe_ix ix_seq (pv 0) (pv 1) (fun _ _ => rfl)) pe_int (fun _ _ => rfl)) (pa_cons (pv 2) pa_nil))) pa_nil))))),
    body_ok (N := n_raw_racer_at) (f := y_raw_racer_at) ((sn_ret (SndE.bo (sn_call (sn_a (sn_tup (sn_a (sn_op o_ix (sn_op o_ix (sn_var 0) (sn_var 1)) (sn_int 0)) (sn_a (sn_int 1) sn_a0))) (sn_a (sn_call (sn_a (sn_op o_ix (sn_op o_ix (sn_var 0) (sn_var 1)) (sn_int 1)) (sn_a (sn_var 2) sn_a0))) sn_a0)))))) h⟩
end
def y_racer_at : F1 Out := (sSeq (sDrop (eCall d_check_racers (eA (eVar 0) eA0))) 
    (sSeq (sDrop (eCall d_check_racer (eA (e1 gLen (eVar 0)) (eA (eVar 1) eA0)))) 
    (sSeq (sDrop (eCall d_check_time_races (eA (eVar 2) eA0))) 
    (sRet (eCall d_raw_racer_at (eA (eVar 0) (eA (eVar 1) (eA (eVar 2) eA0))))))))
def d_racer_at : List PyData → W → Option (PyData × W) := fnD 3 y_racer_at
section
variable {P : Program} {w : World} {K : PySem.W.Frag} {mg : Str → Option Value} {base : Heap} {A : Nat → Addr} {D : Nat → FuncData}
theorem ok_racer_at (T : Txt K mg A D) : FnG P w K mg base 6 (A 16) (D 16) p_racer_at (spD K 3 d_racer_at) :=
  FnG.ok T.f_racer_at.F sc_racer_at (fun vs H Q E h => spD.len h) fun cdv Ar outer s H vs Q E hgd hr h => by
    have hu := hr.units
    exact ⟨_, (pss_cons (ps_expr (pe_fn (ok_check_racers T) hgd (hr.mono (by decide)) rfl T.f_check_racers.mg T.f_check_racers.F.kp T.f_check_racers.b (pa_cons (pv 0) pa_nil)))
    (pss_cons (ps_expr (pe_fn (ok_check_racer T) hgd (hr.mono (by decide)) rfl T.f_check_racer.mg T.f_check_racer.F.kp T.f_check_racer.b (pa_cons (pe_callB call_len (by rfl) T.b_len bb_len (pa_cons (pv 0) pa_nil)) (pa_cons (pv 1) pa_nil))))
    (pss_cons (ps_expr (pe_fn (ok_check_time_races T) hgd (hr.mono (by decide)) rfl T.f_check_time_races.mg T.f_check_time_races.F.kp T.f_check_time_races.b (pa_cons (pv 2) pa_nil)))
    (pss_one (ps_ret (pe_fn (ok_raw_racer_at T) hgd (hr.mono (by decide)) rfl T.f_raw_racer_at.mg T.f_raw_racer_at.F.kp T.f_raw_racer_at.b (pa_cons (pv 0) (pa_cons (pv 1) (pa_cons (pv 2) pa_nil))))))))),
    body_ok (N := n_racer_at) (f := y_racer_at) ((sn_seq (sn_drop (sn_call (sn_a (sn_var 0) sn_a0))) 
    (sn_seq (sn_drop (sn_call (sn_a (sn_cb1 o_len (sn_var 0)) (sn_a (sn_var 1) sn_a0)))) 
    (sn_seq (sn_drop (sn_call (sn_a (sn_var 2) sn_a0))) 
    (sn_ret (SndE.bo (sn_call (sn_a (sn_var 0) (sn_a (sn_var 1) (sn_a (sn_var 2) sn_a0)))))))))) h⟩
end
def y_ring_times : F1 Out := (sSeq (sSet 4 (e2 gSub (e2 gIx (e2 gIx (eVar 1) (eVar 3)) (eC (.int 0))) (e2 gIx (e2 gIx (eVar 1) (eVar 2)) (eC (.int 0))))) 
    (sSeq (sSet 5 (eCall d_minus (eA (e2 gIx (e2 gIx (eVar 1) (eVar 2)) (eC (.int 1))) (eA (e2 gIx (e2 gIx (eVar 1) (eVar 3)) (eC (.int 1))) eA0)))) 
    (sSeq (sIf (bV (e2 gEq (e2 gIx (eVar 5) (eC (.int 0))) (eC (.int 0)))) (sRet (eIf (bV (e2 gEq (e2 gMod (eVar 4) (eVar 0)) (eC (.int 0)))) (eTup (eA (eTup (eA (eC (.int 0)) (eA (eC (.int 1)) eA0))) (eA (eTup (eA (eC (.int 0)) (eA (eC (.int 1)) eA0))) eA0))) (eC .none))) sNext) 
    (sSeq (sIf (bV (e2 gLt (e2 gIx (eVar 5) (eC (.int 0))) (eC (.int 0)))) (sPar 4 5 false false (eA (e1 gNeg (eVar 4)) (eA (eTup (eA (e1 gNeg (e2 gIx (eVar 5) (eC (.int 0)))) (eA (e2 gIx (eVar 5) (eC (.int 1))) eA0))) eA0))) sNext) 
    (sRet (eTup (eA (eCall d_over (eA (eTup (eA (e2 gMod (eVar 4) (eVar 0)) (eA (eC (.int 1)) eA0))) (eA (eVar 5) eA0))) (eA (eCall d_over (eA (eTup (eA (eVar 0) (eA (eC (.int 1)) eA0))) (eA (eVar 5) eA0))) eA0))))))))
def d_ring_times : List PyData → W → Option (PyData × W) := fnD 6 y_ring_times
section
variable {P : Program} {w : World} {K : PySem.W.Frag} {mg : Str → Option Value} {base : Heap} {A : Nat → Addr} {D : Nat → FuncData}
theorem ok_ring_times (T : Txt K mg A D) : FnG P w K mg base 4 (A 17) (D 17) p_ring_times (spD K 4 d_ring_times) :=
  FnG.ok T.f_ring_times.F sc_ring_times (fun vs H Q E h => spD.len h) fun cdv Ar outer s H vs Q E hgd hr h => by
    have hu := hr.units
    exact ⟨_, (pss_cons (ps_set (i := 4) sc_ring_times.nd rfl (by first | exact Or.inl rfl | exact Or.inr rfl) (pe_op op_sub (pe_ix ix_seq (pe_ix ix_seq (pv 1) (pv 3) (fun _ _ => rfl)) pe_int (fun _ _ => rfl)) (pe_ix ix_seq (pe_ix ix_seq (pv 1) (pv 2) (fun _ _ => rfl)) pe_int (fun _ _ => rfl))))
    (pss_cons (ps_set (i := 5) sc_ring_times.nd rfl (by first | exact Or.inl rfl | exact Or.inr rfl) (pe_fn (ok_minus T) hgd (hr.mono (by decide)) rfl T.f_minus.mg T.f_minus.F.kp T.f_minus.b (pa_cons (pe_ix ix_seq (pe_ix ix_seq (pv 1) (pv 2) (fun _ _ => rfl)) pe_int (fun _ _ => rfl)) (pa_cons (pe_ix ix_seq (pe_ix ix_seq (pv 1) (pv 3) (fun _ _ => rfl)) pe_int (fun _ _ => rfl)) pa_nil))))
    (pss_cons (ps_if (pt_cmpR (opEq hu) (pe_ix ix_seq (pv 5) pe_int (fun _ _ => rfl)) pe_int (nomark _)) (pss_one (ps_ret (pe_ifExp (pt_cmpR (opEq hu) (pe_op op_modN (pv 4) (pv 0)) pe_int (nomark _)) (pe_tup (pa_cons (pe_tup (pa_cons pe_int (pa_cons pe_int pa_nil))) (pa_cons (pe_tup (pa_cons pe_int (pa_cons pe_int pa_nil))) pa_nil))) pe_non))) pss_nil)
    (pss_cons (ps_if (pt_cmpR op_lt (pe_ix ix_seq (pv 5) pe_int (fun _ _ => rfl)) pe_int (nomark _)) (pss_one (ps_par (i := 4) (j := 5) (by rfl) sc_ring_times.nd rfl rfl (by decide) rfl rfl (pa_cons (pe_un un_neg (pv 4)) (pa_cons (pe_tup (pa_cons (pe_un un_neg (pe_ix ix_seq (pv 5) pe_int (fun _ _ => rfl))) (pa_cons (pe_ix ix_seq (pv 5) pe_int (fun _ _ => rfl)) pa_nil))) pa_nil)) (by rfl))) pss_nil)
    (pss_one (ps_ret (pe_tup (pa_cons (pe_fn (ok_over T) hgd (hr.mono (by decide)) rfl T.f_over.mg T.f_over.F.kp T.f_over.b (pa_cons (pe_tup (pa_cons (pe_op op_modN (pv 4) (pv 0)) (pa_cons pe_int pa_nil))) (pa_cons (pv 5) pa_nil))) (pa_cons (pe_fn (ok_over T) hgd (hr.mono (by decide)) rfl T.f_over.mg T.f_over.F.kp T.f_over.b (pa_cons (pe_tup (pa_cons (pv 0) (pa_cons pe_int pa_nil))) (pa_cons (pv 5) pa_nil))) pa_nil))))))))),
    body_ok (N := n_ring_times) (f := y_ring_times) ((sn_seq (sn_set 4 (sn_op o_sub (sn_op o_ix (sn_op o_ix (sn_var 1) (sn_var 3)) (sn_int 0)) (sn_op o_ix (sn_op o_ix (sn_var 1) (sn_var 2)) (sn_int 0)))) 
    (sn_seq (sn_set 5 (sn_call (sn_a (sn_op o_ix (sn_op o_ix (sn_var 1) (sn_var 2)) (sn_int 1)) (sn_a (sn_op o_ix (sn_op o_ix (sn_var 1) (sn_var 3)) (sn_int 1)) sn_a0)))) 
    (sn_seq (sn_if (sn_tst (sn_op o_eq (sn_op o_ix (sn_var 5) (sn_int 0)) (sn_int 0))) (sn_ret (SndE.bo (sn_ifx (sn_tst (sn_op o_eq (sn_op o_mod (sn_var 4) (sn_var 0)) (sn_int 0))) (sn_tup (sn_a (sn_tup (sn_a (sn_int 0) (sn_a (sn_int 1) sn_a0))) (sn_a (sn_tup (sn_a (sn_int 0) (sn_a (sn_int 1) sn_a0))) sn_a0))) sn_non))) sn_next) 
    (sn_seq (sn_if (sn_tst (sn_op o_cmp (sn_op o_ix (sn_var 5) (sn_int 0)) (sn_int 0))) (sn_par false false (sn_a (sn_un o_neg (sn_var 4)) (sn_a (sn_tup (sn_a (sn_un o_neg (sn_op o_ix (sn_var 5) (sn_int 0))) (sn_a (sn_op o_ix (sn_var 5) (sn_int 1)) sn_a0))) sn_a0))) sn_next) 
    (sn_ret (SndE.bo (sn_tup (sn_a (sn_call (sn_a (sn_tup (sn_a (sn_op o_mod (sn_var 4) (sn_var 0)) (sn_a (sn_int 1) sn_a0))) (sn_a (sn_var 5) sn_a0))) (sn_a (sn_call (sn_a (sn_tup (sn_a (sn_var 0) (sn_a (sn_int 1) sn_a0))) (sn_a (sn_var 5) sn_a0))) sn_a0)))))))))) h⟩
end
def y_both_times : F1 Out := (sSeq (sIf (bOr (bV (e2 gIsN (eVar 0) (eC .none))) (bV (e2 gIsN (eVar 1) (eC .none)))) (sRet (eC .none)) sNext) 
    (sSeq (sIf (bOr (bV (e2 gEq (e2 gIx (e2 gIx (eVar 0) (eC (.int 1))) (eC (.int 0))) (eC (.int 0)))) (bV (e2 gEq (e2 gIx (e2 gIx (eVar 1) (eC (.int 1))) (eC (.int 0))) (eC (.int 0))))) (sRet (eIf (bV (e2 gEq (e2 gIx (e2 gIx (eVar 0) (eC (.int 1))) (eC (.int 0))) (eC (.int 0)))) (eVar 1) (eVar 0))) sNext) 
    (sSeq sNever (sSeq sNever (sSeq sNever (sSeq sNever (sSeq sNever (sSeq sNever sNever))))))))
def d_both_times : List PyData → W → Option (PyData × W) := fnD 9 y_both_times
section
variable {P : Program} {w : World} {K : PySem.W.Frag} {mg : Str → Option Value} {base : Heap} {A : Nat → Addr} {D : Nat → FuncData}
theorem ok_both_times (T : Txt K mg A D) : FnG P w K mg base 1 (A 18) (D 18) p_both_times (spD K 2 d_both_times) :=
  FnG.ok T.f_both_times.F sc_both_times (fun vs H Q E h => spD.len h) fun cdv Ar outer s H vs Q E hgd hr h => by
    have hu := hr.units
    exact ⟨_, (pss_cons (ps_if (PW.pt (pw_or (pt_cmpR op_isN (pv 0) pe_non (nomark _)) (pw_or1 (pt_cmpR op_isN (pv 1) pe_non (nomark _))))) (pss_one (ps_ret pe_non)) pss_nil)
    (pss_cons (ps_if (PW.pt (pw_or (pt_cmpR (opEq hu) (pe_ix ix_seq (pe_ix ix_seq (pv 0) pe_int (fun _ _ => rfl)) pe_int (fun _ _ => rfl)) pe_int (nomark _)) (pw_or1 (pt_cmpR (opEq hu) (pe_ix ix_seq (pe_ix ix_seq (pv 1) pe_int (fun _ _ => rfl)) pe_int (fun _ _ => rfl)) pe_int (nomark _))))) (pss_one (ps_ret (pe_ifExp (pt_cmpR (opEq hu) (pe_ix ix_seq (pe_ix ix_seq (pv 0) pe_int (fun _ _ => rfl)) pe_int (fun _ _ => rfl)) pe_int (nomark _)) (pv 1) (pv 0)))) pss_nil)
    (pss_cons ps_never (pss_cons ps_never (pss_cons ps_never (pss_cons ps_never (pss_cons ps_never (pss_cons ps_never (pss_one ps_never))))))))),
    body_ok (N := n_both_times) (f := y_both_times) ((sn_seq (sn_if (sn_or (sn_tst (sn_op o_isN (sn_var 0) sn_non)) (sn_tst (sn_op o_isN (sn_var 1) sn_non))) (sn_ret (SndE.bo sn_non)) sn_next) 
    (sn_seq (sn_if (sn_or (sn_tst (sn_op o_eq (sn_op o_ix (sn_op o_ix (sn_var 0) (sn_int 1)) (sn_int 0)) (sn_int 0))) (sn_tst (sn_op o_eq (sn_op o_ix (sn_op o_ix (sn_var 1) (sn_int 1)) (sn_int 0)) (sn_int 0)))) (sn_ret (SndE.bo (sn_ifx (sn_tst (sn_op o_eq (sn_op o_ix (sn_op o_ix (sn_var 0) (sn_int 1)) (sn_int 0)) (sn_int 0))) (sn_var 1) (sn_var 0)))) sn_next) 
    (sn_seq sn_never (sn_seq sn_never (sn_seq sn_never (sn_seq sn_never (sn_seq sn_never (sn_seq sn_never sn_never))))))))) h⟩
end
def y_ring_time : F1 Out := (sSeq (sSet 3 (eTup (eA (eTup (eA (eC (.int 0)) (eA (eC (.int 1)) eA0))) (eA (eTup (eA (eC (.int 0)) (eA (eC (.int 1)) eA0))) eA0)))) 
    (sSeq (sFor (iItems (eSl gSl (eVar 2) (oSome (eC (.int 1))) oNone)) (gSet 4) 
    (sSeq (sSet 3 (eCall d_both_times (eA (eVar 3) (eA (eCall d_ring_times (eA (eVar 0) (eA (eVar 1) (eA (e2 gIx (eVar 2) (eC (.int 0))) (eA (eVar 4) eA0))))) eA0)))) 
    (sIf (bV (e2 gIsN (eVar 3) (eC .none))) (sRet (eC .none)) sNext))) 
    (sRet (e2 gIx (eVar 3) (eC (.int 0))))))
def d_ring_time : List PyData → W → Option (PyData × W) := fnD 5 y_ring_time
section
variable {P : Program} {w : World} {K : PySem.W.Frag} {mg : Str → Option Value} {base : Heap} {A : Nat → Addr} {D : Nat → FuncData}
theorem ok_ring_time (T : Txt K mg A D) : FnG P w K mg base 5 (A 19) (D 19) p_ring_time (spD K 3 d_ring_time) :=
  FnG.ok T.f_ring_time.F sc_ring_time (fun vs H Q E h => spD.len h) fun cdv Ar outer s H vs Q E hgd hr h => by
    have hu := hr.units
    exact ⟨_, (pss_cons (ps_set (i := 3) sc_ring_time.nd rfl (by first | exact Or.inl rfl | exact Or.inr rfl) (pe_tup (pa_cons (pe_tup (pa_cons pe_int (pa_cons pe_int pa_nil))) (pa_cons (pe_tup (pa_cons pe_int (pa_cons pe_int pa_nil))) pa_nil))))
    (pss_cons (ps_for PassesOwn.never rfl (pi_seq (pe_slice slX (pv 2) (po_some pe_int) po_none)) (pg_name (i := 4) sc_ring_time.nd rfl (by first | exact Or.inl rfl | exact Or.inr rfl))
    (pss_cons (ps_set (i := 3) sc_ring_time.nd rfl (by first | exact Or.inl rfl | exact Or.inr rfl) (pe_fn (ok_both_times T) hgd (hr.mono (by decide)) rfl T.f_both_times.mg T.f_both_times.F.kp T.f_both_times.b (pa_cons (pv 3) (pa_cons (pe_fn (ok_ring_times T) hgd (hr.mono (by decide)) rfl T.f_ring_times.mg T.f_ring_times.F.kp T.f_ring_times.b (pa_cons (pv 0) (pa_cons (pv 1) (pa_cons (pe_ix ix_seq (pv 2) pe_int (fun _ _ => rfl)) (pa_cons (pv 4) pa_nil))))) pa_nil))))
    (pss_one (ps_if (pt_cmpR op_isN (pv 3) pe_non (nomark _)) (pss_one (ps_ret pe_non)) pss_nil))))
    (pss_one (ps_ret (pe_ix ix_seq (pv 3) pe_int (fun _ _ => rfl)))))),
    body_ok (N := n_ring_time) (f := y_ring_time) ((sn_seq (sn_set 3 (sn_tup (sn_a (sn_tup (sn_a (sn_int 0) (sn_a (sn_int 1) sn_a0))) (sn_a (sn_tup (sn_a (sn_int 0) (sn_a (sn_int 1) sn_a0))) sn_a0)))) 
    (sn_seq (sn_for (si_seqS (sn_sl o_sl (sn_var 2) (so_some (sn_int 1)) so_none)) (sg_name 4) 
    (sn_seq (sn_set 3 (sn_call (sn_a (sn_var 3) (sn_a (sn_call (sn_a (sn_var 0) (sn_a (sn_var 1) (sn_a (sn_op o_ix (sn_var 2) (sn_int 0)) (sn_a (sn_var 4) sn_a0))))) sn_a0)))) 
    (sn_if (sn_tst (sn_op o_isN (sn_var 3) sn_non)) (sn_ret (SndE.bo sn_non)) sn_next))) 
    (sn_ret (SndE.bo (sn_op o_ix (sn_var 3) (sn_int 0))))))) h⟩
end
def y_check_round : F1 Out := (sSeq (sIf (bNot (bV (eCall d_is_within (eA (eVar 0) (eA (eC (.int 1)) (eA (eC (.int (360))) eA0)))))) sNever sNext) 
    (sDrop (eCall d_check_racers (eA (eVar 1) eA0))))
def d_check_round : List PyData → W → Option (PyData × W) := fnD 2 y_check_round
section
variable {P : Program} {w : World} {K : PySem.W.Frag} {mg : Str → Option Value} {base : Heap} {A : Nat → Addr} {D : Nat → FuncData}
theorem ok_check_round (T : Txt K mg A D) : FnG P w K mg base 6 (A 20) (D 20) p_check_round (spD K 2 d_check_round) :=
  FnG.ok T.f_check_round.F sc_check_round (fun vs H Q E h => spD.len h) fun cdv Ar outer s H vs Q E hgd hr h => by
    have hu := hr.units
    exact ⟨_, (pss_cons (ps_if (pt_not (pt_val (pe_fn (ok_is_within T) hgd (hr.mono (by decide)) rfl T.f_is_within.mg T.f_is_within.F.kp T.f_is_within.b (pa_cons (pv 0) (pa_cons pe_int (pa_cons (pe_cI rfl T.c_MOST_ROUND) pa_nil)))))) (pss_one ps_never) pss_nil)
    (pss_one (ps_expr (pe_fn (ok_check_racers T) hgd (hr.mono (by decide)) rfl T.f_check_racers.mg T.f_check_racers.F.kp T.f_check_racers.b (pa_cons (pv 1) pa_nil))))),
    body_ok (N := n_check_round) (f := y_check_round) ((sn_seq (sn_if (sn_not (sn_tB (sn_call (sn_a (sn_var 0) (sn_a (sn_int 1) (sn_a (sn_int (360)) sn_a0)))))) sn_never sn_next) 
    (sn_drop (sn_call (sn_a (sn_var 1) sn_a0))))) h⟩
end
def y_ring_meeting : F1 Out := (sSeq (sDrop (eCall d_check_round (eA (eVar 0) (eA (eVar 1) eA0)))) 
    (sSeq (sDrop (eCall d_check_racer (eA (e1 gLen (eVar 1)) (eA (eVar 2) eA0)))) 
    (sSeq (sDrop (eCall d_check_racer (eA (e1 gLen (eVar 1)) (eA (eVar 3) eA0)))) 
    (sSeq (sIf (bV (e2 gEq (eVar 2) (eVar 3))) sNever sNext) 
    (sRet (eCall d_ring_time (eA (eVar 0) (eA (eVar 1) (eA (eTup (eA (eVar 2) (eA (eVar 3) eA0))) eA0)))))))))
def d_ring_meeting : List PyData → W → Option (PyData × W) := fnD 4 y_ring_meeting
section
variable {P : Program} {w : World} {K : PySem.W.Frag} {mg : Str → Option Value} {base : Heap} {A : Nat → Addr} {D : Nat → FuncData}
theorem ok_ring_meeting (T : Txt K mg A D) : FnG P w K mg base 7 (A 21) (D 21) p_ring_meeting (spD K 4 d_ring_meeting) :=
  FnG.ok T.f_ring_meeting.F sc_ring_meeting (fun vs H Q E h => spD.len h) fun cdv Ar outer s H vs Q E hgd hr h => by
    have hu := hr.units
    exact ⟨_, (pss_cons (ps_expr (pe_fn (ok_check_round T) hgd (hr.mono (by decide)) rfl T.f_check_round.mg T.f_check_round.F.kp T.f_check_round.b (pa_cons (pv 0) (pa_cons (pv 1) pa_nil))))
    (pss_cons (ps_expr (pe_fn (ok_check_racer T) hgd (hr.mono (by decide)) rfl T.f_check_racer.mg T.f_check_racer.F.kp T.f_check_racer.b (pa_cons (pe_callB call_len (by rfl) T.b_len bb_len (pa_cons (pv 1) pa_nil)) (pa_cons (pv 2) pa_nil))))
    (pss_cons (ps_expr (pe_fn (ok_check_racer T) hgd (hr.mono (by decide)) rfl T.f_check_racer.mg T.f_check_racer.F.kp T.f_check_racer.b (pa_cons (pe_callB call_len (by rfl) T.b_len bb_len (pa_cons (pv 1) pa_nil)) (pa_cons (pv 3) pa_nil))))
    (pss_cons (ps_if (pt_cmpR (opEq hu) (pv 2) (pv 3) (nomark _)) (pss_one ps_never) pss_nil)
    (pss_one (ps_ret (pe_fn (ok_ring_time T) hgd (hr.mono (by decide)) rfl T.f_ring_time.mg T.f_ring_time.F.kp T.f_ring_time.b (pa_cons (pv 0) (pa_cons (pv 1) (pa_cons (pe_tup (pa_cons (pv 2) (pa_cons (pv 3) pa_nil))) pa_nil)))))))))),
    body_ok (N := n_ring_meeting) (f := y_ring_meeting) ((sn_seq (sn_drop (sn_call (sn_a (sn_var 0) (sn_a (sn_var 1) sn_a0)))) 
    (sn_seq (sn_drop (sn_call (sn_a (sn_cb1 o_len (sn_var 1)) (sn_a (sn_var 2) sn_a0)))) 
    (sn_seq (sn_drop (sn_call (sn_a (sn_cb1 o_len (sn_var 1)) (sn_a (sn_var 3) sn_a0)))) 
    (sn_seq (sn_if (sn_tst (sn_op o_eq (sn_var 2) (sn_var 3))) sn_never sn_next) 
    (sn_ret (SndE.bo (sn_call (sn_a (sn_var 0) (sn_a (sn_var 1) (sn_a (sn_tup (sn_a (sn_var 2) (sn_a (sn_var 3) sn_a0))) sn_a0))))))))))) h⟩
end
def y_whole_below : F1 Out := (sRet (e2 gDiv (e2 gIx (eVar 0) (eC (.int 0))) (e2 gIx (eVar 0) (eC (.int 1)))))
def d_whole_below : List PyData → W → Option (PyData × W) := fnD 1 y_whole_below
section
variable {P : Program} {w : World} {K : PySem.W.Frag} {mg : Str → Option Value} {base : Heap} {A : Nat → Addr} {D : Nat → FuncData}
theorem ok_whole_below (T : Txt K mg A D) : FnG P w K mg base 1 (A 22) (D 22) p_whole_below (spD K 1 d_whole_below) :=
  FnG.ok T.f_whole_below.F sc_whole_below (fun vs H Q E h => spD.len h) fun cdv Ar outer s H vs Q E hgd hr h => by
    have hu := hr.units
    exact ⟨_, (pss_one (ps_ret (pe_op op_fdivN (pe_ix ix_seq (pv 0) pe_int (fun _ _ => rfl)) (pe_ix ix_seq (pv 0) pe_int (fun _ _ => rfl))))),
    body_ok (N := n_whole_below) (f := y_whole_below) ((sn_ret (SndE.bo (sn_op o_fdiv (sn_op o_ix (sn_var 0) (sn_int 0)) (sn_op o_ix (sn_var 0) (sn_int 1)))))) h⟩
end
def y_round_place : F1 Out := (sRet (eCall d_minus (eA (eVar 0) (eA (eTup (eA (eCall d_whole_below (eA (eVar 0) eA0)) (eA (eC (.int 1)) eA0))) eA0))))
def d_round_place : List PyData → W → Option (PyData × W) := fnD 1 y_round_place
section
variable {P : Program} {w : World} {K : PySem.W.Frag} {mg : Str → Option Value} {base : Heap} {A : Nat → Addr} {D : Nat → FuncData}
theorem ok_round_place (T : Txt K mg A D) : FnG P w K mg base 4 (A 23) (D 23) p_round_place (spD K 1 d_round_place) :=
  FnG.ok T.f_round_place.F sc_round_place (fun vs H Q E h => spD.len h) fun cdv Ar outer s H vs Q E hgd hr h => by
    have hu := hr.units
    exact ⟨_, (pss_one (ps_ret (pe_fn (ok_minus T) hgd (hr.mono (by decide)) rfl T.f_minus.mg T.f_minus.F.kp T.f_minus.b (pa_cons (pv 0) (pa_cons (pe_tup (pa_cons (pe_fn (ok_whole_below T) hgd (hr.mono (by decide)) rfl T.f_whole_below.mg T.f_whole_below.F.kp T.f_whole_below.b (pa_cons (pv 0) pa_nil)) (pa_cons pe_int pa_nil))) pa_nil))))),
    body_ok (N := n_round_place) (f := y_round_place) ((sn_ret (SndE.bo (sn_call (sn_a (sn_var 0) (sn_a (sn_tup (sn_a (sn_call (sn_a (sn_var 0) sn_a0)) (sn_a (sn_int 1) sn_a0))) sn_a0)))))) h⟩
end
def y_is_time : F1 Out := (sRet (eAndV (eCall d_is_fraction (eA (eVar 0) eA0)) (eAndV (e2 gGe (e2 gIx (eVar 0) (eC (.int 0))) (eC (.int 0))) (e2 gLt (e2 gIx (eVar 0) (eC (.int 0))) (e2 gMul (eC (.int (12))) (e2 gIx (eVar 0) (eC (.int 1))))))))
def d_is_time : List PyData → W → Option (PyData × W) := fnD 1 y_is_time
section
variable {P : Program} {w : World} {K : PySem.W.Frag} {mg : Str → Option Value} {base : Heap} {A : Nat → Addr} {D : Nat → FuncData}
theorem ok_is_time (T : Txt K mg A D) : FnG P w K mg base 3 (A 24) (D 24) p_is_time (spD K 1 d_is_time) :=
  FnG.ok T.f_is_time.F sc_is_time (fun vs H Q E h => spD.len h) fun cdv Ar outer s H vs Q E hgd hr h => by
    have hu := hr.units
    exact ⟨_, (pss_one (ps_ret (pe_and (pe_fn (ok_is_fraction T) hgd (hr.mono (by decide)) rfl T.f_is_fraction.mg T.f_is_fraction.F.kp T.f_is_fraction.b (pa_cons (pv 0) pa_nil)) (pe_and (pe_cmpR op_ge (pe_ix ix_seq (pv 0) pe_int (fun _ _ => rfl)) pe_int (nomark _)) (pe_one (pe_cmpR op_lt (pe_ix ix_seq (pv 0) pe_int (fun _ _ => rfl)) (pe_op opMul (pe_cI rfl T.c_HOURS) (pe_ix ix_seq (pv 0) pe_int (fun _ _ => rfl))) (nomark _))))))),
    body_ok (N := n_is_time) (f := y_is_time) ((sn_ret (SndE.bo (sn_andV (sn_call (sn_a (sn_var 0) sn_a0)) (sn_andV (sn_op o_cmp (sn_op o_ix (sn_var 0) (sn_int 0)) (sn_int 0)) (sn_op o_cmp (sn_op o_ix (sn_var 0) (sn_int 0)) (sn_op o_mul (sn_int (12)) (sn_op o_ix (sn_var 0) (sn_int 1))))))))) h⟩
end
def y_check_time : F1 Out := (sIf (bNot (bV (eCall d_is_time (eA (eVar 0) eA0)))) sNever sNext)
def d_check_time : List PyData → W → Option (PyData × W) := fnD 1 y_check_time
section
variable {P : Program} {w : World} {K : PySem.W.Frag} {mg : Str → Option Value} {base : Heap} {A : Nat → Addr} {D : Nat → FuncData}
theorem ok_check_time (T : Txt K mg A D) : FnG P w K mg base 4 (A 25) (D 25) p_check_time (spD K 1 d_check_time) :=
  FnG.ok T.f_check_time.F sc_check_time (fun vs H Q E h => spD.len h) fun cdv Ar outer s H vs Q E hgd hr h => by
    have hu := hr.units
    exact ⟨_, (pss_one (ps_if (pt_not (pt_val (pe_fn (ok_is_time T) hgd (hr.mono (by decide)) rfl T.f_is_time.mg T.f_is_time.F.kp T.f_is_time.b (pa_cons (pv 0) pa_nil)))) (pss_one ps_never) pss_nil)),
    body_ok (N := n_check_time) (f := y_check_time) ((sn_if (sn_not (sn_tB (sn_call (sn_a (sn_var 0) sn_a0)))) sn_never sn_next)) h⟩
end
def y_check_time_clockhands : F1 Out := (sIf (bNot (bV (eCall d_is_time (eA (eVar 0) eA0)))) sNever sNext)
def d_check_time_clockhands : List PyData → W → Option (PyData × W) := fnD 1 y_check_time_clockhands
section
variable {P : Program} {w : World} {K : PySem.W.Frag} {mg : Str → Option Value} {base : Heap} {A : Nat → Addr} {D : Nat → FuncData}
theorem ok_check_time_clockhands (T : Txt K mg A D) : FnG P w K mg base 4 (A 26) (D 26) p_check_time_clockhands (spD K 1 d_check_time_clockhands) :=
  FnG.ok T.f_check_time_clockhands.F sc_check_time_clockhands (fun vs H Q E h => spD.len h) fun cdv Ar outer s H vs Q E hgd hr h => by
    have hu := hr.units
    exact ⟨_, (pss_one (ps_if (pt_not (pt_val (pe_fn (ok_is_time T) hgd (hr.mono (by decide)) rfl T.f_is_time.mg T.f_is_time.F.kp T.f_is_time.b (pa_cons (pv 0) pa_nil)))) (pss_one ps_never) pss_nil)),
    body_ok (N := n_check_time_clockhands) (f := y_check_time_clockhands) ((sn_if (sn_not (sn_tB (sn_call (sn_a (sn_var 0) sn_a0)))) sn_never sn_next)) h⟩
end
def y_check_place : F1 Out := (sIf (bOr (bNot (bV (eCall d_is_fraction (eA (eVar 0) eA0)))) (bNot (bV (eChn pLe pLt (eC (.int 0)) (e2 gIx (eVar 0) (eC (.int 0))) (e2 gIx (eVar 0) (eC (.int 1))))))) sNever sNext)
def d_check_place : List PyData → W → Option (PyData × W) := fnD 1 y_check_place
section
variable {P : Program} {w : World} {K : PySem.W.Frag} {mg : Str → Option Value} {base : Heap} {A : Nat → Addr} {D : Nat → FuncData}
theorem ok_check_place (T : Txt K mg A D) : FnG P w K mg base 3 (A 27) (D 27) p_check_place (spD K 1 d_check_place) :=
  FnG.ok T.f_check_place.F sc_check_place (fun vs H Q E h => spD.len h) fun cdv Ar outer s H vs Q E hgd hr h => by
    have hu := hr.units
    exact ⟨_, (pss_one (ps_if (PW.pt (pw_or (pt_not (pt_val (pe_fn (ok_is_fraction T) hgd (hr.mono (by decide)) rfl T.f_is_fraction.mg T.f_is_fraction.F.kp T.f_is_fraction.b (pa_cons (pv 0) pa_nil)))) (pw_or1 (pt_not (pt_chain op_le op_lt pe_int (pe_ix ix_seq (pv 0) pe_int (fun _ _ => rfl)) (pe_ix ix_seq (pv 0) pe_int (fun _ _ => rfl))))))) (pss_one ps_never) pss_nil)),
    body_ok (N := n_check_place) (f := y_check_place) ((sn_if (sn_or (sn_not (sn_tB (sn_call (sn_a (sn_var 0) sn_a0)))) (sn_not (sn_tst (sn_chn (sn_int 0) (sn_op o_ix (sn_var 0) (sn_int 0)) (sn_op o_ix (sn_var 0) (sn_int 1)))))) sn_never sn_next)) h⟩
end
def y_hand_place : F1 Out := (sRet (eCall d_round_place (eA (eCall d_times (eA (eVar 1) (eA (eCall d_fraction (eA (e2 gIx (eC (.tuple [(.int (1)), (.int (12)), (.int (720))])) (eVar 0)) (eA (eC (.int (12))) eA0))) eA0))) eA0)))
def d_hand_place : List PyData → W → Option (PyData × W) := fnD 2 y_hand_place
section
variable {P : Program} {w : World} {K : PySem.W.Frag} {mg : Str → Option Value} {base : Heap} {A : Nat → Addr} {D : Nat → FuncData}
theorem ok_hand_place (T : Txt K mg A D) : FnG P w K mg base 5 (A 28) (D 28) p_hand_place (spD K 2 d_hand_place) :=
  FnG.ok T.f_hand_place.F sc_hand_place (fun vs H Q E h => spD.len h) fun cdv Ar outer s H vs Q E hgd hr h => by
    have hu := hr.units
    exact ⟨_, (pss_one (ps_ret (pe_fn (ok_round_place T) hgd (hr.mono (by decide)) rfl T.f_round_place.mg T.f_round_place.F.kp T.f_round_place.b (pa_cons (pe_fn (ok_times T) hgd (hr.mono (by decide)) rfl T.f_times.mg T.f_times.F.kp T.f_times.b (pa_cons (pv 1) (pa_cons (pe_fn (ok_fraction T) hgd (hr.mono (by decide)) rfl T.f_fraction.mg T.f_fraction.F.kp T.f_fraction.b (pa_cons (pe_ix ix_seq (pe_ct rfl T.c_TURNS) (pv 0) (fun _ _ => rfl)) (pa_cons (pe_cI rfl T.c_HOURS) pa_nil))) pa_nil))) pa_nil)))),
    body_ok (N := n_hand_place) (f := y_hand_place) ((sn_ret (SndE.bo (sn_call (sn_a (sn_call (sn_a (sn_var 1) (sn_a (sn_call (sn_a (sn_op o_ix (sn_ct T.c_TURNS.2) (sn_var 0)) (sn_a (sn_int (12)) sn_a0))) sn_a0))) sn_a0))))) h⟩
end
def y_hour_place : F1 Out := (sSeq (sDrop (eCall d_check_time_clockhands (eA (eVar 0) eA0))) 
    (sRet (eCall d_hand_place (eA (eC (.int 0)) (eA (eVar 0) eA0)))))
def d_hour_place : List PyData → W → Option (PyData × W) := fnD 1 y_hour_place
section
variable {P : Program} {w : World} {K : PySem.W.Frag} {mg : Str → Option Value} {base : Heap} {A : Nat → Addr} {D : Nat → FuncData}
theorem ok_hour_place (T : Txt K mg A D) : FnG P w K mg base 6 (A 29) (D 29) p_hour_place (spD K 1 d_hour_place) :=
  FnG.ok T.f_hour_place.F sc_hour_place (fun vs H Q E h => spD.len h) fun cdv Ar outer s H vs Q E hgd hr h => by
    have hu := hr.units
    exact ⟨_, (pss_cons (ps_expr (pe_fn (ok_check_time_clockhands T) hgd (hr.mono (by decide)) rfl T.f_check_time_clockhands.mg T.f_check_time_clockhands.F.kp T.f_check_time_clockhands.b (pa_cons (pv 0) pa_nil)))
    (pss_one (ps_ret (pe_fn (ok_hand_place T) hgd (hr.mono (by decide)) rfl T.f_hand_place.mg T.f_hand_place.F.kp T.f_hand_place.b (pa_cons pe_int (pa_cons (pv 0) pa_nil)))))),
    body_ok (N := n_hour_place) (f := y_hour_place) ((sn_seq (sn_drop (sn_call (sn_a (sn_var 0) sn_a0))) 
    (sn_ret (SndE.bo (sn_call (sn_a (sn_int 0) (sn_a (sn_var 0) sn_a0))))))) h⟩
end
def y_minute_place : F1 Out := (sSeq (sDrop (eCall d_check_time_clockhands (eA (eVar 0) eA0))) 
    (sRet (eCall d_hand_place (eA (eC (.int 1)) (eA (eVar 0) eA0)))))
def d_minute_place : List PyData → W → Option (PyData × W) := fnD 1 y_minute_place
section
variable {P : Program} {w : World} {K : PySem.W.Frag} {mg : Str → Option Value} {base : Heap} {A : Nat → Addr} {D : Nat → FuncData}
theorem ok_minute_place (T : Txt K mg A D) : FnG P w K mg base 6 (A 30) (D 30) p_minute_place (spD K 1 d_minute_place) :=
  FnG.ok T.f_minute_place.F sc_minute_place (fun vs H Q E h => spD.len h) fun cdv Ar outer s H vs Q E hgd hr h => by
    have hu := hr.units
    exact ⟨_, (pss_cons (ps_expr (pe_fn (ok_check_time_clockhands T) hgd (hr.mono (by decide)) rfl T.f_check_time_clockhands.mg T.f_check_time_clockhands.F.kp T.f_check_time_clockhands.b (pa_cons (pv 0) pa_nil)))
    (pss_one (ps_ret (pe_fn (ok_hand_place T) hgd (hr.mono (by decide)) rfl T.f_hand_place.mg T.f_hand_place.F.kp T.f_hand_place.b (pa_cons pe_int (pa_cons (pv 0) pa_nil)))))),
    body_ok (N := n_minute_place) (f := y_minute_place) ((sn_seq (sn_drop (sn_call (sn_a (sn_var 0) sn_a0))) 
    (sn_ret (SndE.bo (sn_call (sn_a (sn_int 1) (sn_a (sn_var 0) sn_a0))))))) h⟩
end
def y_raw_gap : F1 Out := (sRet (eCall d_round_place (eA (eCall d_minus (eA (eCall d_hand_place (eA (eC (.int 1)) (eA (eVar 0) eA0))) (eA (eCall d_hand_place (eA (eC (.int 0)) (eA (eVar 0) eA0))) eA0))) eA0)))
def d_raw_gap : List PyData → W → Option (PyData × W) := fnD 1 y_raw_gap
section
variable {P : Program} {w : World} {K : PySem.W.Frag} {mg : Str → Option Value} {base : Heap} {A : Nat → Addr} {D : Nat → FuncData}
theorem ok_raw_gap (T : Txt K mg A D) : FnG P w K mg base 6 (A 31) (D 31) p_raw_gap (spD K 1 d_raw_gap) :=
  FnG.ok T.f_raw_gap.F sc_raw_gap (fun vs H Q E h => spD.len h) fun cdv Ar outer s H vs Q E hgd hr h => by
    have hu := hr.units
    exact ⟨_, (pss_one (ps_ret (pe_fn (ok_round_place T) hgd (hr.mono (by decide)) rfl T.f_round_place.mg T.f_round_place.F.kp T.f_round_place.b (pa_cons (pe_fn (ok_minus T) hgd (hr.mono (by decide)) rfl T.f_minus.mg T.f_minus.F.kp T.f_minus.b (pa_cons (pe_fn (ok_hand_place T) hgd (hr.mono (by decide)) rfl T.f_hand_place.mg T.f_hand_place.F.kp T.f_hand_place.b (pa_cons pe_int (pa_cons (pv 0) pa_nil))) (pa_cons (pe_fn (ok_hand_place T) hgd (hr.mono (by decide)) rfl T.f_hand_place.mg T.f_hand_place.F.kp T.f_hand_place.b (pa_cons pe_int (pa_cons (pv 0) pa_nil))) pa_nil))) pa_nil)))),
    body_ok (N := n_raw_gap) (f := y_raw_gap) ((sn_ret (SndE.bo (sn_call (sn_a (sn_call (sn_a (sn_call (sn_a (sn_int 1) (sn_a (sn_var 0) sn_a0))) (sn_a (sn_call (sn_a (sn_int 0) (sn_a (sn_var 0) sn_a0))) sn_a0))) sn_a0))))) h⟩
end
def y_gap_of : F1 Out := (sSeq (sDrop (eCall d_check_time_clockhands (eA (eVar 0) eA0))) 
    (sRet (eCall d_raw_gap (eA (eVar 0) eA0))))
def d_gap_of : List PyData → W → Option (PyData × W) := fnD 1 y_gap_of
section
variable {P : Program} {w : World} {K : PySem.W.Frag} {mg : Str → Option Value} {base : Heap} {A : Nat → Addr} {D : Nat → FuncData}
theorem ok_gap_of (T : Txt K mg A D) : FnG P w K mg base 7 (A 32) (D 32) p_gap_of (spD K 1 d_gap_of) :=
  FnG.ok T.f_gap_of.F sc_gap_of (fun vs H Q E h => spD.len h) fun cdv Ar outer s H vs Q E hgd hr h => by
    have hu := hr.units
    exact ⟨_, (pss_cons (ps_expr (pe_fn (ok_check_time_clockhands T) hgd (hr.mono (by decide)) rfl T.f_check_time_clockhands.mg T.f_check_time_clockhands.F.kp T.f_check_time_clockhands.b (pa_cons (pv 0) pa_nil)))
    (pss_one (ps_ret (pe_fn (ok_raw_gap T) hgd (hr.mono (by decide)) rfl T.f_raw_gap.mg T.f_raw_gap.F.kp T.f_raw_gap.b (pa_cons (pv 0) pa_nil))))),
    body_ok (N := n_gap_of) (f := y_gap_of) ((sn_seq (sn_drop (sn_call (sn_a (sn_var 0) sn_a0))) 
    (sn_ret (SndE.bo (sn_call (sn_a (sn_var 0) sn_a0)))))) h⟩
end
def y_raw_when : F1 Out := (sRet (eLc [1] (iRange1 (e2 gSub (eC (.int (12))) (eC (.int 1)))) (gSet 1) bYes (eCall d_times (eA (eCall d_plus (eA (eVar 0) (eA (eTup (eA (eVar 1) (eA (eC (.int 1)) eA0))) eA0))) (eA (eTup (eA (eC (.int (12))) (eA (e2 gSub (eC (.int (12))) (eC (.int 1))) eA0))) eA0)))))
def d_raw_when : List PyData → W → Option (PyData × W) := fnD 2 y_raw_when
section
variable {P : Program} {w : World} {K : PySem.W.Frag} {mg : Str → Option Value} {base : Heap} {A : Nat → Addr} {D : Nat → FuncData}
theorem ok_raw_when (T : Txt K mg A D) : FnG P w K mg base 4 (A 33) (D 33) p_raw_when (spD K 1 d_raw_when) :=
  FnG.ok T.f_raw_when.F sc_raw_when (fun vs H Q E h => spD.len h) fun cdv Ar outer s H vs Q E hgd hr h => by
    have hu := hr.units
    exact ⟨_, (pss_one (ps_ret (pe_lc (own := [("turn", 1)]) (tt := tYes) rfl sc_raw_when.nd (pi_range1 rfl T.b_range (pa_cons (pe_op op_sub (pe_cI rfl T.c_HOURS) pe_int) pa_nil)) (blkOk_by (own := [("turn", 1)]) (N := n_raw_when) (sc := defScope s_raw_when) (by decide +kernel)) (fun _ _ _ _ _ => (pg_name (i := 1) sc_raw_when.nd rfl (by first | exact Or.inl rfl | exact Or.inr rfl))) (fun _ _ _ _ _ => pts_nil) (fun _ _ _ _ _ => (pe_fn (ok_times T) hgd (hr.mono (by decide)) rfl T.f_times.mg T.f_times.F.kp T.f_times.b (pa_cons (pe_fn (ok_plus T) hgd (hr.mono (by decide)) rfl T.f_plus.mg T.f_plus.F.kp T.f_plus.b (pa_cons (pv 0) (pa_cons (pe_tup (pa_cons (pv 1) (pa_cons pe_int pa_nil))) pa_nil))) (pa_cons (pe_tup (pa_cons (pe_cI rfl T.c_HOURS) (pa_cons (pe_op op_sub (pe_cI rfl T.c_HOURS) pe_int) pa_nil))) pa_nil))))))),
    body_ok (N := n_raw_when) (f := y_raw_when) ((sn_ret (SndE.bo (sn_lc (vs := [1]) (SndI.bo (si_range1 (sn_op o_sub (sn_int (12)) (sn_int 1)))) (sg_name 1) sn_yes (sn_call (sn_a (sn_call (sn_a (sn_var 0) (sn_a (sn_tup (sn_a (sn_var 1) (sn_a (sn_int 1) sn_a0))) sn_a0))) (sn_a (sn_tup (sn_a (sn_int (12)) (sn_a (sn_op o_sub (sn_int (12)) (sn_int 1)) sn_a0))) sn_a0))))))) h⟩
end
def y_when_gap : F1 Out := (sSeq (sDrop (eCall d_check_place (eA (eVar 0) eA0))) 
    (sRet (eCall d_raw_when (eA (eVar 0) eA0))))
def d_when_gap : List PyData → W → Option (PyData × W) := fnD 1 y_when_gap
section
variable {P : Program} {w : World} {K : PySem.W.Frag} {mg : Str → Option Value} {base : Heap} {A : Nat → Addr} {D : Nat → FuncData}
theorem ok_when_gap (T : Txt K mg A D) : FnG P w K mg base 5 (A 34) (D 34) p_when_gap (spD K 1 d_when_gap) :=
  FnG.ok T.f_when_gap.F sc_when_gap (fun vs H Q E h => spD.len h) fun cdv Ar outer s H vs Q E hgd hr h => by
    have hu := hr.units
    exact ⟨_, (pss_cons (ps_expr (pe_fn (ok_check_place T) hgd (hr.mono (by decide)) rfl T.f_check_place.mg T.f_check_place.F.kp T.f_check_place.b (pa_cons (pv 0) pa_nil)))
    (pss_one (ps_ret (pe_fn (ok_raw_when T) hgd (hr.mono (by decide)) rfl T.f_raw_when.mg T.f_raw_when.F.kp T.f_raw_when.b (pa_cons (pv 0) pa_nil))))),
    body_ok (N := n_when_gap) (f := y_when_gap) ((sn_seq (sn_drop (sn_call (sn_a (sn_var 0) sn_a0))) 
    (sn_ret (SndE.bo (sn_call (sn_a (sn_var 0) sn_a0)))))) h⟩
end
def y_times_together : F1 Out := (sSeq (sFor (iItems (eTup (eA (eVar 0) (eA (eVar 1) eA0)))) (gSet 2) 
    (sIf (bNot (bV (eCall d_is_within (eA (eVar 2) (eA (eC (.int 0)) (eA (eC (.int 2)) eA0)))))) sNever sNext)) 
    (sSeq (sIf (bV (e2 gEq (eVar 0) (eVar 1))) sNever sNext) 
    (sSeq (sSet 3 (e1 gAbs (e2 gSub (e2 gIx (eC (.tuple [(.int (1)), (.int (12)), (.int (720))])) (eVar 0)) (e2 gIx (eC (.tuple [(.int (1)), (.int (12)), (.int (720))])) (eVar 1))))) 
    (sRet (eLc [4] (iRange1 (eVar 3)) (gSet 4) bYes (eCall d_fraction (eA (e2 gMul (eC (.int (12))) (eVar 4)) (eA (eVar 3) eA0))))))))
def d_times_together : List PyData → W → Option (PyData × W) := fnD 5 y_times_together
section
variable {P : Program} {w : World} {K : PySem.W.Frag} {mg : Str → Option Value} {base : Heap} {A : Nat → Addr} {D : Nat → FuncData}
theorem ok_times_together (T : Txt K mg A D) : FnG P w K mg base 3 (A 35) (D 35) p_times_together (spD K 2 d_times_together) :=
  FnG.ok T.f_times_together.F sc_times_together (fun vs H Q E h => spD.len h) fun cdv Ar outer s H vs Q E hgd hr h => by
    have hu := hr.units
    exact ⟨_, (pss_cons (ps_for PassesOwn.never rfl (pi_seq (pe_tup (pa_cons (pv 0) (pa_cons (pv 1) pa_nil)))) (pg_name (i := 2) sc_times_together.nd rfl (by first | exact Or.inl rfl | exact Or.inr rfl))
    (pss_one (ps_if (pt_not (pt_val (pe_fn (ok_is_within T) hgd (hr.mono (by decide)) rfl T.f_is_within.mg T.f_is_within.F.kp T.f_is_within.b (pa_cons (pv 2) (pa_cons pe_int (pa_cons pe_int pa_nil)))))) (pss_one ps_never) pss_nil)))
    (pss_cons (ps_if (pt_cmpR (opEq hu) (pv 0) (pv 1) (nomark _)) (pss_one ps_never) pss_nil)
    (pss_cons (ps_set (i := 3) sc_times_together.nd rfl (by first | exact Or.inl rfl | exact Or.inr rfl) (pe_callB call_abs (by rfl) T.b_abs bb_abs (pa_cons (pe_op op_sub (pe_ix ix_seq (pe_ct rfl T.c_TURNS) (pv 0) (fun _ _ => rfl)) (pe_ix ix_seq (pe_ct rfl T.c_TURNS) (pv 1) (fun _ _ => rfl))) pa_nil)))
    (pss_one (ps_ret (pe_lc (own := [("turn", 4)]) (tt := tYes) rfl sc_times_together.nd (pi_range1 rfl T.b_range (pa_cons (pv 3) pa_nil)) (blkOk_by (own := [("turn", 4)]) (N := n_times_together) (sc := defScope s_times_together) (by decide +kernel)) (fun _ _ _ _ _ => (pg_name (i := 4) sc_times_together.nd rfl (by first | exact Or.inl rfl | exact Or.inr rfl))) (fun _ _ _ _ _ => pts_nil) (fun _ _ _ _ _ => (pe_fn (ok_fraction T) hgd (hr.mono (by decide)) rfl T.f_fraction.mg T.f_fraction.F.kp T.f_fraction.b (pa_cons (pe_op opMul (pe_cI rfl T.c_HOURS) (pv 4)) (pa_cons (pv 3) pa_nil)))))))))),
    body_ok (N := n_times_together) (f := y_times_together) ((sn_seq (sn_for (si_seqS (sn_tup (sn_a (sn_var 0) (sn_a (sn_var 1) sn_a0)))) (sg_name 2) 
    (sn_if (sn_not (sn_tB (sn_call (sn_a (sn_var 2) (sn_a (sn_int 0) (sn_a (sn_int 2) sn_a0)))))) sn_never sn_next)) 
    (sn_seq (sn_if (sn_tst (sn_op o_eq (sn_var 0) (sn_var 1))) sn_never sn_next) 
    (sn_seq (sn_set 3 (sn_cb1 o_abs (sn_op o_sub (sn_op o_ix (sn_ct T.c_TURNS.2) (sn_var 0)) (sn_op o_ix (sn_ct T.c_TURNS.2) (sn_var 1))))) 
    (sn_ret (SndE.bo (sn_lc (vs := [4]) (SndI.bo (si_range1 (sn_var 3))) (sg_name 4) sn_yes (sn_call (sn_a (sn_op o_mul (sn_int (12)) (sn_var 4)) (sn_a (sn_var 3) sn_a0)))))))))) h⟩
end
def y_check_lag : F1 Out := (sIf (bOr (bNot (bV (eCall d_is_integer (eA (eVar 0) eA0)))) (bNot (bV (e2 gLt (e1 gAbs (eVar 0)) (eC (.int (43200))))))) sNever sNext)
def d_check_lag : List PyData → W → Option (PyData × W) := fnD 1 y_check_lag
section
variable {P : Program} {w : World} {K : PySem.W.Frag} {mg : Str → Option Value} {base : Heap} {A : Nat → Addr} {D : Nat → FuncData}
theorem ok_check_lag (T : Txt K mg A D) : FnG P w K mg base 2 (A 36) (D 36) p_check_lag (spD K 1 d_check_lag) :=
  FnG.ok T.f_check_lag.F sc_check_lag (fun vs H Q E h => spD.len h) fun cdv Ar outer s H vs Q E hgd hr h => by
    have hu := hr.units
    exact ⟨_, (pss_one (ps_if (PW.pt (pw_or (pt_not (pt_val (pe_fn (ok_is_integer T) hgd (hr.mono (by decide)) rfl T.f_is_integer.mg T.f_is_integer.F.kp T.f_is_integer.b (pa_cons (pv 0) pa_nil)))) (pw_or1 (pt_not (pt_cmpR op_lt (pe_callB call_abs (by rfl) T.b_abs bb_abs (pa_cons (pv 0) pa_nil)) (pe_cI rfl T.c_DIAL_SECONDS) (nomark _)))))) (pss_one ps_never) pss_nil)),
    body_ok (N := n_check_lag) (f := y_check_lag) ((sn_if (sn_or (sn_not (sn_tB (sn_call (sn_a (sn_var 0) sn_a0)))) (sn_not (sn_tst (sn_op o_cmp (sn_cb1 o_abs (sn_var 0)) (sn_int (43200)))))) sn_never sn_next)) h⟩
end
def y_shown : F1 Out := (sSeq (sDrop (eCall d_check_lag (eA (eVar 0) eA0))) 
    (sSeq (sIf (bNot (bV (eCall d_is_within (eA (eVar 1) (eA (eC (.int 0)) (eA (eC (.int (1000000))) eA0)))))) sNever sNext) 
    (sRet (eCall d_fraction (eA (e2 gMod (e2 gMul (eVar 0) (eVar 1)) (eC (.int (43200)))) (eA (eC (.int 3600)) eA0))))))
def d_shown : List PyData → W → Option (PyData × W) := fnD 2 y_shown
section
variable {P : Program} {w : World} {K : PySem.W.Frag} {mg : Str → Option Value} {base : Heap} {A : Nat → Addr} {D : Nat → FuncData}
theorem ok_shown (T : Txt K mg A D) : FnG P w K mg base 3 (A 37) (D 37) p_shown (spD K 2 d_shown) :=
  FnG.ok T.f_shown.F sc_shown (fun vs H Q E h => spD.len h) fun cdv Ar outer s H vs Q E hgd hr h => by
    have hu := hr.units
    exact ⟨_, (pss_cons (ps_expr (pe_fn (ok_check_lag T) hgd (hr.mono (by decide)) rfl T.f_check_lag.mg T.f_check_lag.F.kp T.f_check_lag.b (pa_cons (pv 0) pa_nil)))
    (pss_cons (ps_if (pt_not (pt_val (pe_fn (ok_is_within T) hgd (hr.mono (by decide)) rfl T.f_is_within.mg T.f_is_within.F.kp T.f_is_within.b (pa_cons (pv 1) (pa_cons pe_int (pa_cons (pe_cI rfl T.c_MOST_LAG_DAYS) pa_nil)))))) (pss_one ps_never) pss_nil)
    (pss_one (ps_ret (pe_fn (ok_fraction T) hgd (hr.mono (by decide)) rfl T.f_fraction.mg T.f_fraction.F.kp T.f_fraction.b (pa_cons (pe_op op_modN (pe_op opMul (pv 0) (pv 1)) (pe_cI rfl T.c_DIAL_SECONDS)) (pa_cons pe_int pa_nil))))))),
    body_ok (N := n_shown) (f := y_shown) ((sn_seq (sn_drop (sn_call (sn_a (sn_var 0) sn_a0))) 
    (sn_seq (sn_if (sn_not (sn_tB (sn_call (sn_a (sn_var 1) (sn_a (sn_int 0) (sn_a (sn_int (1000000)) sn_a0)))))) sn_never sn_next) 
    (sn_ret (SndE.bo (sn_call (sn_a (sn_op o_mod (sn_op o_mul (sn_var 0) (sn_var 1)) (sn_int (43200))) (sn_a (sn_int 3600) sn_a0)))))))) h⟩
end
def y_right_again : F1 Out := (sSeq (sDrop (eCall d_check_lag (eA (eVar 0) eA0))) 
    (sRet (eIf (bV (e2 gNe (eVar 0) (eC (.int 0)))) (eCall d_fraction (eA (eC (.int (43200))) (eA (e1 gAbs (eVar 0)) eA0))) (eC .none))))
def d_right_again : List PyData → W → Option (PyData × W) := fnD 1 y_right_again
section
variable {P : Program} {w : World} {K : PySem.W.Frag} {mg : Str → Option Value} {base : Heap} {A : Nat → Addr} {D : Nat → FuncData}
theorem ok_right_again (T : Txt K mg A D) : FnG P w K mg base 3 (A 38) (D 38) p_right_again (spD K 1 d_right_again) :=
  FnG.ok T.f_right_again.F sc_right_again (fun vs H Q E h => spD.len h) fun cdv Ar outer s H vs Q E hgd hr h => by
    have hu := hr.units
    exact ⟨_, (pss_cons (ps_expr (pe_fn (ok_check_lag T) hgd (hr.mono (by decide)) rfl T.f_check_lag.mg T.f_check_lag.F.kp T.f_check_lag.b (pa_cons (pv 0) pa_nil)))
    (pss_one (ps_ret (pe_ifExp (pt_cmpR (opNe hu) (pv 0) pe_int (nomark _)) (pe_fn (ok_fraction T) hgd (hr.mono (by decide)) rfl T.f_fraction.mg T.f_fraction.F.kp T.f_fraction.b (pa_cons (pe_cI rfl T.c_DIAL_SECONDS) (pa_cons (pe_callB call_abs (by rfl) T.b_abs bb_abs (pa_cons (pv 0) pa_nil)) pa_nil))) pe_non)))),
    body_ok (N := n_right_again) (f := y_right_again) ((sn_seq (sn_drop (sn_call (sn_a (sn_var 0) sn_a0))) 
    (sn_ret (SndE.bo (sn_ifx (sn_tst (sn_op o_ne (sn_var 0) (sn_int 0))) (sn_call (sn_a (sn_int (43200)) (sn_a (sn_cb1 o_abs (sn_var 0)) sn_a0))) sn_non))))) h⟩
end
def y_agree_again : F1 Out := (sSeq (sDrop (eCall d_check_lag (eA (eVar 0) eA0))) 
    (sSeq (sDrop (eCall d_check_lag (eA (eVar 1) eA0))) 
    (sRet (eIf (bV (e2 gNe (eVar 0) (eVar 1))) (eCall d_fraction (eA (eC (.int (43200))) (eA (e1 gAbs (e2 gSub (eVar 0) (eVar 1))) eA0))) (eC .none)))))
def d_agree_again : List PyData → W → Option (PyData × W) := fnD 2 y_agree_again
section
variable {P : Program} {w : World} {K : PySem.W.Frag} {mg : Str → Option Value} {base : Heap} {A : Nat → Addr} {D : Nat → FuncData}
theorem ok_agree_again (T : Txt K mg A D) : FnG P w K mg base 3 (A 39) (D 39) p_agree_again (spD K 2 d_agree_again) :=
  FnG.ok T.f_agree_again.F sc_agree_again (fun vs H Q E h => spD.len h) fun cdv Ar outer s H vs Q E hgd hr h => by
    have hu := hr.units
    exact ⟨_, (pss_cons (ps_expr (pe_fn (ok_check_lag T) hgd (hr.mono (by decide)) rfl T.f_check_lag.mg T.f_check_lag.F.kp T.f_check_lag.b (pa_cons (pv 0) pa_nil)))
    (pss_cons (ps_expr (pe_fn (ok_check_lag T) hgd (hr.mono (by decide)) rfl T.f_check_lag.mg T.f_check_lag.F.kp T.f_check_lag.b (pa_cons (pv 1) pa_nil)))
    (pss_one (ps_ret (pe_ifExp (pt_cmpR (opNe hu) (pv 0) (pv 1) (nomark _)) (pe_fn (ok_fraction T) hgd (hr.mono (by decide)) rfl T.f_fraction.mg T.f_fraction.F.kp T.f_fraction.b (pa_cons (pe_cI rfl T.c_DIAL_SECONDS) (pa_cons (pe_callB call_abs (by rfl) T.b_abs bb_abs (pa_cons (pe_op op_sub (pv 0) (pv 1)) pa_nil)) pa_nil))) pe_non))))),
    body_ok (N := n_agree_again) (f := y_agree_again) ((sn_seq (sn_drop (sn_call (sn_a (sn_var 0) sn_a0))) 
    (sn_seq (sn_drop (sn_call (sn_a (sn_var 1) sn_a0))) 
    (sn_ret (SndE.bo (sn_ifx (sn_tst (sn_op o_ne (sn_var 0) (sn_var 1))) (sn_call (sn_a (sn_int (43200)) (sn_a (sn_cb1 o_abs (sn_op o_sub (sn_var 0) (sn_var 1))) sn_a0))) sn_non)))))) h⟩
end
def cf (z : Int) : Int := (if z < 0 then -z else z)
def hw : List Int → W := hwOf cf 63 96301 7
section
variable {P : Program} {w : World} {K : PySem.W.Frag} {mg : Str → Option Value} {base : Heap} {A : Nat → Addr} {D : Nat → FuncData}
theorem ok__law_hand (T : Txt K mg A D) : FnG P w K mg base 1 (A 40) (D 40) p__law_hand (spHand K hw) :=
  FnG.ok T.f__law_hand.F sc__law_hand (fun vs H Q E h => by obtain ⟨a, ns, rfl, _⟩ := h; rfl) fun cdv Ar outer s H vs Q E hgd hr h =>
    ⟨_, pss_cons (ps_setLc (i := 1) (own := [("cell", 2)]) (tt := tYes) rfl sc__law_hand.nd rfl rfl (sw_true rfl rfl rfl (by decide +kernel)) (pi_list (pe_slice sl_list (pv 0) po_none (po_some pe_int))) (blkOk_by (own := [("cell", 2)]) (N := n__law_hand) (sc := defScope s__law_hand) (by decide +kernel)) (fun _ _ _ _ _ => (pg_name (i := 2) sc__law_hand.nd rfl (by first | exact Or.inl rfl | exact Or.inr rfl))) (fun _ _ _ _ _ => pts_nil) (fun _ _ _ _ _ => (pe_callB call_abs (by rfl) T.b_abs bb_abs (pa_cons (pe_callTy call_int1 (by rfl) T.b_int bb_int (pa_cons (pv 2) pa_nil)) pa_nil))))
      (pss_one (ps_ret (pe_lst (pa_cons (pv 1) (pa_cons pe_int (pa_cons pe_int (pa_cons (pe_op op_add pe_int (pe_op op_mul pe_int (pe_callB call_len_seq (by rfl) T.b_len bb_len (pa_cons (pv 1) pa_nil)))) (pa_cons pe_int pa_nil)))))))),
      hand_read (f := cf) (N := 63) (C := 96301) (k := 7) rfl (by decide) (fun z σ H Q hs q => ⟨.int z, hs, .inl ⟨_, rfl, ⟨_, rfl, q⟩⟩⟩) h⟩
end
def y__law_draw : F1 Out := (sSeq (sIf (bAnd (bV (e2 gEq (eHix 0 2) (eC (.int 0)))) (bV (e2 gLt (eHix 0 1) (e1 gLen (eHix 0 0))))) (sSeq (sSet 3 (e2 gIx (eHix 0 0) (eHix 0 1))) 
    (sSeq (sHput 0 1 (e2 gAdd (eHix 0 1) (eC (.int 1)))) 
    (sSeq (sHput 0 3 (e2 gMod (e1 gToInt (e2 gAdd (e2 gAdd (e2 gMul (eHix 0 3) (eC (.int 69621))) (e2 gMul (eVar 3) (eC (.int 40692)))) (eC (.int 31)))) (eC (.int 2147483629)))) 
    (sIf (bV (e2 gGe (eVar 3) (e2 gPow (eC (.int 10)) (eC (.int 18))))) (sHput 0 2 (eVar 3)) sNext)))) sNext) 
    (sSeq (sIf (bV (e2 gGt (eHix 0 2) (eC (.int 0)))) (sSeq (sSet 4 (e2 gMod (e1 gToInt (eHix 0 2)) (eVar 1))) 
    (sSeq (sHput 0 2 (e2 gDiv (eHix 0 2) (eVar 1))) 
    (sRet (eVar 4)))) sNext) 
    (sSeq (sHput 0 4 (e2 gAdd (eHix 0 4) (eC (.int 1)))) 
    (sSeq (sSet 2 (e2 gMod (e1 gToInt (e2 gMul (e1 gToInt (e2 gAdd (eHix 0 3) (e2 gMul (eC (.int 7919)) (eHix 0 4)))) (eC (.int 48271)))) (eC (.int 2147483647)))) 
    (sSeq (sSet 2 (e2 gMod (e1 gToInt (e2 gMul (eVar 2) (e2 gAdd (e2 gDiv (eVar 2) (eC (.int 1009))) (eC (.int 69621))))) (eC (.int 2147483647)))) 
    (sSeq (sSet 2 (e2 gMod (e1 gToInt (e2 gMul (eVar 2) (e2 gAdd (e2 gDiv (eVar 2) (eC (.int 2003))) (eC (.int 40014))))) (eC (.int 2147483563)))) 
    (sRet (e2 gMod (e1 gToInt (e2 gDiv (eVar 2) (eC (.int 16)))) (eVar 1)))))))))
def d__law_draw : List PyData → W → Option (PyData × W) := fnD 5 y__law_draw
section
variable {P : Program} {w : World} {K : PySem.W.Frag} {mg : Str → Option Value} {base : Heap} {A : Nat → Addr} {D : Nat → FuncData}
theorem ok__law_draw (T : Txt K mg A D) : FnG P w K mg base 1 (A 41) (D 41) p__law_draw (spD K 2 d__law_draw) :=
  FnG.ok T.f__law_draw.F sc__law_draw (fun vs H Q E h => spD.len h) fun cdv Ar outer s H vs Q E hgd hr h => by
    have hu := hr.units
    exact ⟨_, (pss_cons (ps_if (PW.pt (pw_and (pt_cmpR (opEq hu) (pe_ix ix_seq (pv 0) pe_int (fun _ _ => rfl)) pe_int (nomark _)) (pw_and1 (pt_cmpR op_lt (pe_ix ix_seq (pv 0) pe_int (fun _ _ => rfl)) (pe_callB call_len (by rfl) T.b_len bb_len (pa_cons (pe_ix ix_seq (pv 0) pe_int (fun _ _ => rfl)) pa_nil)) (nomark _))))) (pss_cons (ps_set (i := 3) sc__law_draw.nd rfl (by first | exact Or.inl rfl | exact Or.inr rfl) (pe_ix ix_seq (pe_ix ix_seq (pv 0) pe_int (fun _ _ => rfl)) (pe_ix ix_seq (pv 0) pe_int (fun _ _ => rfl)) (fun _ _ => rfl)))
    (pss_cons (ps_asg (pe_op opAdd (pe_ix ix_seq (pv 0) pe_int (fun _ _ => rfl)) pe_int) (pg_sub (pv 0) pe_int set_list))
    (pss_cons (ps_asg (pe_op op_modN (pe_callTy call_int1 (by rfl) T.b_int bb_int (pa_cons (pe_op opAdd (pe_op opAdd (pe_op opMul (pe_ix ix_seq (pv 0) pe_int (fun _ _ => rfl)) pe_int) (pe_op opMul (pv 3) pe_int)) pe_int) pa_nil)) pe_int) (pg_sub (pv 0) pe_int set_list))
    (pss_one (ps_if (pt_cmpR op_ge (pv 3) (pe_op op_pow pe_int pe_int) (nomark _)) (pss_one (ps_asg (pv 3) (pg_sub (pv 0) pe_int set_list))) pss_nil))))) pss_nil)
    (pss_cons (ps_if (pt_cmpR op_gt (pe_ix ix_seq (pv 0) pe_int (fun _ _ => rfl)) pe_int (nomark _)) (pss_cons (ps_set (i := 4) sc__law_draw.nd rfl (by first | exact Or.inl rfl | exact Or.inr rfl) (pe_op op_modN (pe_callTy call_int1 (by rfl) T.b_int bb_int (pa_cons (pe_ix ix_seq (pv 0) pe_int (fun _ _ => rfl)) pa_nil)) (pv 1)))
    (pss_cons (ps_asg (pe_op op_fdivN (pe_ix ix_seq (pv 0) pe_int (fun _ _ => rfl)) (pv 1)) (pg_sub (pv 0) pe_int set_list))
    (pss_one (ps_ret (pv 4))))) pss_nil)
    (pss_cons (ps_asg (pe_op opAdd (pe_ix ix_seq (pv 0) pe_int (fun _ _ => rfl)) pe_int) (pg_sub (pv 0) pe_int set_list))
    (pss_cons (ps_set (i := 2) sc__law_draw.nd rfl (by first | exact Or.inl rfl | exact Or.inr rfl) (pe_op op_modN (pe_callTy call_int1 (by rfl) T.b_int bb_int (pa_cons (pe_op opMul (pe_callTy call_int1 (by rfl) T.b_int bb_int (pa_cons (pe_op opAdd (pe_ix ix_seq (pv 0) pe_int (fun _ _ => rfl)) (pe_op opMul pe_int (pe_ix ix_seq (pv 0) pe_int (fun _ _ => rfl)))) pa_nil)) pe_int) pa_nil)) pe_int))
    (pss_cons (ps_set (i := 2) sc__law_draw.nd rfl (by first | exact Or.inl rfl | exact Or.inr rfl) (pe_op op_modN (pe_callTy call_int1 (by rfl) T.b_int bb_int (pa_cons (pe_op opMul (pv 2) (pe_op opAdd (pe_op op_fdivN (pv 2) pe_int) pe_int)) pa_nil)) pe_int))
    (pss_cons (ps_set (i := 2) sc__law_draw.nd rfl (by first | exact Or.inl rfl | exact Or.inr rfl) (pe_op op_modN (pe_callTy call_int1 (by rfl) T.b_int bb_int (pa_cons (pe_op opMul (pv 2) (pe_op opAdd (pe_op op_fdivN (pv 2) pe_int) pe_int)) pa_nil)) pe_int))
    (pss_one (ps_ret (pe_op op_modN (pe_callTy call_int1 (by rfl) T.b_int bb_int (pa_cons (pe_op op_fdivN (pv 2) pe_int) pa_nil)) (pv 1)))))))))),
    body_ok (N := n__law_draw) (f := y__law_draw) ((sn_seq (sn_if (sn_and (sn_tst (sn_op o_eq (sn_hix 0 2) (sn_int 0))) (sn_tst (sn_op o_cmp (sn_hix 0 1) (sn_cb1 o_len (sn_hix 0 0))))) (sn_seq (sn_set 3 (sn_op o_ix (sn_hix 0 0) (sn_hix 0 1))) 
    (sn_seq (sn_hput 0 1 (sn_op o_add (sn_hix 0 1) (sn_int 1))) 
    (sn_seq (sn_hput 0 3 (sn_op o_mod (sn_cb1 o_toInt (sn_op o_add (sn_op o_add (sn_op o_mul (sn_hix 0 3) (sn_int 69621)) (sn_op o_mul (sn_var 3) (sn_int 40692))) (sn_int 31))) (sn_int 2147483629))) 
    (sn_if (sn_tst (sn_op o_cmp (sn_var 3) (sn_op o_pow (sn_int 10) (sn_int 18)))) (sn_hput 0 2 (sn_var 3)) sn_next)))) sn_next) 
    (sn_seq (sn_if (sn_tst (sn_op o_cmp (sn_hix 0 2) (sn_int 0))) (sn_seq (sn_set 4 (sn_op o_mod (sn_cb1 o_toInt (sn_hix 0 2)) (sn_var 1))) 
    (sn_seq (sn_hput 0 2 (sn_op o_fdiv (sn_hix 0 2) (sn_var 1))) 
    (sn_ret (SndE.bo (sn_var 4))))) sn_next) 
    (sn_seq (sn_hput 0 4 (sn_op o_add (sn_hix 0 4) (sn_int 1))) 
    (sn_seq (sn_set 2 (sn_op o_mod (sn_cb1 o_toInt (sn_op o_mul (sn_cb1 o_toInt (sn_op o_add (sn_hix 0 3) (sn_op o_mul (sn_int 7919) (sn_hix 0 4)))) (sn_int 48271))) (sn_int 2147483647))) 
    (sn_seq (sn_set 2 (sn_op o_mod (sn_cb1 o_toInt (sn_op o_mul (sn_var 2) (sn_op o_add (sn_op o_fdiv (sn_var 2) (sn_int 1009)) (sn_int 69621)))) (sn_int 2147483647))) 
    (sn_seq (sn_set 2 (sn_op o_mod (sn_cb1 o_toInt (sn_op o_mul (sn_var 2) (sn_op o_add (sn_op o_fdiv (sn_var 2) (sn_int 2003)) (sn_int 40014)))) (sn_int 2147483563))) 
    (sn_ret (SndE.bo (sn_op o_mod (sn_cb1 o_toInt (sn_op o_fdiv (sn_var 2) (sn_int 16))) (sn_var 1))))))))))) h⟩
end
def y__law_any : F1 Out := (sRet (e2 gIx (eVar 1) (eCall d__law_draw (eA (eVar 0) (eA (e1 gLen (eVar 1)) eA0)))))
def d__law_any : List PyData → W → Option (PyData × W) := fnD 2 y__law_any
section
variable {P : Program} {w : World} {K : PySem.W.Frag} {mg : Str → Option Value} {base : Heap} {A : Nat → Addr} {D : Nat → FuncData}
theorem ok__law_any (T : Txt K mg A D) : FnG P w K mg base 2 (A 42) (D 42) p__law_any (spD K 2 d__law_any) :=
  FnG.ok T.f__law_any.F sc__law_any (fun vs H Q E h => spD.len h) fun cdv Ar outer s H vs Q E hgd hr h => by
    have hu := hr.units
    exact ⟨_, (pss_one (ps_ret (pe_ix ix_seq (pv 1) (pe_fn (ok__law_draw T) hgd (hr.mono (by decide)) rfl T.f__law_draw.mg T.f__law_draw.F.kp T.f__law_draw.b (pa_cons (pv 0) (pa_cons (pe_callB call_len (by rfl) T.b_len bb_len (pa_cons (pv 1) pa_nil)) pa_nil))) (fun _ _ => rfl)))),
    body_ok (N := n__law_any) (f := y__law_any) ((sn_ret (SndE.bo (sn_op o_ix (sn_var 1) (sn_call (sn_a (sn_var 0) (sn_a (sn_cb1 o_len (sn_var 1)) sn_a0))))))) h⟩
end
def y__law_frac : F1 Out := (sSeq (sPar 2 3 false false (eA (e1 gAbs (eVar 0)) (eA (eVar 1) eA0))) 
    (sSeq (sWhile 100000 (bV (e2 gGt (eVar 2) (eC (.int 0)))) 
    (sPar 2 3 false false (eA (e2 gMod (e1 gToInt (eVar 3)) (eVar 2)) (eA (eVar 2) eA0)))) 
    (sRet (eTup (eA (e2 gDiv (eVar 0) (eVar 3)) (eA (e2 gDiv (eVar 1) (eVar 3)) eA0))))))
def d__law_frac : List PyData → W → Option (PyData × W) := fnD 4 y__law_frac
section
variable {P : Program} {w : World} {K : PySem.W.Frag} {mg : Str → Option Value} {base : Heap} {A : Nat → Addr} {D : Nat → FuncData}
theorem ok__law_frac (T : Txt K mg A D) : FnG P w K mg base 1 (A 43) (D 43) p__law_frac (spD K 2 d__law_frac) :=
  FnG.ok T.f__law_frac.F sc__law_frac (fun vs H Q E h => spD.len h) fun cdv Ar outer s H vs Q E hgd hr h => by
    have hu := hr.units
    exact ⟨_, (pss_cons (ps_par (i := 2) (j := 3) (by rfl) sc__law_frac.nd rfl rfl (by decide) rfl rfl (pa_cons (pe_callB call_abs (by rfl) T.b_abs bb_abs (pa_cons (pv 0) pa_nil)) (pa_cons (pv 1) pa_nil)) (by rfl))
    (pss_cons (ps_while PassesOwn.never (pt_cmpR op_gt (pv 2) pe_int (nomark _))
    (pss_one (ps_par (i := 2) (j := 3) (by rfl) sc__law_frac.nd rfl rfl (by decide) rfl rfl (pa_cons (pe_op op_modN (pe_callTy call_int1 (by rfl) T.b_int bb_int (pa_cons (pv 3) pa_nil)) (pv 2)) (pa_cons (pv 2) pa_nil)) (by rfl))))
    (pss_one (ps_ret (pe_tup (pa_cons (pe_op op_fdivN (pv 0) (pv 3)) (pa_cons (pe_op op_fdivN (pv 1) (pv 3)) pa_nil))))))),
    body_ok (N := n__law_frac) (f := y__law_frac) ((sn_seq (sn_par false false (sn_a (sn_cb1 o_abs (sn_var 0)) (sn_a (sn_var 1) sn_a0))) 
    (sn_seq (sn_while 100000 (sn_tst (sn_op o_cmp (sn_var 2) (sn_int 0))) 
    (sn_par false false (sn_a (sn_op o_mod (sn_cb1 o_toInt (sn_var 3)) (sn_var 2)) (sn_a (sn_var 2) sn_a0)))) 
    (sn_ret (SndE.bo (sn_tup (sn_a (sn_op o_fdiv (sn_var 0) (sn_var 3)) (sn_a (sn_op o_fdiv (sn_var 1) (sn_var 3)) sn_a0)))))))) h⟩
end
def y__law_plus : F1 Out := (sRet (eCall d__law_frac (eA (e2 gAdd (e2 gMul (e2 gIx (eVar 0) (eC (.int 0))) (e2 gIx (eVar 1) (eC (.int 1)))) (e2 gMul (e2 gIx (eVar 1) (eC (.int 0))) (e2 gIx (eVar 0) (eC (.int 1))))) (eA (e2 gMul (e2 gIx (eVar 0) (eC (.int 1))) (e2 gIx (eVar 1) (eC (.int 1)))) eA0))))
def d__law_plus : List PyData → W → Option (PyData × W) := fnD 2 y__law_plus
section
variable {P : Program} {w : World} {K : PySem.W.Frag} {mg : Str → Option Value} {base : Heap} {A : Nat → Addr} {D : Nat → FuncData}
theorem ok__law_plus (T : Txt K mg A D) : FnG P w K mg base 2 (A 44) (D 44) p__law_plus (spD K 2 d__law_plus) :=
  FnG.ok T.f__law_plus.F sc__law_plus (fun vs H Q E h => spD.len h) fun cdv Ar outer s H vs Q E hgd hr h => by
    have hu := hr.units
    exact ⟨_, (pss_one (ps_ret (pe_fn (ok__law_frac T) hgd (hr.mono (by decide)) rfl T.f__law_frac.mg T.f__law_frac.F.kp T.f__law_frac.b (pa_cons (pe_op opAdd (pe_op opMul (pe_ix ix_seq (pv 0) pe_int (fun _ _ => rfl)) (pe_ix ix_seq (pv 1) pe_int (fun _ _ => rfl))) (pe_op opMul (pe_ix ix_seq (pv 1) pe_int (fun _ _ => rfl)) (pe_ix ix_seq (pv 0) pe_int (fun _ _ => rfl)))) (pa_cons (pe_op opMul (pe_ix ix_seq (pv 0) pe_int (fun _ _ => rfl)) (pe_ix ix_seq (pv 1) pe_int (fun _ _ => rfl))) pa_nil))))),
    body_ok (N := n__law_plus) (f := y__law_plus) ((sn_ret (SndE.bo (sn_call (sn_a (sn_op o_add (sn_op o_mul (sn_op o_ix (sn_var 0) (sn_int 0)) (sn_op o_ix (sn_var 1) (sn_int 1))) (sn_op o_mul (sn_op o_ix (sn_var 1) (sn_int 0)) (sn_op o_ix (sn_var 0) (sn_int 1)))) (sn_a (sn_op o_mul (sn_op o_ix (sn_var 0) (sn_int 1)) (sn_op o_ix (sn_var 1) (sn_int 1))) sn_a0)))))) h⟩
end
def y__law_minus : F1 Out := (sRet (eCall d__law_frac (eA (e2 gSub (e2 gMul (e2 gIx (eVar 0) (eC (.int 0))) (e2 gIx (eVar 1) (eC (.int 1)))) (e2 gMul (e2 gIx (eVar 1) (eC (.int 0))) (e2 gIx (eVar 0) (eC (.int 1))))) (eA (e2 gMul (e2 gIx (eVar 0) (eC (.int 1))) (e2 gIx (eVar 1) (eC (.int 1)))) eA0))))
def d__law_minus : List PyData → W → Option (PyData × W) := fnD 2 y__law_minus
section
variable {P : Program} {w : World} {K : PySem.W.Frag} {mg : Str → Option Value} {base : Heap} {A : Nat → Addr} {D : Nat → FuncData}
theorem ok__law_minus (T : Txt K mg A D) : FnG P w K mg base 2 (A 45) (D 45) p__law_minus (spD K 2 d__law_minus) :=
  FnG.ok T.f__law_minus.F sc__law_minus (fun vs H Q E h => spD.len h) fun cdv Ar outer s H vs Q E hgd hr h => by
    have hu := hr.units
    exact ⟨_, (pss_one (ps_ret (pe_fn (ok__law_frac T) hgd (hr.mono (by decide)) rfl T.f__law_frac.mg T.f__law_frac.F.kp T.f__law_frac.b (pa_cons (pe_op op_sub (pe_op opMul (pe_ix ix_seq (pv 0) pe_int (fun _ _ => rfl)) (pe_ix ix_seq (pv 1) pe_int (fun _ _ => rfl))) (pe_op opMul (pe_ix ix_seq (pv 1) pe_int (fun _ _ => rfl)) (pe_ix ix_seq (pv 0) pe_int (fun _ _ => rfl)))) (pa_cons (pe_op opMul (pe_ix ix_seq (pv 0) pe_int (fun _ _ => rfl)) (pe_ix ix_seq (pv 1) pe_int (fun _ _ => rfl))) pa_nil))))),
    body_ok (N := n__law_minus) (f := y__law_minus) ((sn_ret (SndE.bo (sn_call (sn_a (sn_op o_sub (sn_op o_mul (sn_op o_ix (sn_var 0) (sn_int 0)) (sn_op o_ix (sn_var 1) (sn_int 1))) (sn_op o_mul (sn_op o_ix (sn_var 1) (sn_int 0)) (sn_op o_ix (sn_var 0) (sn_int 1)))) (sn_a (sn_op o_mul (sn_op o_ix (sn_var 0) (sn_int 1)) (sn_op o_ix (sn_var 1) (sn_int 1))) sn_a0)))))) h⟩
end
def y__law_times : F1 Out := (sRet (eCall d__law_frac (eA (e2 gMul (e2 gIx (eVar 0) (eC (.int 0))) (e2 gIx (eVar 1) (eC (.int 0)))) (eA (e2 gMul (e2 gIx (eVar 0) (eC (.int 1))) (e2 gIx (eVar 1) (eC (.int 1)))) eA0))))
def d__law_times : List PyData → W → Option (PyData × W) := fnD 2 y__law_times
section
variable {P : Program} {w : World} {K : PySem.W.Frag} {mg : Str → Option Value} {base : Heap} {A : Nat → Addr} {D : Nat → FuncData}
theorem ok__law_times (T : Txt K mg A D) : FnG P w K mg base 2 (A 46) (D 46) p__law_times (spD K 2 d__law_times) :=
  FnG.ok T.f__law_times.F sc__law_times (fun vs H Q E h => spD.len h) fun cdv Ar outer s H vs Q E hgd hr h => by
    have hu := hr.units
    exact ⟨_, (pss_one (ps_ret (pe_fn (ok__law_frac T) hgd (hr.mono (by decide)) rfl T.f__law_frac.mg T.f__law_frac.F.kp T.f__law_frac.b (pa_cons (pe_op opMul (pe_ix ix_seq (pv 0) pe_int (fun _ _ => rfl)) (pe_ix ix_seq (pv 1) pe_int (fun _ _ => rfl))) (pa_cons (pe_op opMul (pe_ix ix_seq (pv 0) pe_int (fun _ _ => rfl)) (pe_ix ix_seq (pv 1) pe_int (fun _ _ => rfl))) pa_nil))))),
    body_ok (N := n__law_times) (f := y__law_times) ((sn_ret (SndE.bo (sn_call (sn_a (sn_op o_mul (sn_op o_ix (sn_var 0) (sn_int 0)) (sn_op o_ix (sn_var 1) (sn_int 0))) (sn_a (sn_op o_mul (sn_op o_ix (sn_var 0) (sn_int 1)) (sn_op o_ix (sn_var 1) (sn_int 1))) sn_a0)))))) h⟩
end
def y__law_over : F1 Out := (sSeq (sPar 2 3 false false (eA (e2 gMul (e2 gIx (eVar 0) (eC (.int 0))) (e2 gIx (eVar 1) (eC (.int 1)))) (eA (e2 gMul (e2 gIx (eVar 0) (eC (.int 1))) (e2 gIx (eVar 1) (eC (.int 0)))) eA0))) 
    (sRet (eIf (bV (e2 gGt (eVar 3) (eC (.int 0)))) (eCall d__law_frac (eA (eVar 2) (eA (eVar 3) eA0))) (eCall d__law_frac (eA (e2 gSub (eC (.int 0)) (eVar 2)) (eA (e2 gSub (eC (.int 0)) (eVar 3)) eA0))))))
def d__law_over : List PyData → W → Option (PyData × W) := fnD 4 y__law_over
section
variable {P : Program} {w : World} {K : PySem.W.Frag} {mg : Str → Option Value} {base : Heap} {A : Nat → Addr} {D : Nat → FuncData}
theorem ok__law_over (T : Txt K mg A D) : FnG P w K mg base 2 (A 47) (D 47) p__law_over (spD K 2 d__law_over) :=
  FnG.ok T.f__law_over.F sc__law_over (fun vs H Q E h => spD.len h) fun cdv Ar outer s H vs Q E hgd hr h => by
    have hu := hr.units
    exact ⟨_, (pss_cons (ps_par (i := 2) (j := 3) (by rfl) sc__law_over.nd rfl rfl (by decide) rfl rfl (pa_cons (pe_op opMul (pe_ix ix_seq (pv 0) pe_int (fun _ _ => rfl)) (pe_ix ix_seq (pv 1) pe_int (fun _ _ => rfl))) (pa_cons (pe_op opMul (pe_ix ix_seq (pv 0) pe_int (fun _ _ => rfl)) (pe_ix ix_seq (pv 1) pe_int (fun _ _ => rfl))) pa_nil)) (by rfl))
    (pss_one (ps_ret (pe_ifExp (pt_cmpR op_gt (pv 3) pe_int (nomark _)) (pe_fn (ok__law_frac T) hgd (hr.mono (by decide)) rfl T.f__law_frac.mg T.f__law_frac.F.kp T.f__law_frac.b (pa_cons (pv 2) (pa_cons (pv 3) pa_nil))) (pe_fn (ok__law_frac T) hgd (hr.mono (by decide)) rfl T.f__law_frac.mg T.f__law_frac.F.kp T.f__law_frac.b (pa_cons (pe_op op_sub pe_int (pv 2)) (pa_cons (pe_op op_sub pe_int (pv 3)) pa_nil))))))),
    body_ok (N := n__law_over) (f := y__law_over) ((sn_seq (sn_par false false (sn_a (sn_op o_mul (sn_op o_ix (sn_var 0) (sn_int 0)) (sn_op o_ix (sn_var 1) (sn_int 1))) (sn_a (sn_op o_mul (sn_op o_ix (sn_var 0) (sn_int 1)) (sn_op o_ix (sn_var 1) (sn_int 0))) sn_a0))) 
    (sn_ret (SndE.bo (sn_ifx (sn_tst (sn_op o_cmp (sn_var 3) (sn_int 0))) (sn_call (sn_a (sn_var 2) (sn_a (sn_var 3) sn_a0))) (sn_call (sn_a (sn_op o_sub (sn_int 0) (sn_var 2)) (sn_a (sn_op o_sub (sn_int 0) (sn_var 3)) sn_a0)))))))) h⟩
end
def y__law_left : F1 Out := (sRet (eCall d__law_frac (eA (e2 gMod (e1 gToInt (e2 gIx (eVar 0) (eC (.int 0)))) (e2 gMul (e2 gIx (eVar 0) (eC (.int 1))) (eVar 1))) (eA (e2 gIx (eVar 0) (eC (.int 1))) eA0))))
def d__law_left : List PyData → W → Option (PyData × W) := fnD 2 y__law_left
section
variable {P : Program} {w : World} {K : PySem.W.Frag} {mg : Str → Option Value} {base : Heap} {A : Nat → Addr} {D : Nat → FuncData}
theorem ok__law_left (T : Txt K mg A D) : FnG P w K mg base 2 (A 48) (D 48) p__law_left (spD K 2 d__law_left) :=
  FnG.ok T.f__law_left.F sc__law_left (fun vs H Q E h => spD.len h) fun cdv Ar outer s H vs Q E hgd hr h => by
    have hu := hr.units
    exact ⟨_, (pss_one (ps_ret (pe_fn (ok__law_frac T) hgd (hr.mono (by decide)) rfl T.f__law_frac.mg T.f__law_frac.F.kp T.f__law_frac.b (pa_cons (pe_op op_modN (pe_callTy call_int1 (by rfl) T.b_int bb_int (pa_cons (pe_ix ix_seq (pv 0) pe_int (fun _ _ => rfl)) pa_nil)) (pe_op opMul (pe_ix ix_seq (pv 0) pe_int (fun _ _ => rfl)) (pv 1))) (pa_cons (pe_ix ix_seq (pv 0) pe_int (fun _ _ => rfl)) pa_nil))))),
    body_ok (N := n__law_left) (f := y__law_left) ((sn_ret (SndE.bo (sn_call (sn_a (sn_op o_mod (sn_cb1 o_toInt (sn_op o_ix (sn_var 0) (sn_int 0))) (sn_op o_mul (sn_op o_ix (sn_var 0) (sn_int 1)) (sn_var 1))) (sn_a (sn_op o_ix (sn_var 0) (sn_int 1)) sn_a0)))))) h⟩
end
def y__law_are_hands_right : F1 Out := (sSeq (sPar 10 11 false false (eA (eCall d__law_draw (eA (eVar 0) (eA (eC (.int 12)) eA0))) (eA (eCall d__law_any (eA (eVar 0) (eA (eLst (eA (eC (.int 1)) (eA (eC (.int 2)) (eA (eC (.int 3)) (eA (eC (.int 4)) eA0))))) eA0))) eA0))) 
    (sSeq (sSet 1 (eTup (eA (eTup (eA (eVar 10) (eA (eTup (eA (eC (.int 1)) (eA (eC (.int 1)) eA0))) eA0))) (eA (eTup (eA (eC (.int 0)) (eA (eTup (eA (eC (.int 12)) (eA (eC (.int 1)) eA0))) eA0))) eA0)))) 
    (sSeq (sSet 2 (eCall d__law_over (eA (eTup (eA (eVar 10) (eA (eC (.int 1)) eA0))) (eA (eTup (eA (eC (.int 11)) (eA (eC (.int 1)) eA0))) eA0)))) 
    (sSeq (sIf (bOr (bV (e2 gNe (eCall d_ring_meeting (eA (eC (.int 12)) (eA (eVar 1) (eA (eC (.int 0)) (eA (eC (.int 1)) eA0))))) (eVar 2))) (bV (e2 gNe (eCall d_ring_meeting (eA (eC (.int 12)) (eA (eVar 1) (eA (eC (.int 1)) (eA (eC (.int 0)) eA0))))) (eVar 2)))) (sRet (eC (.bool false))) sNext) 
    (sSeq (sPar 12 13 false false (eA (eCall d__law_plus (eA (eTup (eA (eVar 10) (eA (eC (.int 1)) eA0))) (eA (eVar 2) eA0))) (eA (e1 gList (eCall d_times_together (eA (eC (.int 0)) (eA (eC (.int 1)) eA0)))) eA0))) 
    (sSeq (sIf (bOr (bV (e2 gNe (eVar 13) (eLc [15] (iRange1 (eC (.int 11))) (gSet 15) bYes (eCall d__law_frac (eA (e2 gMul (eC (.int 12)) (eVar 15)) (eA (eC (.int 11)) eA0)))))) (bV (e2 (gIn true) (eCall d__law_left (eA (eVar 12) (eA (eC (.int 12)) eA0))) (eVar 13)))) (sRet (eC (.bool false))) sNext) 
    (sSeq (sIf (bV (e2 gNe (eCall d_gap_of (eA (eCall d__law_left (eA (eVar 12) (eA (eC (.int 12)) eA0))) eA0)) (eTup (eA (eC (.int 0)) (eA (eC (.int 1)) eA0))))) (sRet (eC (.bool false))) sNext) 
    (sSeq (sSet 3 (e2 gMul (eC (.int 12)) (eVar 11))) 
    (sSeq (sSet 4 (eCall d__law_draw (eA (eVar 0) (eA (eVar 3) eA0)))) 
    (sSeq (sSet 1 (eTup (eA (eTup (eA (eVar 4) (eA (eTup (eA (eVar 11) (eA (eC (.int 1)) eA0))) eA0))) (eA (eTup (eA (eC (.int 0)) (eA (eTup (eA (eVar 3) (eA (eC (.int 1)) eA0))) eA0))) eA0)))) 
    (sSeq (sAsg (eTup (eA (eCall d__law_over (eA (eTup (eA (eVar 4) (eA (eC (.int 1)) eA0))) (eA (eTup (eA (e2 gMul (eC (.int 11)) (eVar 11)) (eA (eC (.int 1)) eA0))) eA0))) (eA (eCall d__law_frac (eA (eVar 4) (eA (eVar 3) eA0))) eA0))) (gTupD 2 (gsCons (gSet 2) (gsCons (gSet 14) gsNil)))) 
    (sSeq (sSet 5 (e1 gList (eCall d_when_gap (eA (eVar 14) eA0)))) 
    (sSeq (sIf (bOr (bV (e2 gNe (eCall d_ring_meeting (eA (eVar 3) (eA (eVar 1) (eA (eC (.int 0)) (eA (eC (.int 1)) eA0))))) (eVar 2))) (bOr (bV (e2 gNe (e2 gIx (eVar 5) (eC (.int 0))) (eVar 2))) (bV (e2 gNe (e1 gLen (eVar 5)) (eC (.int 11)))))) (sRet (eC (.bool false))) sNext) 
    (sSeq (sIf (bV (e2 gNe (eVar 5) (eLc [15] (iRange1 (eC (.int 11))) (gSet 15) bYes (eCall d__law_plus (eA (eVar 2) (eA (eCall d__law_frac (eA (e2 gMul (eC (.int 12)) (eVar 15)) (eA (eC (.int 11)) eA0))) eA0)))))) (sRet (eC (.bool false))) sNext) 
    (sSeq (sSet 6 (eCall d__law_any (eA (eVar 0) (eA (eVar 5) eA0)))) 
    (sSeq (sIf (bV (e2 gNe (eCall d_gap_of (eA (eVar 6) eA0)) (eVar 14))) (sRet (eC (.bool false))) sNext) 
    (sSeq (sSet 7 (eLc [15] (iItems (eTup (eA (eC (.int 0)) (eA (eC (.int 1)) eA0)))) (gSet 15) bYes (eCall d_racer_at (eA (eVar 1) (eA (eVar 15) (eA (eVar 6) eA0)))))) 
    (sSeq (sIf (bV (e2 gNe (eCall d__law_left (eA (e2 gIx (eVar 7) (eC (.int 0))) (eA (eVar 3) eA0))) (eCall d__law_left (eA (e2 gIx (eVar 7) (eC (.int 1))) (eA (eVar 3) eA0))))) (sRet (eC (.bool false))) sNext) 
    (sSeq (sSet 8 (eCall d__law_over (eA (eCall d__law_left (eA (e2 gIx (eVar 7) (eC (.int 1))) (eA (eVar 3) eA0))) (eA (eTup (eA (eVar 3) (eA (eC (.int 1)) eA0))) eA0)))) 
    (sSeq (sSet 9 (eCall d__law_over (eA (eCall d__law_left (eA (eCall d__law_minus (eA (e2 gIx (eVar 7) (eC (.int 0))) (eA (eTup (eA (eVar 4) (eA (eC (.int 1)) eA0))) eA0))) (eA (eVar 3) eA0))) (eA (eTup (eA (eVar 3) (eA (eC (.int 1)) eA0))) eA0)))) 
    (sRet (eAndV (e2 gEq (eCall d_minute_place (eA (eVar 6) eA0)) (eVar 8)) (e2 gEq (eCall d_hour_place (eA (eVar 6) eA0)) (eVar 9))))))))))))))))))))))))
def d__law_are_hands_right : List PyData → W → Option (PyData × W) := fnD 16 y__law_are_hands_right
section
variable {P : Program} {w : World} {K : PySem.W.Frag} {mg : Str → Option Value} {base : Heap} {A : Nat → Addr} {D : Nat → FuncData}
theorem ok__law_are_hands_right (T : Txt K mg A D) : FnG P w K mg base 8 (A 49) (D 49) p__law_are_hands_right (spD K 1 d__law_are_hands_right) :=
  FnG.ok T.f__law_are_hands_right.F sc__law_are_hands_right (fun vs H Q E h => spD.len h) fun cdv Ar outer s H vs Q E hgd hr h => by
    have hu := hr.units
    exact ⟨_, (pss_cons (ps_par (i := 10) (j := 11) (by rfl) sc__law_are_hands_right.nd rfl rfl (by decide) rfl rfl (pa_cons (pe_fn (ok__law_draw T) hgd (hr.mono (by decide)) rfl T.f__law_draw.mg T.f__law_draw.F.kp T.f__law_draw.b (pa_cons (pv 0) (pa_cons pe_int pa_nil))) (pa_cons (pe_fn (ok__law_any T) hgd (hr.mono (by decide)) rfl T.f__law_any.mg T.f__law_any.F.kp T.f__law_any.b (pa_cons (pv 0) (pa_cons (pe_lst (pa_cons pe_int (pa_cons pe_int (pa_cons pe_int (pa_cons pe_int pa_nil))))) pa_nil))) pa_nil)) (by rfl))
    (pss_cons (ps_set (i := 1) sc__law_are_hands_right.nd rfl (by first | exact Or.inl rfl | exact Or.inr rfl) (pe_tup (pa_cons (pe_tup (pa_cons (pv 10) (pa_cons (pe_tup (pa_cons pe_int (pa_cons pe_int pa_nil))) pa_nil))) (pa_cons (pe_tup (pa_cons pe_int (pa_cons (pe_tup (pa_cons pe_int (pa_cons pe_int pa_nil))) pa_nil))) pa_nil))))
    (pss_cons (ps_set (i := 2) sc__law_are_hands_right.nd rfl (by first | exact Or.inl rfl | exact Or.inr rfl) (pe_fn (ok__law_over T) hgd (hr.mono (by decide)) rfl T.f__law_over.mg T.f__law_over.F.kp T.f__law_over.b (pa_cons (pe_tup (pa_cons (pv 10) (pa_cons pe_int pa_nil))) (pa_cons (pe_tup (pa_cons pe_int (pa_cons pe_int pa_nil))) pa_nil))))
    (pss_cons (ps_if (PW.pt (pw_or (pt_cmpR (opNe hu) (pe_fn (ok_ring_meeting T) hgd (hr.mono (by decide)) rfl T.f_ring_meeting.mg T.f_ring_meeting.F.kp T.f_ring_meeting.b (pa_cons pe_int (pa_cons (pv 1) (pa_cons pe_int (pa_cons pe_int pa_nil))))) (pv 2) (nomark _)) (pw_or1 (pt_cmpR (opNe hu) (pe_fn (ok_ring_meeting T) hgd (hr.mono (by decide)) rfl T.f_ring_meeting.mg T.f_ring_meeting.F.kp T.f_ring_meeting.b (pa_cons pe_int (pa_cons (pv 1) (pa_cons pe_int (pa_cons pe_int pa_nil))))) (pv 2) (nomark _))))) (pss_one (ps_ret pe_bl)) pss_nil)
    (pss_cons (ps_par (i := 12) (j := 13) (by rfl) sc__law_are_hands_right.nd rfl rfl (by decide) rfl rfl (pa_cons (pe_fn (ok__law_plus T) hgd (hr.mono (by decide)) rfl T.f__law_plus.mg T.f__law_plus.F.kp T.f__law_plus.b (pa_cons (pe_tup (pa_cons (pv 10) (pa_cons pe_int pa_nil))) (pa_cons (pv 2) pa_nil))) (pa_cons (pe_callTy call_list_of (by rfl) T.b_list bb_list (pa_cons (pe_fn (ok_times_together T) hgd (hr.mono (by decide)) rfl T.f_times_together.mg T.f_times_together.F.kp T.f_times_together.b (pa_cons pe_int (pa_cons pe_int pa_nil))) pa_nil)) pa_nil)) (by rfl))
    (pss_cons (ps_if (PW.pt (pw_or (pt_cmpR (opNe hu) (pv 13) (pe_lc (own := [("at", 15)]) (tt := tYes) rfl sc__law_are_hands_right.nd (pi_range1 rfl T.b_range (pa_cons pe_int pa_nil)) (blkOk_by (own := [("at", 15)]) (N := n__law_are_hands_right) (sc := defScope s__law_are_hands_right) (by decide +kernel)) (fun _ _ _ _ _ => (pg_name (i := 15) sc__law_are_hands_right.nd rfl (by first | exact Or.inl rfl | exact Or.inr rfl))) (fun _ _ _ _ _ => pts_nil) (fun _ _ _ _ _ => (pe_fn (ok__law_frac T) hgd (hr.mono (by decide)) rfl T.f__law_frac.mg T.f__law_frac.F.kp T.f__law_frac.b (pa_cons (pe_op opMul pe_int (pv 15)) (pa_cons pe_int pa_nil))))) (nomark _)) (pw_or1 (pt_cmpR (opNotIn hr.u) (pe_fn (ok__law_left T) hgd (hr.mono (by decide)) rfl T.f__law_left.mg T.f__law_left.F.kp T.f__law_left.b (pa_cons (pv 12) (pa_cons pe_int pa_nil))) (pv 13) (by with_unfolding_all rfl))))) (pss_one (ps_ret pe_bl)) pss_nil)
    (pss_cons (ps_if (pt_cmpR (opNe hu) (pe_fn (ok_gap_of T) hgd (hr.mono (by decide)) rfl T.f_gap_of.mg T.f_gap_of.F.kp T.f_gap_of.b (pa_cons (pe_fn (ok__law_left T) hgd (hr.mono (by decide)) rfl T.f__law_left.mg T.f__law_left.F.kp T.f__law_left.b (pa_cons (pv 12) (pa_cons pe_int pa_nil))) pa_nil)) (pe_tup (pa_cons pe_int (pa_cons pe_int pa_nil))) (nomark _)) (pss_one (ps_ret pe_bl)) pss_nil)
    (pss_cons (ps_set (i := 3) sc__law_are_hands_right.nd rfl (by first | exact Or.inl rfl | exact Or.inr rfl) (pe_op opMul pe_int (pv 11)))
    (pss_cons (ps_set (i := 4) sc__law_are_hands_right.nd rfl (by first | exact Or.inl rfl | exact Or.inr rfl) (pe_fn (ok__law_draw T) hgd (hr.mono (by decide)) rfl T.f__law_draw.mg T.f__law_draw.F.kp T.f__law_draw.b (pa_cons (pv 0) (pa_cons (pv 3) pa_nil))))
    (pss_cons (ps_set (i := 1) sc__law_are_hands_right.nd rfl (by first | exact Or.inl rfl | exact Or.inr rfl) (pe_tup (pa_cons (pe_tup (pa_cons (pv 4) (pa_cons (pe_tup (pa_cons (pv 11) (pa_cons pe_int pa_nil))) pa_nil))) (pa_cons (pe_tup (pa_cons pe_int (pa_cons (pe_tup (pa_cons (pv 3) (pa_cons pe_int pa_nil))) pa_nil))) pa_nil))))
    (pss_cons (ps_asg (pe_tup (pa_cons (pe_fn (ok__law_over T) hgd (hr.mono (by decide)) rfl T.f__law_over.mg T.f__law_over.F.kp T.f__law_over.b (pa_cons (pe_tup (pa_cons (pv 4) (pa_cons pe_int pa_nil))) (pa_cons (pe_tup (pa_cons (pe_op opMul pe_int (pv 11)) (pa_cons pe_int pa_nil))) pa_nil))) (pa_cons (pe_fn (ok__law_frac T) hgd (hr.mono (by decide)) rfl T.f__law_frac.mg T.f__law_frac.F.kp T.f__law_frac.b (pa_cons (pv 4) (pa_cons (pv 3) pa_nil))) pa_nil))) (pg_tup (by rfl) (pgs_cons (pg_name (i := 2) sc__law_are_hands_right.nd rfl (by first | exact Or.inl rfl | exact Or.inr rfl)) (pgs_cons (pg_name (i := 14) sc__law_are_hands_right.nd rfl (by first | exact Or.inl rfl | exact Or.inr rfl)) pgs_nil))))
    (pss_cons (ps_set (i := 5) sc__law_are_hands_right.nd rfl (by first | exact Or.inl rfl | exact Or.inr rfl) (pe_callTy call_list_of (by rfl) T.b_list bb_list (pa_cons (pe_fn (ok_when_gap T) hgd (hr.mono (by decide)) rfl T.f_when_gap.mg T.f_when_gap.F.kp T.f_when_gap.b (pa_cons (pv 14) pa_nil)) pa_nil)))
    (pss_cons (ps_if (PW.pt (pw_or (pt_cmpR (opNe hu) (pe_fn (ok_ring_meeting T) hgd (hr.mono (by decide)) rfl T.f_ring_meeting.mg T.f_ring_meeting.F.kp T.f_ring_meeting.b (pa_cons (pv 3) (pa_cons (pv 1) (pa_cons pe_int (pa_cons pe_int pa_nil))))) (pv 2) (nomark _)) (pw_or (pt_cmpR (opNe hu) (pe_ix ix_seq (pv 5) pe_int (fun _ _ => rfl)) (pv 2) (nomark _)) (pw_or1 (pt_cmpR (opNe hu) (pe_callB call_len (by rfl) T.b_len bb_len (pa_cons (pv 5) pa_nil)) pe_int (nomark _)))))) (pss_one (ps_ret pe_bl)) pss_nil)
    (pss_cons (ps_if (pt_cmpR (opNe hu) (pv 5) (pe_lc (own := [("at", 15)]) (tt := tYes) rfl sc__law_are_hands_right.nd (pi_range1 rfl T.b_range (pa_cons pe_int pa_nil)) (blkOk_by (own := [("at", 15)]) (N := n__law_are_hands_right) (sc := defScope s__law_are_hands_right) (by decide +kernel)) (fun _ _ _ _ _ => (pg_name (i := 15) sc__law_are_hands_right.nd rfl (by first | exact Or.inl rfl | exact Or.inr rfl))) (fun _ _ _ _ _ => pts_nil) (fun _ _ _ _ _ => (pe_fn (ok__law_plus T) hgd (hr.mono (by decide)) rfl T.f__law_plus.mg T.f__law_plus.F.kp T.f__law_plus.b (pa_cons (pv 2) (pa_cons (pe_fn (ok__law_frac T) hgd (hr.mono (by decide)) rfl T.f__law_frac.mg T.f__law_frac.F.kp T.f__law_frac.b (pa_cons (pe_op opMul pe_int (pv 15)) (pa_cons pe_int pa_nil))) pa_nil))))) (nomark _)) (pss_one (ps_ret pe_bl)) pss_nil)
    (pss_cons (ps_set (i := 6) sc__law_are_hands_right.nd rfl (by first | exact Or.inl rfl | exact Or.inr rfl) (pe_fn (ok__law_any T) hgd (hr.mono (by decide)) rfl T.f__law_any.mg T.f__law_any.F.kp T.f__law_any.b (pa_cons (pv 0) (pa_cons (pv 5) pa_nil))))
    (pss_cons (ps_if (pt_cmpR (opNe hu) (pe_fn (ok_gap_of T) hgd (hr.mono (by decide)) rfl T.f_gap_of.mg T.f_gap_of.F.kp T.f_gap_of.b (pa_cons (pv 6) pa_nil)) (pv 14) (nomark _)) (pss_one (ps_ret pe_bl)) pss_nil)
    (pss_cons (ps_setLc (i := 7) (own := [("at", 15)]) (tt := tYes) rfl sc__law_are_hands_right.nd rfl rfl (sw_true rfl rfl rfl (by decide +kernel)) (pi_seq (pe_tup (pa_cons pe_int (pa_cons pe_int pa_nil)))) (blkOk_by (own := [("at", 15)]) (N := n__law_are_hands_right) (sc := defScope s__law_are_hands_right) (by decide +kernel)) (fun _ _ _ _ _ => (pg_name (i := 15) sc__law_are_hands_right.nd rfl (by first | exact Or.inl rfl | exact Or.inr rfl))) (fun _ _ _ _ _ => pts_nil) (fun _ _ _ _ _ => (pe_fn (ok_racer_at T) hgd (hr.mono (by decide)) rfl T.f_racer_at.mg T.f_racer_at.F.kp T.f_racer_at.b (pa_cons (pv 1) (pa_cons (pv 15) (pa_cons (pv 6) pa_nil))))))
    (pss_cons (ps_if (pt_cmpR (opNe hu) (pe_fn (ok__law_left T) hgd (hr.mono (by decide)) rfl T.f__law_left.mg T.f__law_left.F.kp T.f__law_left.b (pa_cons (pe_ix ix_seq (pv 7) pe_int (fun _ _ => rfl)) (pa_cons (pv 3) pa_nil))) (pe_fn (ok__law_left T) hgd (hr.mono (by decide)) rfl T.f__law_left.mg T.f__law_left.F.kp T.f__law_left.b (pa_cons (pe_ix ix_seq (pv 7) pe_int (fun _ _ => rfl)) (pa_cons (pv 3) pa_nil))) (nomark _)) (pss_one (ps_ret pe_bl)) pss_nil)
    (pss_cons (ps_set (i := 8) sc__law_are_hands_right.nd rfl (by first | exact Or.inl rfl | exact Or.inr rfl) (pe_fn (ok__law_over T) hgd (hr.mono (by decide)) rfl T.f__law_over.mg T.f__law_over.F.kp T.f__law_over.b (pa_cons (pe_fn (ok__law_left T) hgd (hr.mono (by decide)) rfl T.f__law_left.mg T.f__law_left.F.kp T.f__law_left.b (pa_cons (pe_ix ix_seq (pv 7) pe_int (fun _ _ => rfl)) (pa_cons (pv 3) pa_nil))) (pa_cons (pe_tup (pa_cons (pv 3) (pa_cons pe_int pa_nil))) pa_nil))))
    (pss_cons (ps_set (i := 9) sc__law_are_hands_right.nd rfl (by first | exact Or.inl rfl | exact Or.inr rfl) (pe_fn (ok__law_over T) hgd (hr.mono (by decide)) rfl T.f__law_over.mg T.f__law_over.F.kp T.f__law_over.b (pa_cons (pe_fn (ok__law_left T) hgd (hr.mono (by decide)) rfl T.f__law_left.mg T.f__law_left.F.kp T.f__law_left.b (pa_cons (pe_fn (ok__law_minus T) hgd (hr.mono (by decide)) rfl T.f__law_minus.mg T.f__law_minus.F.kp T.f__law_minus.b (pa_cons (pe_ix ix_seq (pv 7) pe_int (fun _ _ => rfl)) (pa_cons (pe_tup (pa_cons (pv 4) (pa_cons pe_int pa_nil))) pa_nil))) (pa_cons (pv 3) pa_nil))) (pa_cons (pe_tup (pa_cons (pv 3) (pa_cons pe_int pa_nil))) pa_nil))))
    (pss_one (ps_ret (pe_and (pe_cmpR (opEq hu) (pe_fn (ok_minute_place T) hgd (hr.mono (by decide)) rfl T.f_minute_place.mg T.f_minute_place.F.kp T.f_minute_place.b (pa_cons (pv 6) pa_nil)) (pv 8) (nomark _)) (pe_one (pe_cmpR (opEq hu) (pe_fn (ok_hour_place T) hgd (hr.mono (by decide)) rfl T.f_hour_place.mg T.f_hour_place.F.kp T.f_hour_place.b (pa_cons (pv 6) pa_nil)) (pv 9) (nomark _)))))))))))))))))))))))))),
    body_ok (N := n__law_are_hands_right) (f := y__law_are_hands_right) ((sn_seq (sn_par false false (sn_a (sn_call (sn_a (sn_var 0) (sn_a (sn_int 12) sn_a0))) (sn_a (sn_call (sn_a (sn_var 0) (sn_a (SndE.sh (sn_lst (sn_a (sn_int 1) (sn_a (sn_int 2) (sn_a (sn_int 3) (sn_a (sn_int 4) sn_a0)))))) sn_a0))) sn_a0))) 
    (sn_seq (sn_set 1 (sn_tup (sn_a (sn_tup (sn_a (sn_var 10) (sn_a (sn_tup (sn_a (sn_int 1) (sn_a (sn_int 1) sn_a0))) sn_a0))) (sn_a (sn_tup (sn_a (sn_int 0) (sn_a (sn_tup (sn_a (sn_int 12) (sn_a (sn_int 1) sn_a0))) sn_a0))) sn_a0)))) 
    (sn_seq (sn_set 2 (sn_call (sn_a (sn_tup (sn_a (sn_var 10) (sn_a (sn_int 1) sn_a0))) (sn_a (sn_tup (sn_a (sn_int 11) (sn_a (sn_int 1) sn_a0))) sn_a0)))) 
    (sn_seq (sn_if (sn_or (sn_tst (sn_op o_ne (sn_call (sn_a (sn_int 12) (sn_a (sn_var 1) (sn_a (sn_int 0) (sn_a (sn_int 1) sn_a0))))) (sn_var 2))) (sn_tst (sn_op o_ne (sn_call (sn_a (sn_int 12) (sn_a (sn_var 1) (sn_a (sn_int 1) (sn_a (sn_int 0) sn_a0))))) (sn_var 2)))) (sn_ret (SndE.bo (sn_bl false))) sn_next) 
    (sn_seq (sn_par false false (sn_a (sn_call (sn_a (sn_tup (sn_a (sn_var 10) (sn_a (sn_int 1) sn_a0))) (sn_a (sn_var 2) sn_a0))) (sn_a (SndE.sh (sn_cb1 o_list (sn_call (sn_a (sn_int 0) (sn_a (sn_int 1) sn_a0))))) sn_a0))) 
    (sn_seq (sn_if (sn_or (sn_tst (sn_op o_ne (sn_var 13) (sn_lc (vs := [15]) (SndI.bo (si_range1 (sn_int 11))) (sg_name 15) sn_yes (sn_call (sn_a (sn_op o_mul (sn_int 12) (sn_var 15)) (sn_a (sn_int 11) sn_a0)))))) (sn_tst (sn_op o_in (sn_call (sn_a (sn_var 12) (sn_a (sn_int 12) sn_a0))) (sn_var 13)))) (sn_ret (SndE.bo (sn_bl false))) sn_next) 
    (sn_seq (sn_if (sn_tst (sn_op o_ne (sn_call (sn_a (sn_call (sn_a (sn_var 12) (sn_a (sn_int 12) sn_a0))) sn_a0)) (sn_tup (sn_a (sn_int 0) (sn_a (sn_int 1) sn_a0))))) (sn_ret (SndE.bo (sn_bl false))) sn_next) 
    (sn_seq (sn_set 3 (sn_op o_mul (sn_int 12) (sn_var 11))) 
    (sn_seq (sn_set 4 (sn_call (sn_a (sn_var 0) (sn_a (sn_var 3) sn_a0)))) 
    (sn_seq (sn_set 1 (sn_tup (sn_a (sn_tup (sn_a (sn_var 4) (sn_a (sn_tup (sn_a (sn_var 11) (sn_a (sn_int 1) sn_a0))) sn_a0))) (sn_a (sn_tup (sn_a (sn_int 0) (sn_a (sn_tup (sn_a (sn_var 3) (sn_a (sn_int 1) sn_a0))) sn_a0))) sn_a0)))) 
    (sn_seq (sn_asg (sn_tup (sn_a (sn_call (sn_a (sn_tup (sn_a (sn_var 4) (sn_a (sn_int 1) sn_a0))) (sn_a (sn_tup (sn_a (sn_op o_mul (sn_int 11) (sn_var 11)) (sn_a (sn_int 1) sn_a0))) sn_a0))) (sn_a (sn_call (sn_a (sn_var 4) (sn_a (sn_var 3) sn_a0))) sn_a0))) (sg_tup (n := 2) (sgs_cons (sg_name 2) (sgs_cons (sg_name 14) sgs_nil)))) 
    (sn_seq (sn_set 5 (SndE.sh (sn_cb1 o_list (sn_call (sn_a (sn_var 14) sn_a0))))) 
    (sn_seq (sn_if (sn_or (sn_tst (sn_op o_ne (sn_call (sn_a (sn_var 3) (sn_a (sn_var 1) (sn_a (sn_int 0) (sn_a (sn_int 1) sn_a0))))) (sn_var 2))) (sn_or (sn_tst (sn_op o_ne (sn_op o_ix (sn_var 5) (sn_int 0)) (sn_var 2))) (sn_tst (sn_op o_ne (sn_cb1 o_len (sn_var 5)) (sn_int 11))))) (sn_ret (SndE.bo (sn_bl false))) sn_next) 
    (sn_seq (sn_if (sn_tst (sn_op o_ne (sn_var 5) (sn_lc (vs := [15]) (SndI.bo (si_range1 (sn_int 11))) (sg_name 15) sn_yes (sn_call (sn_a (sn_var 2) (sn_a (sn_call (sn_a (sn_op o_mul (sn_int 12) (sn_var 15)) (sn_a (sn_int 11) sn_a0))) sn_a0)))))) (sn_ret (SndE.bo (sn_bl false))) sn_next) 
    (sn_seq (sn_set 6 (sn_call (sn_a (sn_var 0) (sn_a (sn_var 5) sn_a0)))) 
    (sn_seq (sn_if (sn_tst (sn_op o_ne (sn_call (sn_a (sn_var 6) sn_a0)) (sn_var 14))) (sn_ret (SndE.bo (sn_bl false))) sn_next) 
    (sn_seq (sn_set 7 (SndE.sh (sn_lc (vs := [15]) (si_seqB (sn_tup (sn_a (sn_int 0) (sn_a (sn_int 1) sn_a0)))) (sg_name 15) sn_yes (sn_call (sn_a (sn_var 1) (sn_a (sn_var 15) (sn_a (sn_var 6) sn_a0))))))) 
    (sn_seq (sn_if (sn_tst (sn_op o_ne (sn_call (sn_a (sn_op o_ix (sn_var 7) (sn_int 0)) (sn_a (sn_var 3) sn_a0))) (sn_call (sn_a (sn_op o_ix (sn_var 7) (sn_int 1)) (sn_a (sn_var 3) sn_a0))))) (sn_ret (SndE.bo (sn_bl false))) sn_next) 
    (sn_seq (sn_set 8 (sn_call (sn_a (sn_call (sn_a (sn_op o_ix (sn_var 7) (sn_int 1)) (sn_a (sn_var 3) sn_a0))) (sn_a (sn_tup (sn_a (sn_var 3) (sn_a (sn_int 1) sn_a0))) sn_a0)))) 
    (sn_seq (sn_set 9 (sn_call (sn_a (sn_call (sn_a (sn_call (sn_a (sn_op o_ix (sn_var 7) (sn_int 0)) (sn_a (sn_tup (sn_a (sn_var 4) (sn_a (sn_int 1) sn_a0))) sn_a0))) (sn_a (sn_var 3) sn_a0))) (sn_a (sn_tup (sn_a (sn_var 3) (sn_a (sn_int 1) sn_a0))) sn_a0)))) 
    (sn_ret (SndE.bo (sn_andV (sn_op o_eq (sn_call (sn_a (sn_var 6) sn_a0)) (sn_var 8)) (sn_op o_eq (sn_call (sn_a (sn_var 6) sn_a0)) (sn_var 9)))))))))))))))))))))))))) h⟩
end
def y__law_lag : F1 Out := (sRet (e2 gMul (eCall d__law_any (eA (eVar 0) (eA (eLst (eA (eC (.int 1)) (eA (e1 gNeg (eC (.int 1))) eA0))) eA0))) (e2 gAdd (eC (.int 1)) (eCall d__law_draw (eA (eVar 0) (eA (eC (.int 50)) eA0))))))
def d__law_lag : List PyData → W → Option (PyData × W) := fnD 1 y__law_lag
section
variable {P : Program} {w : World} {K : PySem.W.Frag} {mg : Str → Option Value} {base : Heap} {A : Nat → Addr} {D : Nat → FuncData}
theorem ok__law_lag (T : Txt K mg A D) : FnG P w K mg base 3 (A 50) (D 50) p__law_lag (spD K 1 d__law_lag) :=
  FnG.ok T.f__law_lag.F sc__law_lag (fun vs H Q E h => spD.len h) fun cdv Ar outer s H vs Q E hgd hr h => by
    have hu := hr.units
    exact ⟨_, (pss_one (ps_ret (pe_op opMul (pe_fn (ok__law_any T) hgd (hr.mono (by decide)) rfl T.f__law_any.mg T.f__law_any.F.kp T.f__law_any.b (pa_cons (pv 0) (pa_cons (pe_lst (pa_cons pe_int (pa_cons (pe_un un_neg pe_int) pa_nil))) pa_nil))) (pe_op opAdd pe_int (pe_fn (ok__law_draw T) hgd (hr.mono (by decide)) rfl T.f__law_draw.mg T.f__law_draw.F.kp T.f__law_draw.b (pa_cons (pv 0) (pa_cons pe_int pa_nil))))))),
    body_ok (N := n__law_lag) (f := y__law_lag) ((sn_ret (SndE.bo (sn_op o_mul (sn_call (sn_a (sn_var 0) (sn_a (SndE.sh (sn_lst (sn_a (sn_int 1) (sn_a (sn_un o_neg (sn_int 1)) sn_a0)))) sn_a0))) (sn_op o_add (sn_int 1) (sn_call (sn_a (sn_var 0) (sn_a (sn_int 50) sn_a0)))))))) h⟩
end
def y__law_are_lags_right : F1 Out := (sSeq (sPar 8 9 false false (eA (eCall d__law_lag (eA (eVar 0) eA0)) (eA (eCall d__law_any (eA (eVar 0) (eA (eLst (eA (eCall d__law_lag (eA (eVar 0) eA0)) (eA (eCall d__law_lag (eA (eVar 0) eA0)) (eA (eC (.int 0)) eA0)))) eA0))) eA0))) 
    (sSeq (sSet 1 (eLst (eA (eCall d__law_frac (eA (eVar 8) (eA (eC (.int 20)) eA0))) (eA (eIf (bV (e2 gNe (eVar 9) (eC (.int 0)))) (eCall d__law_frac (eA (eVar 9) (eA (eC (.int 20)) eA0))) (eTup (eA (eC (.int 0)) (eA (eC (.int 1)) eA0)))) eA0)))) 
    (sSeq (sSet 2 (eTup (eA (eTup (eA (eC (.int 0)) (eA (e2 gIx (eVar 1) (eC (.int 0))) eA0))) (eA (eTup (eA (eC (.int 0)) (eA (e2 gIx (eVar 1) (eC (.int 1))) eA0))) eA0)))) 
    (sSeq (sSet 3 (eCall d__law_any (eA (eVar 0) (eA (eLst (eA (eC (.int 0)) (eA (eC (.int 1)) (eA (e2 gPow (eC (.int 10)) (eC (.int 6))) (eA (eCall d__law_draw (eA (eVar 0) (eA (e2 gPow (eC (.int 10)) (eC (.int 6))) eA0))) (eA (eCall d__law_draw (eA (eVar 0) (eA (eC (.int 400)) eA0))) eA0)))))) eA0)))) 
    (sSeq (sFor (iItems (eTup (eA (eTup (eA (eC (.int 0)) (eA (eVar 8) eA0))) (eA (eTup (eA (eC (.int 1)) (eA (eVar 9) eA0))) eA0)))) (gTupD 2 (gsCons (gSet 10) (gsCons (gSet 11) gsNil))) 
    (sSeq (sSet 12 (eCall d_racer_at (eA (eVar 2) (eA (eVar 10) (eA (eTup (eA (eVar 3) (eA (eC (.int 1)) eA0))) eA0))))) 
    (sSeq (sIf (bV (e2 gNe (eVar 12) (eCall d__law_times (eA (e2 gIx (eVar 1) (eVar 10)) (eA (eTup (eA (eVar 3) (eA (eC (.int 1)) eA0))) eA0))))) (sRet (eC (.bool false))) sNext) 
    (sSeq (sSet 13 (e2 gMod (e1 gToInt (e2 gMul (e2 gMul (eC (.int 6)) (eVar 11)) (eVar 3))) (eC (.int 43200)))) 
    (sSeq (sIf (bV (e2 gNe (eCall d_shown (eA (e2 gMul (eC (.int 6)) (eVar 11)) (eA (eVar 3) eA0))) (eCall d__law_frac (eA (eVar 13) (eA (eC (.int 3600)) eA0))))) (sRet (eC (.bool false))) sNext) 
    (sIf (bV (e2 gNe (eCall d__law_over (eA (eCall d__law_left (eA (eVar 12) (eA (eC (.int 360)) eA0))) (eA (eTup (eA (eC (.int 30)) (eA (eC (.int 1)) eA0))) eA0))) (eCall d__law_frac (eA (eVar 13) (eA (eC (.int 3600)) eA0))))) (sRet (eC (.bool false))) sNext)))))) 
    (sSeq (sSet 4 (eIf (bV (e2 gEq (eVar 8) (eVar 9))) (eC .none) (eCall d__law_over (eA (eTup (eA (eC (.int 7200)) (eA (eC (.int 1)) eA0))) (eA (eTup (eA (e1 gAbs (e2 gSub (eVar 8) (eVar 9))) (eA (eC (.int 1)) eA0))) eA0))))) 
    (sSeq (sIf (bV (e2 gNe (e1 gRepr (eCall d_agree_again (eA (e2 gMul (eC (.int 6)) (eVar 8)) (eA (e2 gMul (eC (.int 6)) (eVar 9)) eA0)))) (e1 gRepr (eVar 4)))) (sRet (eC (.bool false))) sNext) 
    (sSeq (sIf (bV (e2 gNe (eCall d_right_again (eA (e2 gMul (eC (.int 6)) (eVar 8)) eA0)) (eCall d__law_frac (eA (eC (.int 7200)) (eA (e1 gAbs (eVar 8)) eA0))))) (sRet (eC (.bool false))) sNext) 
    (sSeq (sIf (bV (e2 gNe (e1 gRepr (eCall d_agree_again (eA (e2 gMul (eC (.int 6)) (eVar 9)) (eA (e2 gMul (eC (.int 6)) (eVar 8)) eA0)))) (e1 gRepr (eVar 4)))) (sRet (eC (.bool false))) sNext) 
    (sSeq (sIf (bV (e2 gEq (eVar 8) (eVar 9))) (sRet (eC (.bool true))) sNext) 
    (sSeq (sSet 5 (e2 gAdd (eC (.int 1)) (eCall d__law_draw (eA (eVar 0) (eA (eC (.int 359)) eA0))))) 
    (sSeq (sPar 14 15 false false (eA (e2 gMax2 (eVar 8) (eVar 9)) (eA (e2 gMin2 (eVar 8) (eVar 9)) eA0))) 
    (sSeq (sSet 6 (eTup (eA (eTup (eA (eC (.int 0)) (eA (eCall d__law_frac (eA (eVar 14) (eA (eC (.int 20)) eA0))) eA0))) (eA (eTup (eA (eVar 5) (eA (eIf (bV (e2 gNe (eVar 15) (eC (.int 0)))) (eCall d__law_frac (eA (eVar 15) (eA (eC (.int 20)) eA0))) (eTup (eA (eC (.int 0)) (eA (eC (.int 1)) eA0)))) eA0))) eA0)))) 
    (sSeq (sSet 7 (eCall d_ring_meeting (eA (eC (.int 360)) (eA (eVar 6) (eA (eC (.int 0)) (eA (eC (.int 1)) eA0)))))) 
    (sRet (eAndV (e2 gEq (eVar 7) (eCall d__law_over (eA (eTup (eA (e2 gMul (eC (.int 20)) (eVar 5)) (eA (eC (.int 1)) eA0))) (eA (eTup (eA (e2 gSub (eVar 14) (eVar 15)) (eA (eC (.int 1)) eA0))) eA0)))) (e2 gEq (eCall d__law_times (eA (eVar 7) (eA (eTup (eA (eC (.int 360)) (eA (eC (.int 1)) eA0))) eA0))) (eCall d__law_times (eA (eVar 4) (eA (eTup (eA (eVar 5) (eA (eC (.int 1)) eA0))) eA0))))))))))))))))))))
def d__law_are_lags_right : List PyData → W → Option (PyData × W) := fnD 16 y__law_are_lags_right
section
variable {P : Program} {w : World} {K : PySem.W.Frag} {mg : Str → Option Value} {base : Heap} {A : Nat → Addr} {D : Nat → FuncData}
theorem ok__law_are_lags_right (T : Txt K mg A D) : FnG P w K mg base 8 (A 51) (D 51) p__law_are_lags_right (spD K 1 d__law_are_lags_right) :=
  FnG.ok T.f__law_are_lags_right.F sc__law_are_lags_right (fun vs H Q E h => spD.len h) fun cdv Ar outer s H vs Q E hgd hr h => by
    have hu := hr.units
    exact ⟨_, (pss_cons (ps_par (i := 8) (j := 9) (by rfl) sc__law_are_lags_right.nd rfl rfl (by decide) rfl rfl (pa_cons (pe_fn (ok__law_lag T) hgd (hr.mono (by decide)) rfl T.f__law_lag.mg T.f__law_lag.F.kp T.f__law_lag.b (pa_cons (pv 0) pa_nil)) (pa_cons (pe_fn (ok__law_any T) hgd (hr.mono (by decide)) rfl T.f__law_any.mg T.f__law_any.F.kp T.f__law_any.b (pa_cons (pv 0) (pa_cons (pe_lst (pa_cons (pe_fn (ok__law_lag T) hgd (hr.mono (by decide)) rfl T.f__law_lag.mg T.f__law_lag.F.kp T.f__law_lag.b (pa_cons (pv 0) pa_nil)) (pa_cons (pe_fn (ok__law_lag T) hgd (hr.mono (by decide)) rfl T.f__law_lag.mg T.f__law_lag.F.kp T.f__law_lag.b (pa_cons (pv 0) pa_nil)) (pa_cons pe_int pa_nil)))) pa_nil))) pa_nil)) (by rfl))
    (pss_cons (ps_set (i := 1) sc__law_are_lags_right.nd rfl (by first | exact Or.inl rfl | exact Or.inr rfl) (pe_lst (pa_cons (pe_fn (ok__law_frac T) hgd (hr.mono (by decide)) rfl T.f__law_frac.mg T.f__law_frac.F.kp T.f__law_frac.b (pa_cons (pv 8) (pa_cons pe_int pa_nil))) (pa_cons (pe_ifExp (pt_cmpR (opNe hu) (pv 9) pe_int (nomark _)) (pe_fn (ok__law_frac T) hgd (hr.mono (by decide)) rfl T.f__law_frac.mg T.f__law_frac.F.kp T.f__law_frac.b (pa_cons (pv 9) (pa_cons pe_int pa_nil))) (pe_tup (pa_cons pe_int (pa_cons pe_int pa_nil)))) pa_nil))))
    (pss_cons (ps_set (i := 2) sc__law_are_lags_right.nd rfl (by first | exact Or.inl rfl | exact Or.inr rfl) (pe_tup (pa_cons (pe_tup (pa_cons pe_int (pa_cons (pe_ix ix_seq (pv 1) pe_int (fun _ _ => rfl)) pa_nil))) (pa_cons (pe_tup (pa_cons pe_int (pa_cons (pe_ix ix_seq (pv 1) pe_int (fun _ _ => rfl)) pa_nil))) pa_nil))))
    (pss_cons (ps_set (i := 3) sc__law_are_lags_right.nd rfl (by first | exact Or.inl rfl | exact Or.inr rfl) (pe_fn (ok__law_any T) hgd (hr.mono (by decide)) rfl T.f__law_any.mg T.f__law_any.F.kp T.f__law_any.b (pa_cons (pv 0) (pa_cons (pe_lst (pa_cons pe_int (pa_cons pe_int (pa_cons (pe_op op_pow pe_int pe_int) (pa_cons (pe_fn (ok__law_draw T) hgd (hr.mono (by decide)) rfl T.f__law_draw.mg T.f__law_draw.F.kp T.f__law_draw.b (pa_cons (pv 0) (pa_cons (pe_op op_pow pe_int pe_int) pa_nil))) (pa_cons (pe_fn (ok__law_draw T) hgd (hr.mono (by decide)) rfl T.f__law_draw.mg T.f__law_draw.F.kp T.f__law_draw.b (pa_cons (pv 0) (pa_cons pe_int pa_nil))) pa_nil)))))) pa_nil))))
    (pss_cons (ps_for PassesOwn.never rfl (pi_seq (pe_tup (pa_cons (pe_tup (pa_cons pe_int (pa_cons (pv 8) pa_nil))) (pa_cons (pe_tup (pa_cons pe_int (pa_cons (pv 9) pa_nil))) pa_nil)))) (pg_tup (by rfl) (pgs_cons (pg_name (i := 10) sc__law_are_lags_right.nd rfl (by first | exact Or.inl rfl | exact Or.inr rfl)) (pgs_cons (pg_name (i := 11) sc__law_are_lags_right.nd rfl (by first | exact Or.inl rfl | exact Or.inr rfl)) pgs_nil)))
    (pss_cons (ps_set (i := 12) sc__law_are_lags_right.nd rfl (by first | exact Or.inl rfl | exact Or.inr rfl) (pe_fn (ok_racer_at T) hgd (hr.mono (by decide)) rfl T.f_racer_at.mg T.f_racer_at.F.kp T.f_racer_at.b (pa_cons (pv 2) (pa_cons (pv 10) (pa_cons (pe_tup (pa_cons (pv 3) (pa_cons pe_int pa_nil))) pa_nil)))))
    (pss_cons (ps_if (pt_cmpR (opNe hu) (pv 12) (pe_fn (ok__law_times T) hgd (hr.mono (by decide)) rfl T.f__law_times.mg T.f__law_times.F.kp T.f__law_times.b (pa_cons (pe_ix ix_seq (pv 1) (pv 10) (fun _ _ => rfl)) (pa_cons (pe_tup (pa_cons (pv 3) (pa_cons pe_int pa_nil))) pa_nil))) (nomark _)) (pss_one (ps_ret pe_bl)) pss_nil)
    (pss_cons (ps_set (i := 13) sc__law_are_lags_right.nd rfl (by first | exact Or.inl rfl | exact Or.inr rfl) (pe_op op_modN (pe_callTy call_int1 (by rfl) T.b_int bb_int (pa_cons (pe_op opMul (pe_op opMul pe_int (pv 11)) (pv 3)) pa_nil)) pe_int))
    (pss_cons (ps_if (pt_cmpR (opNe hu) (pe_fn (ok_shown T) hgd (hr.mono (by decide)) rfl T.f_shown.mg T.f_shown.F.kp T.f_shown.b (pa_cons (pe_op opMul pe_int (pv 11)) (pa_cons (pv 3) pa_nil))) (pe_fn (ok__law_frac T) hgd (hr.mono (by decide)) rfl T.f__law_frac.mg T.f__law_frac.F.kp T.f__law_frac.b (pa_cons (pv 13) (pa_cons pe_int pa_nil))) (nomark _)) (pss_one (ps_ret pe_bl)) pss_nil)
    (pss_one (ps_if (pt_cmpR (opNe hu) (pe_fn (ok__law_over T) hgd (hr.mono (by decide)) rfl T.f__law_over.mg T.f__law_over.F.kp T.f__law_over.b (pa_cons (pe_fn (ok__law_left T) hgd (hr.mono (by decide)) rfl T.f__law_left.mg T.f__law_left.F.kp T.f__law_left.b (pa_cons (pv 12) (pa_cons pe_int pa_nil))) (pa_cons (pe_tup (pa_cons pe_int (pa_cons pe_int pa_nil))) pa_nil))) (pe_fn (ok__law_frac T) hgd (hr.mono (by decide)) rfl T.f__law_frac.mg T.f__law_frac.F.kp T.f__law_frac.b (pa_cons (pv 13) (pa_cons pe_int pa_nil))) (nomark _)) (pss_one (ps_ret pe_bl)) pss_nil)))))))
    (pss_cons (ps_set (i := 4) sc__law_are_lags_right.nd rfl (by first | exact Or.inl rfl | exact Or.inr rfl) (pe_ifExp (pt_cmpR (opEq hu) (pv 8) (pv 9) (nomark _)) pe_non (pe_fn (ok__law_over T) hgd (hr.mono (by decide)) rfl T.f__law_over.mg T.f__law_over.F.kp T.f__law_over.b (pa_cons (pe_tup (pa_cons pe_int (pa_cons pe_int pa_nil))) (pa_cons (pe_tup (pa_cons (pe_callB call_abs (by rfl) T.b_abs bb_abs (pa_cons (pe_op op_sub (pv 8) (pv 9)) pa_nil)) (pa_cons pe_int pa_nil))) pa_nil)))))
    (pss_cons (ps_if (pt_cmpR (opNe hu) (pe_callB (clRepr hgd hr.u) (by rfl) T.b_repr bb_repr (pa_cons (pe_fn (ok_agree_again T) hgd (hr.mono (by decide)) rfl T.f_agree_again.mg T.f_agree_again.F.kp T.f_agree_again.b (pa_cons (pe_op opMul pe_int (pv 8)) (pa_cons (pe_op opMul pe_int (pv 9)) pa_nil))) pa_nil)) (pe_callB (clRepr hgd hr.u) (by rfl) T.b_repr bb_repr (pa_cons (pv 4) pa_nil)) (nomark _)) (pss_one (ps_ret pe_bl)) pss_nil)
    (pss_cons (ps_if (pt_cmpR (opNe hu) (pe_fn (ok_right_again T) hgd (hr.mono (by decide)) rfl T.f_right_again.mg T.f_right_again.F.kp T.f_right_again.b (pa_cons (pe_op opMul pe_int (pv 8)) pa_nil)) (pe_fn (ok__law_frac T) hgd (hr.mono (by decide)) rfl T.f__law_frac.mg T.f__law_frac.F.kp T.f__law_frac.b (pa_cons pe_int (pa_cons (pe_callB call_abs (by rfl) T.b_abs bb_abs (pa_cons (pv 8) pa_nil)) pa_nil))) (nomark _)) (pss_one (ps_ret pe_bl)) pss_nil)
    (pss_cons (ps_if (pt_cmpR (opNe hu) (pe_callB (clRepr hgd hr.u) (by rfl) T.b_repr bb_repr (pa_cons (pe_fn (ok_agree_again T) hgd (hr.mono (by decide)) rfl T.f_agree_again.mg T.f_agree_again.F.kp T.f_agree_again.b (pa_cons (pe_op opMul pe_int (pv 9)) (pa_cons (pe_op opMul pe_int (pv 8)) pa_nil))) pa_nil)) (pe_callB (clRepr hgd hr.u) (by rfl) T.b_repr bb_repr (pa_cons (pv 4) pa_nil)) (nomark _)) (pss_one (ps_ret pe_bl)) pss_nil)
    (pss_cons (ps_if (pt_cmpR (opEq hu) (pv 8) (pv 9) (nomark _)) (pss_one (ps_ret pe_bl)) pss_nil)
    (pss_cons (ps_set (i := 5) sc__law_are_lags_right.nd rfl (by first | exact Or.inl rfl | exact Or.inr rfl) (pe_op opAdd pe_int (pe_fn (ok__law_draw T) hgd (hr.mono (by decide)) rfl T.f__law_draw.mg T.f__law_draw.F.kp T.f__law_draw.b (pa_cons (pv 0) (pa_cons pe_int pa_nil)))))
    (pss_cons (ps_par (i := 14) (j := 15) (by rfl) sc__law_are_lags_right.nd rfl rfl (by decide) rfl rfl (pa_cons (pe_callB (call_max2 rfl) (by rfl) T.b_max bb_max (pa_cons (pv 8) (pa_cons (pv 9) pa_nil))) (pa_cons (pe_callB (call_min2 rfl) (by rfl) T.b_min bb_min (pa_cons (pv 8) (pa_cons (pv 9) pa_nil))) pa_nil)) (by rfl))
    (pss_cons (ps_set (i := 6) sc__law_are_lags_right.nd rfl (by first | exact Or.inl rfl | exact Or.inr rfl) (pe_tup (pa_cons (pe_tup (pa_cons pe_int (pa_cons (pe_fn (ok__law_frac T) hgd (hr.mono (by decide)) rfl T.f__law_frac.mg T.f__law_frac.F.kp T.f__law_frac.b (pa_cons (pv 14) (pa_cons pe_int pa_nil))) pa_nil))) (pa_cons (pe_tup (pa_cons (pv 5) (pa_cons (pe_ifExp (pt_cmpR (opNe hu) (pv 15) pe_int (nomark _)) (pe_fn (ok__law_frac T) hgd (hr.mono (by decide)) rfl T.f__law_frac.mg T.f__law_frac.F.kp T.f__law_frac.b (pa_cons (pv 15) (pa_cons pe_int pa_nil))) (pe_tup (pa_cons pe_int (pa_cons pe_int pa_nil)))) pa_nil))) pa_nil))))
    (pss_cons (ps_set (i := 7) sc__law_are_lags_right.nd rfl (by first | exact Or.inl rfl | exact Or.inr rfl) (pe_fn (ok_ring_meeting T) hgd (hr.mono (by decide)) rfl T.f_ring_meeting.mg T.f_ring_meeting.F.kp T.f_ring_meeting.b (pa_cons pe_int (pa_cons (pv 6) (pa_cons pe_int (pa_cons pe_int pa_nil))))))
    (pss_one (ps_ret (pe_and (pe_cmpR (opEq hu) (pv 7) (pe_fn (ok__law_over T) hgd (hr.mono (by decide)) rfl T.f__law_over.mg T.f__law_over.F.kp T.f__law_over.b (pa_cons (pe_tup (pa_cons (pe_op opMul pe_int (pv 5)) (pa_cons pe_int pa_nil))) (pa_cons (pe_tup (pa_cons (pe_op op_sub (pv 14) (pv 15)) (pa_cons pe_int pa_nil))) pa_nil))) (nomark _)) (pe_one (pe_cmpR (opEq hu) (pe_fn (ok__law_times T) hgd (hr.mono (by decide)) rfl T.f__law_times.mg T.f__law_times.F.kp T.f__law_times.b (pa_cons (pv 7) (pa_cons (pe_tup (pa_cons pe_int (pa_cons pe_int pa_nil))) pa_nil))) (pe_fn (ok__law_times T) hgd (hr.mono (by decide)) rfl T.f__law_times.mg T.f__law_times.F.kp T.f__law_times.b (pa_cons (pv 4) (pa_cons (pe_tup (pa_cons (pv 5) (pa_cons pe_int pa_nil))) pa_nil))) (nomark _)))))))))))))))))))),
    body_ok (N := n__law_are_lags_right) (f := y__law_are_lags_right) ((sn_seq (sn_par false false (sn_a (sn_call (sn_a (sn_var 0) sn_a0)) (sn_a (sn_call (sn_a (sn_var 0) (sn_a (SndE.sh (sn_lst (sn_a (sn_call (sn_a (sn_var 0) sn_a0)) (sn_a (sn_call (sn_a (sn_var 0) sn_a0)) (sn_a (sn_int 0) sn_a0))))) sn_a0))) sn_a0))) 
    (sn_seq (sn_set 1 (SndE.sh (sn_lst (sn_a (sn_call (sn_a (sn_var 8) (sn_a (sn_int 20) sn_a0))) (sn_a (sn_ifx (sn_tst (sn_op o_ne (sn_var 9) (sn_int 0))) (sn_call (sn_a (sn_var 9) (sn_a (sn_int 20) sn_a0))) (sn_tup (sn_a (sn_int 0) (sn_a (sn_int 1) sn_a0)))) sn_a0))))) 
    (sn_seq (sn_set 2 (sn_tup (sn_a (sn_tup (sn_a (sn_int 0) (sn_a (sn_op o_ix (sn_var 1) (sn_int 0)) sn_a0))) (sn_a (sn_tup (sn_a (sn_int 0) (sn_a (sn_op o_ix (sn_var 1) (sn_int 1)) sn_a0))) sn_a0)))) 
    (sn_seq (sn_set 3 (sn_call (sn_a (sn_var 0) (sn_a (SndE.sh (sn_lst (sn_a (sn_int 0) (sn_a (sn_int 1) (sn_a (sn_op o_pow (sn_int 10) (sn_int 6)) (sn_a (sn_call (sn_a (sn_var 0) (sn_a (sn_op o_pow (sn_int 10) (sn_int 6)) sn_a0))) (sn_a (sn_call (sn_a (sn_var 0) (sn_a (sn_int 400) sn_a0))) sn_a0))))))) sn_a0)))) 
    (sn_seq (sn_for (si_seqS (sn_tup (sn_a (sn_tup (sn_a (sn_int 0) (sn_a (sn_var 8) sn_a0))) (sn_a (sn_tup (sn_a (sn_int 1) (sn_a (sn_var 9) sn_a0))) sn_a0)))) (sg_tup (n := 2) (sgs_cons (sg_name 10) (sgs_cons (sg_name 11) sgs_nil))) 
    (sn_seq (sn_set 12 (sn_call (sn_a (sn_var 2) (sn_a (sn_var 10) (sn_a (sn_tup (sn_a (sn_var 3) (sn_a (sn_int 1) sn_a0))) sn_a0))))) 
    (sn_seq (sn_if (sn_tst (sn_op o_ne (sn_var 12) (sn_call (sn_a (sn_op o_ix (sn_var 1) (sn_var 10)) (sn_a (sn_tup (sn_a (sn_var 3) (sn_a (sn_int 1) sn_a0))) sn_a0))))) (sn_ret (SndE.bo (sn_bl false))) sn_next) 
    (sn_seq (sn_set 13 (sn_op o_mod (sn_cb1 o_toInt (sn_op o_mul (sn_op o_mul (sn_int 6) (sn_var 11)) (sn_var 3))) (sn_int 43200))) 
    (sn_seq (sn_if (sn_tst (sn_op o_ne (sn_call (sn_a (sn_op o_mul (sn_int 6) (sn_var 11)) (sn_a (sn_var 3) sn_a0))) (sn_call (sn_a (sn_var 13) (sn_a (sn_int 3600) sn_a0))))) (sn_ret (SndE.bo (sn_bl false))) sn_next) 
    (sn_if (sn_tst (sn_op o_ne (sn_call (sn_a (sn_call (sn_a (sn_var 12) (sn_a (sn_int 360) sn_a0))) (sn_a (sn_tup (sn_a (sn_int 30) (sn_a (sn_int 1) sn_a0))) sn_a0))) (sn_call (sn_a (sn_var 13) (sn_a (sn_int 3600) sn_a0))))) (sn_ret (SndE.bo (sn_bl false))) sn_next)))))) 
    (sn_seq (sn_set 4 (sn_ifx (sn_tst (sn_op o_eq (sn_var 8) (sn_var 9))) sn_non (sn_call (sn_a (sn_tup (sn_a (sn_int 7200) (sn_a (sn_int 1) sn_a0))) (sn_a (sn_tup (sn_a (sn_cb1 o_abs (sn_op o_sub (sn_var 8) (sn_var 9))) (sn_a (sn_int 1) sn_a0))) sn_a0))))) 
    (sn_seq (sn_if (sn_tst (sn_op o_ne (sn_cb1 o_repr (sn_call (sn_a (sn_op o_mul (sn_int 6) (sn_var 8)) (sn_a (sn_op o_mul (sn_int 6) (sn_var 9)) sn_a0)))) (sn_cb1 o_repr (sn_var 4)))) (sn_ret (SndE.bo (sn_bl false))) sn_next) 
    (sn_seq (sn_if (sn_tst (sn_op o_ne (sn_call (sn_a (sn_op o_mul (sn_int 6) (sn_var 8)) sn_a0)) (sn_call (sn_a (sn_int 7200) (sn_a (sn_cb1 o_abs (sn_var 8)) sn_a0))))) (sn_ret (SndE.bo (sn_bl false))) sn_next) 
    (sn_seq (sn_if (sn_tst (sn_op o_ne (sn_cb1 o_repr (sn_call (sn_a (sn_op o_mul (sn_int 6) (sn_var 9)) (sn_a (sn_op o_mul (sn_int 6) (sn_var 8)) sn_a0)))) (sn_cb1 o_repr (sn_var 4)))) (sn_ret (SndE.bo (sn_bl false))) sn_next) 
    (sn_seq (sn_if (sn_tst (sn_op o_eq (sn_var 8) (sn_var 9))) (sn_ret (SndE.bo (sn_bl true))) sn_next) 
    (sn_seq (sn_set 5 (sn_op o_add (sn_int 1) (sn_call (sn_a (sn_var 0) (sn_a (sn_int 359) sn_a0))))) 
    (sn_seq (sn_par false false (sn_a (sn_cb2 o_max2 (sn_var 8) (sn_var 9)) (sn_a (sn_cb2 o_min2 (sn_var 8) (sn_var 9)) sn_a0))) 
    (sn_seq (sn_set 6 (sn_tup (sn_a (sn_tup (sn_a (sn_int 0) (sn_a (sn_call (sn_a (sn_var 14) (sn_a (sn_int 20) sn_a0))) sn_a0))) (sn_a (sn_tup (sn_a (sn_var 5) (sn_a (sn_ifx (sn_tst (sn_op o_ne (sn_var 15) (sn_int 0))) (sn_call (sn_a (sn_var 15) (sn_a (sn_int 20) sn_a0))) (sn_tup (sn_a (sn_int 0) (sn_a (sn_int 1) sn_a0)))) sn_a0))) sn_a0)))) 
    (sn_seq (sn_set 7 (sn_call (sn_a (sn_int 360) (sn_a (sn_var 6) (sn_a (sn_int 0) (sn_a (sn_int 1) sn_a0)))))) 
    (sn_ret (SndE.bo (sn_andV (sn_op o_eq (sn_var 7) (sn_call (sn_a (sn_tup (sn_a (sn_op o_mul (sn_int 20) (sn_var 5)) (sn_a (sn_int 1) sn_a0))) (sn_a (sn_tup (sn_a (sn_op o_sub (sn_var 14) (sn_var 15)) (sn_a (sn_int 1) sn_a0))) sn_a0)))) (sn_op o_eq (sn_call (sn_a (sn_var 7) (sn_a (sn_tup (sn_a (sn_int 360) (sn_a (sn_int 1) sn_a0))) sn_a0))) (sn_call (sn_a (sn_var 4) (sn_a (sn_tup (sn_a (sn_var 5) (sn_a (sn_int 1) sn_a0))) sn_a0)))))))))))))))))))))) h⟩
end
def y_law : F1 Out := (sSeq (sIf (bOr (bV (e2 gNe (eCall d_ring_meeting (eA (eC (.int 12)) (eA (eTup (eA (eTup (eA (eC (.int 3)) (eA (eTup (eA (eC (.int 1)) (eA (eC (.int 1)) eA0))) eA0))) (eA (eTup (eA (eC (.int 0)) (eA (eTup (eA (eC (.int 12)) (eA (eC (.int 1)) eA0))) eA0))) eA0))) (eA (eC (.int 0)) (eA (eC (.int 1)) eA0))))) (eTup (eA (eC (.int 3)) (eA (eC (.int 11)) eA0))))) (bV (e2 gNe (eCall d_shown (eA (eC (.int 60)) (eA (eC (.int 2)) eA0))) (eTup (eA (eC (.int 1)) (eA (eC (.int 30)) eA0)))))) (sRet (eC (.bool false))) sNext) 
    (sRet (e1 gAll (eLc [2] (iRange1 (eC (.int 6))) (gSet 2) bYes (eAndV (eCall d__law_are_hands_right (eA (eVar 1) eA0)) (eCall d__law_are_lags_right (eA (eVar 1) eA0)))))))
section
variable {P : Program} {w : World} {K : PySem.W.Frag} {mg : Str → Option Value} {base : Heap} {A : Nat → Addr} {D : Nat → FuncData}
theorem ok_law (T : Txt K mg A D) (M : ∀ ns : List Int, ns.length ≤ 63 → ∃ w', y_law (Slot.no :: Slot.sh hnd :: List.replicate (n_law.length - 2) Slot.no) (hw ns) = some (.rt (.bool true), w')) : FnG P w K mg base 9 (A 52) (D 52) p_law (spLaw K) :=
  FnG.ok T.f_law.F sc_law (fun vs H Q E h => by obtain ⟨a, ns, rfl, _⟩ := h; rfl) fun cdv Ar outer s H vs Q E hgd hr h => by
    have hu := hr.units
    obtain ⟨a, ns, rfl, hS, hl, k⟩ := h
    obtain ⟨w', e⟩ := M ns hl
    exact ⟨_, pss_cons (ps_set (i := 1) sc_law.nd rfl (by first | exact Or.inl rfl | exact Or.inr rfl) (pe_fn (ok__law_hand T) hgd (hr.mono (by decide)) rfl T.f__law_hand.mg T.f__law_hand.F.kp T.f__law_hand.b (pa_cons (pv 0) pa_nil)))
    (pss_cons (ps_if (PW.pt (pw_or (pt_cmpR (opNe hu) (pe_fn (ok_ring_meeting T) hgd (hr.mono (by decide)) rfl T.f_ring_meeting.mg T.f_ring_meeting.F.kp T.f_ring_meeting.b (pa_cons pe_int (pa_cons (pe_tup (pa_cons (pe_tup (pa_cons pe_int (pa_cons (pe_tup (pa_cons pe_int (pa_cons pe_int pa_nil))) pa_nil))) (pa_cons (pe_tup (pa_cons pe_int (pa_cons (pe_tup (pa_cons pe_int (pa_cons pe_int pa_nil))) pa_nil))) pa_nil))) (pa_cons pe_int (pa_cons pe_int pa_nil))))) (pe_tup (pa_cons pe_int (pa_cons pe_int pa_nil))) (nomark _)) (pw_or1 (pt_cmpR (opNe hu) (pe_fn (ok_shown T) hgd (hr.mono (by decide)) rfl T.f_shown.mg T.f_shown.F.kp T.f_shown.b (pa_cons pe_int (pa_cons pe_int pa_nil))) (pe_tup (pa_cons pe_int (pa_cons pe_int pa_nil))) (nomark _))))) (pss_one (ps_ret pe_bl)) pss_nil)
    (pss_one (ps_ret (pe_callB (cr_all rfl) (by rfl) T.b_all bb_all (pa_cons (pe_lc (own := [("lap", 2)]) (tt := tYes) rfl sc_law.nd (pi_range1 rfl T.b_range (pa_cons pe_int pa_nil)) (blkOk_by (own := [("lap", 2)]) (N := n_law) (sc := defScope s_law) (by decide +kernel)) (fun _ _ _ _ _ => (pg_name (i := 2) sc_law.nd rfl (by first | exact Or.inl rfl | exact Or.inr rfl))) (fun _ _ _ _ _ => pts_nil) (fun _ _ _ _ _ => (pe_and (pe_fn (ok__law_are_hands_right T) hgd (hr.mono (by decide)) rfl T.f__law_are_hands_right.mg T.f__law_are_hands_right.F.kp T.f__law_are_hands_right.b (pa_cons (pv 1) pa_nil)) (pe_one (pe_fn (ok__law_are_lags_right T) hgd (hr.mono (by decide)) rfl T.f__law_are_lags_right.mg T.f__law_are_lags_right.F.kp T.f__law_are_lags_right.b (pa_cons (pv 1) pa_nil)))))) pa_nil))))),
    ⟨.ref a, rfl, a, ns, rfl, hS, hl, fun p c H' np nc hh => law_go (N := n_law) (f := y_law) ((sn_seq (sn_if (sn_or (sn_tst (sn_op o_ne (sn_call (sn_a (sn_int 12) (sn_a (sn_tup (sn_a (sn_tup (sn_a (sn_int 3) (sn_a (sn_tup (sn_a (sn_int 1) (sn_a (sn_int 1) sn_a0))) sn_a0))) (sn_a (sn_tup (sn_a (sn_int 0) (sn_a (sn_tup (sn_a (sn_int 12) (sn_a (sn_int 1) sn_a0))) sn_a0))) sn_a0))) (sn_a (sn_int 0) (sn_a (sn_int 1) sn_a0))))) (sn_tup (sn_a (sn_int 3) (sn_a (sn_int 11) sn_a0))))) (sn_tst (sn_op o_ne (sn_call (sn_a (sn_int 60) (sn_a (sn_int 2) sn_a0))) (sn_tup (sn_a (sn_int 1) (sn_a (sn_int 30) sn_a0)))))) (sn_ret (SndE.bo (sn_bl false))) sn_next) 
    (sn_ret (SndE.bo (sn_cb1 o_all (sn_lc (vs := [2]) (SndI.bo (si_range1 (sn_int 6))) (sg_name 2) sn_yes (sn_andV (sn_call (sn_a (sn_var 1) sn_a0)) (sn_call (sn_a (sn_var 1) sn_a0))))))))) rfl (by decide) hh e k⟩⟩
end
/-- a def as the top left it -/
structure At (K : PySem.W.Frag) (x y : Str) (st : Stmt) (a : Addr) : Prop where
  ns : PySem.W.nsIn K mainGlobals x = some (some (.ref a))
  ex : ∃ (oc : Value) (od : Option Addr) (kV doc pm : Value) (an : Option Addr) (cdv ct : Value) (osl : Array (Option Value)), K.lookup a = some ⟨oc, od, .func (PySem.W.fnOf y y (defArgs st) (defBody st) (defScope st) .none kV doc pm an cdv ct), osl⟩ ∧ PySem.W.codeIn K cdv y = true
  kp : PySem.W.keepIn K (.ref a) = true
theorem At.of {K : PySem.W.Frag} {x y : Str} {st : Stmt} {a : Addr} {oc : Value} {od : Option Addr} {kV doc pm : Value} {an : Option Addr} {cdv ct : Value} {osl : Array (Option Value)} (n : PySem.W.nsIn K mainGlobals x = some (some (.ref a)))
    (l : K.lookup a = some ⟨oc, od, .func (PySem.W.fnOf y y (defArgs st) (defBody st) (defScope st) .none kV doc pm an cdv ct), osl⟩) (c : PySem.W.codeIn K cdv y = true) (k : PySem.W.keepIn K (.ref a) = true) : At K x y st a := ⟨n, ⟨oc, od, kV, doc, pm, an, cdv, ct, osl, l, c⟩, k⟩
theorem At.fn {K : PySem.W.Frag} {h : Heap} {mg : Str → Option Value} {x y : Str} {st : Stmt} {a : Addr} {ps : List Str} (t : At K x y st a) (X : K.In h) (G : h.Ns mainGlobals mg)
    (hb : ∀ (kV doc pm : Value) (an : Option Addr) (cdv ct : Value) (us : List Value), us.length = ps.length → bindArgs (PySem.W.fnOf y y (defArgs st) (defBody st) (defScope st) .none kV doc pm an cdv ct) ⟨us, []⟩ = pure (ps.zip us)) : ∃ fd, Fn K mg x y st ps a fd ∧ ∀ (s : Shared) (us : List Value), us.length = ps.length → BindsTo s fd ⟨us, []⟩ (ps.zip us) := by
  obtain ⟨oc, od, kV, doc, pm, an, cdv, ct, osl, l, c⟩ := t.ex
  have F := fun_mk (st := st) l c t.kp
  exact ⟨_, ⟨PySem.W.mg_of X G t.ns, F, F.binds hb⟩, fun s us hl => .of_eq (hb _ _ _ _ _ _ us hl)⟩
theorem all_mk {P : Program} {w : World} {K : PySem.W.Frag} {h : Heap} {mg : Str → Option Value} {fa : Addr} (X : K.In h) (G : h.Ns mainGlobals mg) (hfa : mg "law" = some (.ref fa))
    (M : ∀ ns : List Int, ns.length ≤ 63 → ∃ w', y_law (Slot.no :: Slot.sh hnd :: List.replicate (n_law.length - 2) Slot.no) (hw ns) = some (.rt (.bool true), w'))
    {a0 : Addr} (t0 : At K "is_integer" "is_integer" s_is_integer a0) {a1 : Addr} (t1 : At K "is_within" "is_within" s_is_within a1) {a2 : Addr} (t2 : At K "is_sized" "is_sized" s_is_sized a2) {a3 : Addr} (t3 : At K "common" "common" s_common a3) {a4 : Addr} (t4 : At K "fraction" "fraction" s_fraction a4) {a5 : Addr} (t5 : At K "is_fraction" "is_fraction" s_is_fraction a5) {a6 : Addr} (t6 : At K "plus" "plus" s_plus a6) {a7 : Addr} (t7 : At K "minus" "minus" s_minus a7) {a8 : Addr} (t8 : At K "times" "times" s_times a8) {a9 : Addr} (t9 : At K "over" "over" s_over a9) {a10 : Addr} (t10 : At K "is_racer" "is_racer" s_is_racer a10) {a11 : Addr} (t11 : At K "is_racers" "is_racers" s_is_racers a11) {a12 : Addr} (t12 : At K "check_racers" "check_racers" s_check_racers a12) {a13 : Addr} (t13 : At K "check_time_races" "check_time" s_check_time_races a13) {a14 : Addr} (t14 : At K "check_racer" "check_racer" s_check_racer a14) {a15 : Addr} (t15 : At K "raw_racer_at" "raw_racer_at" s_raw_racer_at a15) {a16 : Addr} (t16 : At K "racer_at" "racer_at" s_racer_at a16) {a17 : Addr} (t17 : At K "ring_times" "ring_times" s_ring_times a17) {a18 : Addr} (t18 : At K "both_times" "both_times" s_both_times a18) {a19 : Addr} (t19 : At K "ring_time" "ring_time" s_ring_time a19) {a20 : Addr} (t20 : At K "check_round" "check_round" s_check_round a20) {a21 : Addr} (t21 : At K "ring_meeting" "ring_meeting" s_ring_meeting a21) {a22 : Addr} (t22 : At K "whole_below" "whole_below" s_whole_below a22) {a23 : Addr} (t23 : At K "round_place" "round_place" s_round_place a23) {a24 : Addr} (t24 : At K "is_time" "is_time" s_is_time a24) {a25 : Addr} (t25 : At K "check_time" "check_time" s_check_time a25) {a26 : Addr} (t26 : At K "check_time_clockhands" "check_time" s_check_time_clockhands a26) {a27 : Addr} (t27 : At K "check_place" "check_place" s_check_place a27) {a28 : Addr} (t28 : At K "hand_place" "hand_place" s_hand_place a28) {a29 : Addr} (t29 : At K "hour_place" "hour_place" s_hour_place a29) {a30 : Addr} (t30 : At K "minute_place" "minute_place" s_minute_place a30) {a31 : Addr} (t31 : At K "raw_gap" "raw_gap" s_raw_gap a31) {a32 : Addr} (t32 : At K "gap_of" "gap_of" s_gap_of a32) {a33 : Addr} (t33 : At K "raw_when" "raw_when" s_raw_when a33) {a34 : Addr} (t34 : At K "when_gap" "when_gap" s_when_gap a34) {a35 : Addr} (t35 : At K "times_together" "times_together" s_times_together a35) {a36 : Addr} (t36 : At K "check_lag" "check_lag" s_check_lag a36) {a37 : Addr} (t37 : At K "shown" "shown" s_shown a37) {a38 : Addr} (t38 : At K "right_again" "right_again" s_right_again a38) {a39 : Addr} (t39 : At K "agree_again" "agree_again" s_agree_again a39) {a40 : Addr} (t40 : At K "_law_hand" "_law_hand" s__law_hand a40) {a41 : Addr} (t41 : At K "_law_draw" "_law_draw" s__law_draw a41) {a42 : Addr} (t42 : At K "_law_any" "_law_any" s__law_any a42) {a43 : Addr} (t43 : At K "_law_frac" "_law_frac" s__law_frac a43) {a44 : Addr} (t44 : At K "_law_plus" "_law_plus" s__law_plus a44) {a45 : Addr} (t45 : At K "_law_minus" "_law_minus" s__law_minus a45) {a46 : Addr} (t46 : At K "_law_times" "_law_times" s__law_times a46) {a47 : Addr} (t47 : At K "_law_over" "_law_over" s__law_over a47) {a48 : Addr} (t48 : At K "_law_left" "_law_left" s__law_left a48) {a49 : Addr} (t49 : At K "_law_are_hands_right" "_law_are_hands_right" s__law_are_hands_right a49) {a50 : Addr} (t50 : At K "_law_lag" "_law_lag" s__law_lag a50) {a51 : Addr} (t51 : At K "_law_are_lags_right" "_law_are_lags_right" s__law_are_lags_right a51) {a52 : Addr} (t52 : At K "law" "law" s_law a52)
    (z_abs : PySem.W.nsIn K mainGlobals "abs" = some none) (z_all : PySem.W.nsIn K mainGlobals "all" = some none) (z_bool : PySem.W.nsIn K mainGlobals "bool" = some none) (z_int : PySem.W.nsIn K mainGlobals "int" = some none) (z_isinstance : PySem.W.nsIn K mainGlobals "isinstance" = some none) (z_len : PySem.W.nsIn K mainGlobals "len" = some none) (z_list : PySem.W.nsIn K mainGlobals "list" = some none) (z_max : PySem.W.nsIn K mainGlobals "max" = some none) (z_min : PySem.W.nsIn K mainGlobals "min" = some none) (z_range : PySem.W.nsIn K mainGlobals "range" = some none) (z_repr : PySem.W.nsIn K mainGlobals "repr" = some none) (z_tuple : PySem.W.nsIn K mainGlobals "tuple" = some none)
    {t_DIAL_SECONDS : Nat} (y_DIAL_SECONDS : PySem.W.nsIn K mainGlobals "DIAL_SECONDS" = some (some (.int (43200) t_DIAL_SECONDS))) {t_HOURS : Nat} (y_HOURS : PySem.W.nsIn K mainGlobals "HOURS" = some (some (.int (12) t_HOURS))) {t_MOST_LAG_DAYS : Nat} (y_MOST_LAG_DAYS : PySem.W.nsIn K mainGlobals "MOST_LAG_DAYS" = some (some (.int (1000000) t_MOST_LAG_DAYS))) {t_MOST_ROUND : Nat} (y_MOST_ROUND : PySem.W.nsIn K mainGlobals "MOST_ROUND" = some (some (.int (360) t_MOST_ROUND))) {t_MOST_SPEED_BOTTOM : Nat} (y_MOST_SPEED_BOTTOM : PySem.W.nsIn K mainGlobals "MOST_SPEED_BOTTOM" = some (some (.int (20) t_MOST_SPEED_BOTTOM))) {t_MOST_SPEED_TOP : Nat} (y_MOST_SPEED_TOP : PySem.W.nsIn K mainGlobals "MOST_SPEED_TOP" = some (some (.int (50) t_MOST_SPEED_TOP))) {t_MOST_START : Nat} (y_MOST_START : PySem.W.nsIn K mainGlobals "MOST_START" = some (some (.int (1000) t_MOST_START))) {t_MOST_TIME_PART : Nat} (y_MOST_TIME_PART : PySem.W.nsIn K mainGlobals "MOST_TIME_PART" = some (some (.int (1000000000) t_MOST_TIME_PART)))
    {a53 : Addr} (yt_TURNS : PySem.W.nsIn K mainGlobals "TURNS" = some (some (.ref a53))) {u1 : Nat} {u2 : Nat} {u3 : Nat} {od4 : Option Addr} {nn4 : Nat} {sl4 : Array (Option Value)} (l_4 : K.lookup a53 = some ⟨.type "tuple", od4, .seq #[.int (1) u1, .int (12) u2, .int (720) u3] nn4, sl4⟩) :
    ∃ fd : FuncData, (∀ (s : Shared) (v : Value), BindsTo s fd ⟨[v], []⟩ [("script", v)]) ∧ ∀ base : Heap, K.In base → base.Ns mainGlobals mg → FnG P w K mg base 9 fa fd ["script"] (spLaw K) := by
  obtain ⟨d0, f0, g0⟩ := t0.fn (ps := p_is_integer) X G (fun _ _ _ _ _ _ us hl => match us, hl with | [_], _ => rfl)
  obtain ⟨d1, f1, g1⟩ := t1.fn (ps := p_is_within) X G (fun _ _ _ _ _ _ us hl => match us, hl with | [_, _, _], _ => rfl)
  obtain ⟨d2, f2, g2⟩ := t2.fn (ps := p_is_sized) X G (fun _ _ _ _ _ _ us hl => match us, hl with | [_, _, _], _ => rfl)
  obtain ⟨d3, f3, g3⟩ := t3.fn (ps := p_common) X G (fun _ _ _ _ _ _ us hl => match us, hl with | [_, _], _ => rfl)
  obtain ⟨d4, f4, g4⟩ := t4.fn (ps := p_fraction) X G (fun _ _ _ _ _ _ us hl => match us, hl with | [_, _], _ => rfl)
  obtain ⟨d5, f5, g5⟩ := t5.fn (ps := p_is_fraction) X G (fun _ _ _ _ _ _ us hl => match us, hl with | [_], _ => rfl)
  obtain ⟨d6, f6, g6⟩ := t6.fn (ps := p_plus) X G (fun _ _ _ _ _ _ us hl => match us, hl with | [_, _], _ => rfl)
  obtain ⟨d7, f7, g7⟩ := t7.fn (ps := p_minus) X G (fun _ _ _ _ _ _ us hl => match us, hl with | [_, _], _ => rfl)
  obtain ⟨d8, f8, g8⟩ := t8.fn (ps := p_times) X G (fun _ _ _ _ _ _ us hl => match us, hl with | [_, _], _ => rfl)
  obtain ⟨d9, f9, g9⟩ := t9.fn (ps := p_over) X G (fun _ _ _ _ _ _ us hl => match us, hl with | [_, _], _ => rfl)
  obtain ⟨d10, f10, g10⟩ := t10.fn (ps := p_is_racer) X G (fun _ _ _ _ _ _ us hl => match us, hl with | [_], _ => rfl)
  obtain ⟨d11, f11, g11⟩ := t11.fn (ps := p_is_racers) X G (fun _ _ _ _ _ _ us hl => match us, hl with | [_], _ => rfl)
  obtain ⟨d12, f12, g12⟩ := t12.fn (ps := p_check_racers) X G (fun _ _ _ _ _ _ us hl => match us, hl with | [_], _ => rfl)
  obtain ⟨d13, f13, g13⟩ := t13.fn (ps := p_check_time_races) X G (fun _ _ _ _ _ _ us hl => match us, hl with | [_], _ => rfl)
  obtain ⟨d14, f14, g14⟩ := t14.fn (ps := p_check_racer) X G (fun _ _ _ _ _ _ us hl => match us, hl with | [_, _], _ => rfl)
  obtain ⟨d15, f15, g15⟩ := t15.fn (ps := p_raw_racer_at) X G (fun _ _ _ _ _ _ us hl => match us, hl with | [_, _, _], _ => rfl)
  obtain ⟨d16, f16, g16⟩ := t16.fn (ps := p_racer_at) X G (fun _ _ _ _ _ _ us hl => match us, hl with | [_, _, _], _ => rfl)
  obtain ⟨d17, f17, g17⟩ := t17.fn (ps := p_ring_times) X G (fun _ _ _ _ _ _ us hl => match us, hl with | [_, _, _, _], _ => rfl)
  obtain ⟨d18, f18, g18⟩ := t18.fn (ps := p_both_times) X G (fun _ _ _ _ _ _ us hl => match us, hl with | [_, _], _ => rfl)
  obtain ⟨d19, f19, g19⟩ := t19.fn (ps := p_ring_time) X G (fun _ _ _ _ _ _ us hl => match us, hl with | [_, _, _], _ => rfl)
  obtain ⟨d20, f20, g20⟩ := t20.fn (ps := p_check_round) X G (fun _ _ _ _ _ _ us hl => match us, hl with | [_, _], _ => rfl)
  obtain ⟨d21, f21, g21⟩ := t21.fn (ps := p_ring_meeting) X G (fun _ _ _ _ _ _ us hl => match us, hl with | [_, _, _, _], _ => rfl)
  obtain ⟨d22, f22, g22⟩ := t22.fn (ps := p_whole_below) X G (fun _ _ _ _ _ _ us hl => match us, hl with | [_], _ => rfl)
  obtain ⟨d23, f23, g23⟩ := t23.fn (ps := p_round_place) X G (fun _ _ _ _ _ _ us hl => match us, hl with | [_], _ => rfl)
  obtain ⟨d24, f24, g24⟩ := t24.fn (ps := p_is_time) X G (fun _ _ _ _ _ _ us hl => match us, hl with | [_], _ => rfl)
  obtain ⟨d25, f25, g25⟩ := t25.fn (ps := p_check_time) X G (fun _ _ _ _ _ _ us hl => match us, hl with | [_], _ => rfl)
  obtain ⟨d26, f26, g26⟩ := t26.fn (ps := p_check_time_clockhands) X G (fun _ _ _ _ _ _ us hl => match us, hl with | [_], _ => rfl)
  obtain ⟨d27, f27, g27⟩ := t27.fn (ps := p_check_place) X G (fun _ _ _ _ _ _ us hl => match us, hl with | [_], _ => rfl)
  obtain ⟨d28, f28, g28⟩ := t28.fn (ps := p_hand_place) X G (fun _ _ _ _ _ _ us hl => match us, hl with | [_, _], _ => rfl)
  obtain ⟨d29, f29, g29⟩ := t29.fn (ps := p_hour_place) X G (fun _ _ _ _ _ _ us hl => match us, hl with | [_], _ => rfl)
  obtain ⟨d30, f30, g30⟩ := t30.fn (ps := p_minute_place) X G (fun _ _ _ _ _ _ us hl => match us, hl with | [_], _ => rfl)
  obtain ⟨d31, f31, g31⟩ := t31.fn (ps := p_raw_gap) X G (fun _ _ _ _ _ _ us hl => match us, hl with | [_], _ => rfl)
  obtain ⟨d32, f32, g32⟩ := t32.fn (ps := p_gap_of) X G (fun _ _ _ _ _ _ us hl => match us, hl with | [_], _ => rfl)
  obtain ⟨d33, f33, g33⟩ := t33.fn (ps := p_raw_when) X G (fun _ _ _ _ _ _ us hl => match us, hl with | [_], _ => rfl)
  obtain ⟨d34, f34, g34⟩ := t34.fn (ps := p_when_gap) X G (fun _ _ _ _ _ _ us hl => match us, hl with | [_], _ => rfl)
  obtain ⟨d35, f35, g35⟩ := t35.fn (ps := p_times_together) X G (fun _ _ _ _ _ _ us hl => match us, hl with | [_, _], _ => rfl)
  obtain ⟨d36, f36, g36⟩ := t36.fn (ps := p_check_lag) X G (fun _ _ _ _ _ _ us hl => match us, hl with | [_], _ => rfl)
  obtain ⟨d37, f37, g37⟩ := t37.fn (ps := p_shown) X G (fun _ _ _ _ _ _ us hl => match us, hl with | [_, _], _ => rfl)
  obtain ⟨d38, f38, g38⟩ := t38.fn (ps := p_right_again) X G (fun _ _ _ _ _ _ us hl => match us, hl with | [_], _ => rfl)
  obtain ⟨d39, f39, g39⟩ := t39.fn (ps := p_agree_again) X G (fun _ _ _ _ _ _ us hl => match us, hl with | [_, _], _ => rfl)
  obtain ⟨d40, f40, g40⟩ := t40.fn (ps := p__law_hand) X G (fun _ _ _ _ _ _ us hl => match us, hl with | [_], _ => rfl)
  obtain ⟨d41, f41, g41⟩ := t41.fn (ps := p__law_draw) X G (fun _ _ _ _ _ _ us hl => match us, hl with | [_, _], _ => rfl)
  obtain ⟨d42, f42, g42⟩ := t42.fn (ps := p__law_any) X G (fun _ _ _ _ _ _ us hl => match us, hl with | [_, _], _ => rfl)
  obtain ⟨d43, f43, g43⟩ := t43.fn (ps := p__law_frac) X G (fun _ _ _ _ _ _ us hl => match us, hl with | [_, _], _ => rfl)
  obtain ⟨d44, f44, g44⟩ := t44.fn (ps := p__law_plus) X G (fun _ _ _ _ _ _ us hl => match us, hl with | [_, _], _ => rfl)
  obtain ⟨d45, f45, g45⟩ := t45.fn (ps := p__law_minus) X G (fun _ _ _ _ _ _ us hl => match us, hl with | [_, _], _ => rfl)
  obtain ⟨d46, f46, g46⟩ := t46.fn (ps := p__law_times) X G (fun _ _ _ _ _ _ us hl => match us, hl with | [_, _], _ => rfl)
  obtain ⟨d47, f47, g47⟩ := t47.fn (ps := p__law_over) X G (fun _ _ _ _ _ _ us hl => match us, hl with | [_, _], _ => rfl)
  obtain ⟨d48, f48, g48⟩ := t48.fn (ps := p__law_left) X G (fun _ _ _ _ _ _ us hl => match us, hl with | [_, _], _ => rfl)
  obtain ⟨d49, f49, g49⟩ := t49.fn (ps := p__law_are_hands_right) X G (fun _ _ _ _ _ _ us hl => match us, hl with | [_], _ => rfl)
  obtain ⟨d50, f50, g50⟩ := t50.fn (ps := p__law_lag) X G (fun _ _ _ _ _ _ us hl => match us, hl with | [_], _ => rfl)
  obtain ⟨d51, f51, g51⟩ := t51.fn (ps := p__law_are_lags_right) X G (fun _ _ _ _ _ _ us hl => match us, hl with | [_], _ => rfl)
  obtain ⟨d52, f52, g52⟩ := t52.fn (ps := p_law) X G (fun _ _ _ _ _ _ us hl => match us, hl with | [_], _ => rfl)
  have T : Txt K mg (fun i => match i with | 0 => a0 | 1 => a1 | 2 => a2 | 3 => a3 | 4 => a4 | 5 => a5 | 6 => a6 | 7 => a7 | 8 => a8 | 9 => a9 | 10 => a10 | 11 => a11 | 12 => a12 | 13 => a13 | 14 => a14 | 15 => a15 | 16 => a16 | 17 => a17 | 18 => a18 | 19 => a19 | 20 => a20 | 21 => a21 | 22 => a22 | 23 => a23 | 24 => a24 | 25 => a25 | 26 => a26 | 27 => a27 | 28 => a28 | 29 => a29 | 30 => a30 | 31 => a31 | 32 => a32 | 33 => a33 | 34 => a34 | 35 => a35 | 36 => a36 | 37 => a37 | 38 => a38 | 39 => a39 | 40 => a40 | 41 => a41 | 42 => a42 | 43 => a43 | 44 => a44 | 45 => a45 | 46 => a46 | 47 => a47 | 48 => a48 | 49 => a49 | 50 => a50 | 51 => a51 | 52 => a52 | 53 => a53 | _ => 0) (fun i => match i with | 0 => d0 | 1 => d1 | 2 => d2 | 3 => d3 | 4 => d4 | 5 => d5 | 6 => d6 | 7 => d7 | 8 => d8 | 9 => d9 | 10 => d10 | 11 => d11 | 12 => d12 | 13 => d13 | 14 => d14 | 15 => d15 | 16 => d16 | 17 => d17 | 18 => d18 | 19 => d19 | 20 => d20 | 21 => d21 | 22 => d22 | 23 => d23 | 24 => d24 | 25 => d25 | 26 => d26 | 27 => d27 | 28 => d28 | 29 => d29 | 30 => d30 | 31 => d31 | 32 => d32 | 33 => d33 | 34 => d34 | 35 => d35 | 36 => d36 | 37 => d37 | 38 => d38 | 39 => d39 | 40 => d40 | 41 => d41 | 42 => d42 | 43 => d43 | 44 => d44 | 45 => d45 | 46 => d46 | 47 => d47 | 48 => d48 | 49 => d49 | 50 => d50 | 51 => d51 | 52 => d52 | _ => d0) := ⟨f0, f1, f2, f3, f4, f5, f6, f7, f8, f9, f10, f11, f12, f13, f14, f15, f16, f17, f18, f19, f20, f21, f22, f23, f24, f25, f26, f27, f28, f29, f30, f31, f32, f33, f34, f35, f36, f37, f38, f39, f40, f41, f42, f43, f44, f45, f46, f47, f48, f49, f50, f51, f52, PySem.W.mg_none_of X G z_abs, PySem.W.mg_none_of X G z_all, PySem.W.mg_none_of X G z_bool, PySem.W.mg_none_of X G z_int, PySem.W.mg_none_of X G z_isinstance, PySem.W.mg_none_of X G z_len, PySem.W.mg_none_of X G z_list, PySem.W.mg_none_of X G z_max, PySem.W.mg_none_of X G z_min, PySem.W.mg_none_of X G z_range, PySem.W.mg_none_of X G z_repr, PySem.W.mg_none_of X G z_tuple, ⟨t_DIAL_SECONDS, PySem.W.mg_of X G y_DIAL_SECONDS⟩, ⟨t_HOURS, PySem.W.mg_of X G y_HOURS⟩, ⟨t_MOST_LAG_DAYS, PySem.W.mg_of X G y_MOST_LAG_DAYS⟩, ⟨t_MOST_ROUND, PySem.W.mg_of X G y_MOST_ROUND⟩, ⟨t_MOST_SPEED_BOTTOM, PySem.W.mg_of X G y_MOST_SPEED_BOTTOM⟩, ⟨t_MOST_SPEED_TOP, PySem.W.mg_of X G y_MOST_SPEED_TOP⟩, ⟨t_MOST_START, PySem.W.mg_of X G y_MOST_START⟩, ⟨t_MOST_TIME_PART, PySem.W.mg_of X G y_MOST_TIME_PART⟩, ⟨PySem.W.mg_of X G yt_TURNS, ct_mk l_4 (.int (1) (.int (12) (.int (720) (.nil)))) (by simp)⟩⟩
  have e := hfa.symm.trans f52.mg
  cases e
  exact ⟨d52, fun s v => g52 s [v] rfl, fun base _ _ => ok_law T M⟩
theorem walk {l : PySem.W.OpenLaw} {q : Program} {loose : List Str} {XP : (Str → Option Value) → Heap → Prop} {YP : World → Heap → Prop} {d : DefRec} {K : Params → PySem.W.Frag} (hn : l.most = some 63) (hdf : d.params.defaults = [])
    (hY : ∀ (w : World) (h : Heap), YP w h → (K w.params).In h)
    (F : ∀ (w : World) (mg : Str → Option Value) (fa : Addr) (h : Heap), (K w.params).In h → h.Ns mainGlobals mg → mg d.name = some (.ref fa) →
      ∃ fd : FuncData, (∀ (s : Shared) (u : Value), BindsTo s fd ⟨[u], []⟩ [("script", u)]) ∧ ∀ base : Heap, (K w.params).In base → base.Ns mainGlobals mg → FnG l.prog w (K w.params) mg base 9 fa fd ["script"] (spLaw (K w.params))) :
    PySem.W.WalkO q loose XP YP l.row.toRowW d [] (fun f vs => PySem.call f vs) :=
  head_walk (n := 63) (k := 9) (x := "script") (sp := fun w => spLaw (K w.params)) hn (by decide) hdf ⟨rfl, by decide, by decide⟩ hY F (fun _ _ a ns hl _ hS => ⟨a, ns, rfl, hS, hl, fun _ => rfl⟩)
end K03

set_option autoImplicit false
namespace K03
open PySem L2 DL
theorem fr_one (n : Int) : fr n 1 = .tuple [.int n, .int 1] := by
  unfold fr
  rw [Rat.num_divInt, Rat.den_divInt]
  simp
theorem fr1211 : fr 12 11 = .tuple [.int 12, .int 11] := by
  unfold fr
  rw [Rat.num_divInt, Rat.den_divInt]
  rfl
section
variable {a b c d : Int} (w : W)
theorem fraction (h0 : b ≠ 0) (hb : b.natAbs < 1073741824) : d_fraction [.int a, .int b] w = some (fr a b, w) := fraction_ok h0 hb w
theorem lfrac (h0 : 0 < b) (ha : a.natAbs < 18446744073709551616) (hb : b < 1073741824) : d__law_frac [.int a, .int b] w = some (fr a b, w) := lfrac_ok h0 ha hb w
theorem plus (h : FrOk a b) (k : FrOk c d) (hbd : b * d < 1073741824) : d_plus [fr a b, fr c d] w = some (fr (a * d + c * b) (b * d), w) := plus_ok w h k hbd
theorem minus (h : FrOk a b) (k : FrOk c d) (hbd : b * d < 1073741824) : d_minus [fr a b, fr c d] w = some (fr (a * d - c * b) (b * d), w) := minus_ok w h k hbd
theorem times (h : FrOk a b) (k : FrOk c d) (hbd : b * d < 1073741824) : d_times [fr a b, fr c d] w = some (fr (a * c) (b * d), w) := times_ok w h k hbd
theorem over (h : FrOk a b) (k : FrOk c d) (hc : c ≠ 0) (hbc : b * (c.natAbs : Int) < 1073741824) : d_over [fr a b, fr c d] w = some (fr (a * d) (b * c), w) := over_ok w h k hc hbc
theorem lplus (h : FrOk a b) (k : FrOk c d) (hbd : b * d < 1073741824) : d__law_plus [fr a b, fr c d] w = some (fr (a * d + c * b) (b * d), w) := lplus_ok w h k hbd
theorem lminus (h : FrOk a b) (k : FrOk c d) (hbd : b * d < 1073741824) : d__law_minus [fr a b, fr c d] w = some (fr (a * d - c * b) (b * d), w) := lminus_ok w h k hbd
theorem ltimes (h : FrOk a b) (k : FrOk c d) (hbd : b * d < 1073741824) : d__law_times [fr a b, fr c d] w = some (fr (a * c) (b * d), w) := ltimes_ok w h k hbd
theorem lover (h : FrOk a b) (k : FrOk c d) (hc : c ≠ 0) (hbc : b * (c.natAbs : Int) < 1073741824) : d__law_over [fr a b, fr c d] w = some (fr (a * d) (b * c), w) := lover_ok w h k hc hbc
theorem isFraction (h : FrOk a b) : d_is_fraction [fr a b] w = some (.bool true, w) := isFraction_ok w h
end
theorem isWithin (n a b : Int) (w : W) : d_is_within [.int n, .int a, .int b] w = some (.bool (decide (a ≤ n) && decide (n ≤ b)), w) := isWithin_ok n a b w
theorem isSized (ds : List D) (a b : Int) (w : W) : d_is_sized [.tuple ds, .int a, .int b] w = some (.bool (decide (a ≤ ds.length) && decide ((ds.length : Int) ≤ b)), w) := isSized_ok ds a b w
theorem isInteger (n : Int) (w : W) : d_is_integer [.int n] w = some (.bool true, w) := isInteger_ok n w
/-- what is left of a fraction by whole rounds -/
theorem left {a b m : Int} (w : W) (h : FrOk a b) (hm : 0 < m) (hb : b * m < 1073741824) : d__law_left [fr a b, .int m] w = some (fr (a % (b * m)) b, w) := by
  obtain ⟨g, g0, h1, h2⟩ := fr_parts a h.pos
  have p := fr_P (a := a) h.pos
  have mu := fun j => mul_ok_den (j := j) h p
  obtain ⟨z1, z2⟩ := den_mul (d := m) p.pos p.le hm (Int.le_refl m)
  have mo := fun i : Int => v_gMod (i := i) (j := ((Rat.divInt a b).den : Int) * m) (by omega)
  have r1 := fmod_in (i := (Rat.divInt a b).num) z1
  have f := lfrac (a := ((Rat.divInt a b).num).fmod (((Rat.divInt a b).den : Int) * m)) (b := ((Rat.divInt a b).den : Int)) w p.pos (by omega) (by have := h.bot; have := p.le; omega)
  have e : fr (((Rat.divInt a b).num).fmod (((Rat.divInt a b).den : Int) * m)) ((Rat.divInt a b).den : Int) = fr (a % (b * m)) b := by
    have pp := p.pos
    refine fr_eq (by omega) (by have := h.pos; omega) ?_
    rw [Int.fmod_eq_emod_of_nonneg _ (by omega)]
    have e1 : a % (b * m) = g * ((Rat.divInt a b).num % (((Rat.divInt a b).den : Int) * m)) := by
      rw [← Int.mul_emod_mul_of_pos _ _ g0]
      congr 1
      · rw [Int.mul_comm]; exact h1
      · rw [← Int.mul_assoc, Int.mul_comm g]
        congr 1
    rw [e1]
    generalize ((Rat.divInt a b).den : Int) = y at h2 ⊢
    subst h2
    grind
  rw [e] at f
  exact fnD_rt (ret_ok (by simp [mu, mo, f]))
/-- one racer: where it starts, how fast it goes -/
def rc (s a b : Int) : D := .tuple [.int s, fr a b]
structure RcOk (s a b : Int) : Prop where
  s0 : -1000 ≤ s
  s1 : s ≤ 1000
  a0 : a.natAbs ≤ 50
  b0 : 0 < b
  b1 : b ≤ 20
theorem RcOk.fr {s a b : Int} (h : RcOk s a b) : FrOk a b := ⟨h.b0, by have := h.b1; omega, by have := h.a0; omega⟩
theorem isRacer {s a b : Int} (h : RcOk s a b) (w : W) : d_is_racer [rc s a b] w = some (.bool true, w) := by
  have s1 := isSized [.int s, fr a b] 2 2 w
  have s2 := isWithin s (-1000) 1000 w
  have s3 := isFraction w h.fr
  have s4 := fr_num a h.b0
  have s5 := fr_den a h.b0
  have h0 := h.s0
  have h1 := h.s1
  have h2 := h.a0
  have h3 := h.b1
  have q1 : ¬ (50 : Int) < (if (Rat.divInt a b).num < 0 then -(Rat.divInt a b).num else (Rat.divInt a b).num) := by rw [abs_nat]; omega
  have q2 : (if (Rat.divInt a b).num < 0 then -(Rat.divInt a b).num else (Rat.divInt a b).num) ≤ 50 := by omega
  have q3 : ((Rat.divInt a b).den : Int) ≤ 20 := by omega
  refine fnD_rt (seq_nx (pass_if (e := [.sh (rc s a b)]) (w' := w) ?_) (ret_ok ?_))
  · simp [rc, s1, s2, s3, h0, h1]
  · simp [rc, q2]
    exact q3
theorem checkRacers {s a b s' a' b' : Int} (h : RcOk s a b) (h' : RcOk s' a' b') (w : W) : d_check_racers [.tuple [rc s a b, rc s' a' b']] w = some (.none, w) := by
  have z := isSized [rc s a b, rc s' a' b'] 2 6 w
  have e : lcD (gSet 1) bYes (eCall d_is_racer (eA (eVar 1) eA0)) [.sh (.tuple [rc s a b, rc s' a' b']), .no] [rc s a b, rc s' a' b'] w = some ([true, true].map .bool, w) := by
    simp [lcD, isRacer h, isRacer h']
  have al : e1 gAll (eLc [1] (iItems (eVar 0)) (gSet 1) bYes (eCall d_is_racer (eA (eVar 1) eA0))) [.sh (.tuple [rc s a b, rc s' a' b']), .no] w = some (.bool true, w) := e1_ok (lc_ok (by simp) e) (v_gAll _)
  have r : d_is_racers [.tuple [rc s a b, rc s' a' b']] w = some (.bool true, w) := by
    refine fnD_rt (ret_ok ?_)
    simp only [v_eAndV, v_eCall, v_eA, v_eA0, v_eC]
    simp [z]
    exact al
  simp [d_check_racers, y_check_racers, fnD, r]
end K03

set_option autoImplicit false
namespace K03
open PySem L2 DL
@[simp] theorem rc_ix0 (s a b : Int) : gIx (rc s a b) (.int 0) = some (.int s) := pr_ix0 _ _
@[simp] theorem rc_ix1 (s a b : Int) : gIx (rc s a b) (.int 1) = some (fr a b) := pr_ix1 _ _
theorem frO1 {n : Int} (h : n.natAbs < 2147483648) : FrOk n 1 := ⟨by decide, by decide, h⟩
/-- where racers of unlike speeds meet on a ring: the way between them by the speeds' difference -/
def meet (m x y p q r s : Int) : D := if 0 < p * s - r * q then fr ((y - x) % m * (q * s)) (p * s - r * q) else fr ((x - y) % m * (q * s)) (r * q - p * s)
section
variable {m x y p q r s : Int}
/-- the sizes that the law's racers keep to -/
structure Two (m x y p q r s : Int) : Prop where
  one : RcOk x p q
  two : RcOk y r s
  ne : p * s - r * q ≠ 0
  m0 : 0 < m
  m1 : m ≤ 360
theorem Two.gap (h : Two m x y p q r s) (w : W) : d_minus [fr p q, fr r s] w = some (fr (p * s - r * q) (q * s), w) ∧ 0 < q * s ∧ q * s ≤ 400 ∧ (p * s - r * q).natAbs ≤ 2000 := by
  have h1 := h.one
  have h2 := h.two
  have z := den_mul h1.b0 h1.b1 h2.b0 h2.b1
  have u1 := mul_abs (x := p) (y := s) (A := 50) (B := 20) h1.a0 (by have := h2.b1; have := h2.b0; omega)
  have u2 := mul_abs (x := r) (y := q) (A := 50) (B := 20) h2.a0 (by have := h1.b1; have := h1.b0; omega)
  exact ⟨minus w h1.fr h2.fr (by omega), by omega, by omega, by omega⟩
theorem fr_neg (a b : Int) : (PyData.tuple [.int (-(Rat.divInt a b).num), .int ((Rat.divInt a b).den : Int)]) = fr (-a) b := by
  unfold fr
  rw [← Rat.neg_divInt]
  rfl
theorem overs {G H f m : Int} (hG : 0 < G) (hG2 : G ≤ 2000) (hH : 0 < H) (hH2 : H ≤ 400) (h0 : 0 ≤ f) (h1 : f ≤ 1000) (w : W) :
    d_over [.tuple [.int f, .int 1], fr G H] w = some (fr (f * H) G, w) := by
  have e := over w (frO1 (n := f) (by omega)) (⟨hH, by omega, by omega⟩ : FrOk G H) (by omega) (by omega)
  rw [fr_one, Int.one_mul] at e
  exact e
theorem ringTimes {T : D} {i j : Int} (h : Two m x y p q r s) (hi : gIx T (.int i) = some (rc x p q)) (hj : gIx T (.int j) = some (rc y r s)) (w : W) :
    ∃ v : D, ∃ n : Int, n ≠ 0 ∧ gIx v (.int 0) = some (.int n) ∧ d_ring_times [.int m, T, .int i, .int j] w = some (.tuple [meet m x y p q r s, v], w) := by
  obtain ⟨g, H0, H1, G1⟩ := h.gap w
  have ne := h.ne
  have m0 := h.m0
  have m1 := h.m1
  generalize hG : p * s - r * q = G at g ne G1
  generalize hH : q * s = H at g H0 H1
  have n0 : (Rat.divInt G H).num ≠ 0 := fun e => ne ((fr_num_sign G H0).1.mp e)
  have mo := fun i : Int => v_gMod (i := i) (j := m) (by omega)
  have s1 : sSet 4 (e2 gSub (e2 gIx (e2 gIx (eVar 1) (eVar 3)) (eC (.int 0))) (e2 gIx (e2 gIx (eVar 1) (eVar 2)) (eC (.int 0)))) [.sh (.int m), .sh T, .sh (.int i), .sh (.int j), .no, .no] w =
      some (.nx [.sh (.int m), .sh T, .sh (.int i), .sh (.int j), .sh (.int (y - x)), .no], w) := set_ok (by simp [hi, hj])
  have s2 : sSet 5 (eCall d_minus (eA (e2 gIx (e2 gIx (eVar 1) (eVar 2)) (eC (.int 1))) (eA (e2 gIx (e2 gIx (eVar 1) (eVar 3)) (eC (.int 1))) eA0))) [.sh (.int m), .sh T, .sh (.int i), .sh (.int j), .sh (.int (y - x)), .no] w =
      some (.nx [.sh (.int m), .sh T, .sh (.int i), .sh (.int j), .sh (.int (y - x)), .sh (fr G H)], w) := set_ok (by simp [hi, hj, g])
  by_cases c : 0 < G
  · have nn : ¬ (Rat.divInt G H).num < 0 := fun e => by have := (fr_num_sign G H0).2.mp e; omega
    have f1 := fmod_in (i := y - x) m0
    have o1 := overs (m := m) c (by omega) H0 H1 f1.1 (by omega) w
    have o2 := overs (m := m) c (by omega) H0 H1 (f := m) (by omega) (by omega) w
    refine ⟨fr (m * H) G, (Rat.divInt (m * H) G).num, fun e => ?_, fr_ix0 _ _, ?_⟩
    · have := (fr_num_sign (m * H) c).1.mp e
      have := Int.mul_pos m0 H0
      omega
    · refine fnD_rt (seq_nx s1 (seq_nx s2 (seq_nx (pass_if (w' := w) (by simp [n0])) (seq_nx (pass_if (w' := w) (by simp [nn])) (ret_ok ?_)))))
      unfold meet
      rw [hG, hH, if_pos c, ← Int.fmod_eq_emod_of_nonneg _ (by omega)]
      simp [mo, o1, o2]
  · have cn : G < 0 := by omega
    have nn : (Rat.divInt G H).num < 0 := (fr_num_sign G H0).2.mpr cn
    have f1 := fmod_in (i := x - y) m0
    have o1 := overs (m := m) (G := -G) (by omega) (by omega) H0 H1 f1.1 (by omega) w
    have o2 := overs (m := m) (G := -G) (by omega) (by omega) H0 H1 (f := m) (by omega) (by omega) w
    refine ⟨fr (m * H) (-G), (Rat.divInt (m * H) (-G)).num, fun e => ?_, fr_ix0 _ _, ?_⟩
    · have := (fr_num_sign (m * H) (b := -G) (by omega)).1.mp e
      have := Int.mul_pos m0 H0
      omega
    · have xy : -(y - x) = x - y := by omega
      have s4 : sIf (bV (e2 gLt (e2 gIx (eVar 5) (eC (.int 0))) (eC (.int 0)))) (sPar 4 5 false false (eA (e1 gNeg (eVar 4)) (eA (eTup (eA (e1 gNeg (e2 gIx (eVar 5) (eC (.int 0)))) (eA (e2 gIx (eVar 5) (eC (.int 1))) eA0))) eA0))) sNext
          [.sh (.int m), .sh T, .sh (.int i), .sh (.int j), .sh (.int (y - x)), .sh (fr G H)] w = some (.nx [.sh (.int m), .sh T, .sh (.int i), .sh (.int j), .sh (.int (x - y)), .sh (fr (-G) H)], w) := by
        refine if_yes (w' := w) (by simp [nn]) (par_ok ?_)
        simp only [v_eA, v_eA0, v_e1, v_e2, v_eTup, v_eVar0, v_eVarS, v_eC, b_some, m_some, v_gNeg, fr_ix0, fr_ix1, fr_neg, xy]
      refine fnD_rt (seq_nx s1 (seq_nx s2 (seq_nx (pass_if (w' := w) (by simp [n0])) (seq_nx s4 (ret_ok ?_)))))
      unfold meet
      have rq : r * q - p * s = -G := by omega
      rw [hG, hH, rq, if_neg c, ← Int.fmod_eq_emod_of_nonneg _ (by omega)]
      simp [mo, o1, o2]
end
@[simp] theorem isNon_fr (a b : Int) : isNon (fr a b) = false := rfl
theorem bothTimes {M v : D} {n : Int} (n0 : n ≠ 0) (hv : gIx v (.int 0) = some (.int n)) (w : W) : d_both_times [.tuple [.tuple [.int 0, .int 1], .tuple [.int 0, .int 1]], .tuple [M, v]] w = some (.tuple [M, v], w) := by
  refine fnD_rt (seq_nx (pass_if (w' := w) (by simp)) ?_)
  have t : sIf (bOr (bV (e2 gEq (e2 gIx (e2 gIx (eVar 0) (eC (.int 1))) (eC (.int 0))) (eC (.int 0)))) (bV (e2 gEq (e2 gIx (e2 gIx (eVar 1) (eC (.int 1))) (eC (.int 0))) (eC (.int 0))))) (sRet (eIf (bV (e2 gEq (e2 gIx (e2 gIx (eVar 0) (eC (.int 1))) (eC (.int 0))) (eC (.int 0)))) (eVar 1) (eVar 0))) sNext
      [.sh (.tuple [.tuple [.int 0, .int 1], .tuple [.int 0, .int 1]]), .sh (.tuple [M, v])] w = some (.rt (.tuple [M, v]), w) := if_yes (w' := w) (by simp) (ret_ok (by simp))
  rw [v_sSeq]
  erw [t]
  rfl
theorem checkRacer {n i : Int} (h : 0 ≤ i) (h' : i ≤ n - 1) (w : W) : d_check_racer [.int n, .int i] w = some (.none, w) := by
  have z := isWithin i 0 (n - 1) w
  simp [d_check_racer, y_check_racer, fnD, z, h, h']
theorem ringTime {m x y p q r s : Int} {T : D} {i j : Int} (h : Two m x y p q r s) (hi : gIx T (.int i) = some (rc x p q)) (hj : gIx T (.int j) = some (rc y r s)) (w : W) : d_ring_time [.int m, T, .tuple [.int i, .int j]] w = some (meet m x y p q r s, w) := by
  obtain ⟨v, n, n0, hv, e⟩ := ringTimes h hi hj w
  have b := bothTimes (M := meet m x y p q r s) n0 hv w
  have cut : cutD [PyData.int i, PyData.int j] (some 1) none = [PyData.int j] := rfl
  have l : loopD (gSet 4) (sSeq (sSet 3 (eCall d_both_times (eA (eVar 3) (eA (eCall d_ring_times (eA (eVar 0) (eA (eVar 1) (eA (e2 gIx (eVar 2) (eC (.int 0))) (eA (eVar 4) eA0))))) eA0)))) (sIf (bV (e2 gIsN (eVar 3) (eC .none))) (sRet (eC .none)) sNext)) [.int j]
      [.sh (.int m), .sh T, .sh (.tuple [.int i, .int j]), .sh (.tuple [.tuple [.int 0, .int 1], .tuple [.int 0, .int 1]]), .no] w =
      some (.nx [.sh (.int m), .sh T, .sh (.tuple [.int i, .int j]), .sh (.tuple [meet m x y p q r s, v]), .sh (.int j)], w) := by
    simp [loopD, e, b]
  refine fnD_rt (seq_nx (set_ok (d := .tuple [.tuple [.int 0, .int 1], .tuple [.int 0, .int 1]]) (w' := w) (by simp)) (seq_nx (for_ok (ds := [.int j]) (w1 := w) (by simp [cut]) l) (ret_ok ?_)))
  simp
theorem ringMeeting {m x y p q r s x' y' p' q' r' s' : Int} {i j : Int} (h : Two m x y p q r s) (h1 : RcOk x' p' q') (h2 : RcOk y' r' s') (hi : gIx (.tuple [rc x' p' q', rc y' r' s']) (.int i) = some (rc x p q)) (hj : gIx (.tuple [rc x' p' q', rc y' r' s']) (.int j) = some (rc y r s))
    (i0 : 0 ≤ i) (i1 : i ≤ 1) (j0 : 0 ≤ j) (j1 : j ≤ 1) (ij : i ≠ j) (w : W) : d_ring_meeting [.int m, .tuple [rc x' p' q', rc y' r' s'], .int i, .int j] w = some (meet m x y p q r s, w) := by
  have z := isWithin m 1 360 w
  have z1 : (1 : Int) ≤ m := h.m0
  have z2 := h.m1
  have cr := checkRacers h1 h2 w
  have c := checkRacer (n := 2) i0 (by omega) w
  have c' := checkRacer (n := 2) j0 (by omega) w
  have round : d_check_round [.int m, .tuple [rc x' p' q', rc y' r' s']] w = some (.none, w) := by
    simp [d_check_round, y_check_round, fnD, z, z1, z2, cr]
  have t := ringTime h hi hj w
  refine fnD_rt (seq_nx (e' := [.sh (.int m), .sh (.tuple [rc x' p' q', rc y' r' s']), .sh (.int i), .sh (.int j)]) (w' := w) (by simp [round]) (seq_nx (e' := [.sh (.int m), .sh (.tuple [rc x' p' q', rc y' r' s']), .sh (.int i), .sh (.int j)]) (w' := w) (by simp [c]) (seq_nx (e' := [.sh (.int m), .sh (.tuple [rc x' p' q', rc y' r' s']), .sh (.int i), .sh (.int j)]) (w' := w) (by simp [c']) (seq_nx (pass_if (w' := w) (by simp [ij])) (ret_ok ?_)))))
  simp [t]
theorem ediv_parts {a b g n d : Int} (g0 : 0 < g) (h1 : a = n * g) (h2 : b = d * g) : n / d = a / b := by
  rw [h1, h2, Int.mul_ediv_mul_of_pos_left _ _ g0]
theorem ediv_abs {a b : Int} (hb : 0 < b) : (a / b).natAbs ≤ a.natAbs := by
  have h1 := Int.mul_ediv_self_le (x := a) (k := b) (by omega)
  have h2 := Int.lt_mul_ediv_self_add (x := a) hb
  by_cases c : 0 ≤ a
  · have h3 := Int.ediv_nonneg c (by omega : 0 ≤ b)
    have h4 := Int.ediv_le_self b c
    omega
  · have h3 : a / b < 0 := Int.ediv_neg_of_neg_of_pos (by omega) hb
    have h4 : a ≤ a / b := by
      have := Int.mul_le_mul_of_nonneg_right (show (1 : Int) ≤ b by omega) (show 0 ≤ -(a / b) - 1 by omega)
      have e : b * (-(a / b) - 1) = -(b * (a / b)) - b := by grind
      omega
    omega
theorem roundPlace {a b : Int} (h : FrOk a b) (w : W) : d_round_place [fr a b] w = some (fr (a % b) b, w) := by
  obtain ⟨g, g0, h1, h2⟩ := fr_parts a h.pos
  have p := fr_P (a := a) h.pos
  have pp := p.pos
  have hb := h.bot
  have h0 := h.pos
  have ple := p.le
  have dv := fun i : Int => v_gDiv (i := i) (j := ((Rat.divInt a b).den : Int)) (by omega) (by omega) (by omega)
  have e : ((Rat.divInt a b).num).fdiv ((Rat.divInt a b).den : Int) = a / b := by
    rw [Int.fdiv_eq_ediv_of_nonneg _ (by omega)]
    exact ediv_parts g0 h1 h2
  have wb : d_whole_below [fr a b] w = some (.int (a / b), w) := by
    refine fnD_rt (ret_ok ?_)
    simp [dv, e]
  have ab := ediv_abs (a := a) h.pos
  have m := minus w h (frO1 (n := a / b) (by have := h.top; omega)) (by omega)
  rw [fr_one, Int.mul_one, Int.mul_one, show a - a / b * b = a % b by rw [Int.emod_def, Int.mul_comm]] at m
  refine fnD_rt (ret_ok ?_)
  simp [wb, m]
theorem handPlace {h t a b : Int} (hT : gIx (.tuple [.int 1, .int 12, .int 720]) (.int h) = some (.int t)) (t0 : 1 ≤ t) (t1 : t ≤ 12) (k : FrOk a b) (hb : b ≤ 600) (ha : a.natAbs ≤ 100000) (w : W) : d_hand_place [.int h, fr a b] w = some (fr (a * t % (b * 12)) (b * 12), w) := by
  have b0 := k.pos
  have f := fraction (a := t) (b := 12) w (by decide) (by decide)
  have u := mul_abs (x := a) (y := t) (A := 100000) (B := 12) ha (by omega)
  have m := times w k (⟨by decide, by decide, by omega⟩ : FrOk t 12) (by omega)
  have r := roundPlace (a := a * t) (b := b * 12) ⟨by omega, by omega, by omega⟩ w
  refine fnD_rt (ret_ok ?_)
  simp [hT, f, m, r]
theorem hand0 : gIx (.tuple [.int 1, .int 12, .int 720]) (.int 0) = some (.int 1) := by simp
theorem hand1 : gIx (.tuple [.int 1, .int 12, .int 720]) (.int 1) = some (.int 12) := by
  show atI _ 1 = _
  simp [atI, ixN]
theorem num_lt {a b m : Int} (hb : 0 < b) : (Rat.divInt a b).num < m * ((Rat.divInt a b).den : Int) ↔ a < m * b := by
  obtain ⟨g, g0, h1, h2⟩ := fr_parts a hb
  generalize (Rat.divInt a b).num = n at h1 ⊢
  generalize ((Rat.divInt a b).den : Int) = d at h2 ⊢
  subst h1 h2
  rw [← Int.mul_assoc]
  exact (Int.mul_lt_mul_right g0).symm
theorem num_ge {a b : Int} (hb : 0 < b) : 0 ≤ (Rat.divInt a b).num ↔ 0 ≤ a := by
  have := (fr_num_sign a hb).2
  omega
theorem checkTime {a b : Int} (h : FrOk a b) (h0 : 0 ≤ a) (h1 : a < 12 * b) (w : W) : d_check_time_clockhands [fr a b] w = some (.none, w) := by
  have i := isFraction w h
  have n0 := (num_ge h.pos).mpr h0
  have n1 := (num_lt (m := 12) h.pos).mpr h1
  have mu := fun j : Int => v_gMul (i := (12 : Int)) (j := j) (mulOk_l (by decide))
  have t : d_is_time [fr a b] w = some (.bool true, w) := by
    refine fnD_rt (ret_ok ?_)
    simp [i, n0, n1, mu]
  simp [d_check_time_clockhands, y_check_time_clockhands, fnD, t]
theorem gapOf {a b : Int} (h : FrOk a b) (h0 : 0 ≤ a) (h1 : a < 12 * b) (hb : b ≤ 600) (w : W) : d_gap_of [fr a b] w = some (fr (11 * a % (12 * b)) (12 * b), w) := by
  have b0 := h.pos
  have c := checkTime h h0 h1 w
  have p0 := handPlace hand0 (by decide) (by decide) h hb (by omega) w
  have p1 := handPlace hand1 (by decide) (by decide) h hb (by omega) w
  rw [show b * 12 = 12 * b by omega] at p0 p1
  generalize hD : 12 * b = D at p0 p1 h1 ⊢
  have D0 : 0 < D := by omega
  have e0 : a * 1 % D = a := by rw [Int.mul_one, Int.emod_eq_of_lt h0 h1]
  rw [e0] at p0
  have x0 := Int.emod_nonneg (a * 12) (show D ≠ 0 by omega)
  have x1 := Int.emod_lt_of_pos (a * 12) D0
  have DD := Int.mul_le_mul (show D ≤ 7200 by omega) (show D ≤ 7200 by omega) (by omega) (by omega)
  have DD0 := Int.mul_pos D0 D0
  have m := minus w (⟨D0, by omega, by omega⟩ : FrOk (a * 12 % D) D) (⟨D0, by omega, by omega⟩ : FrOk a D) (by omega)
  have u1 := mul_abs (x := a * 12 % D) (y := D) (A := 7200) (B := 7200) (by omega) (by omega)
  have u2 := mul_abs (x := a) (y := D) (A := 7200) (B := 7200) (by omega) (by omega)
  have r := roundPlace (a := a * 12 % D * D - a * D) (b := D * D) ⟨DD0, by omega, by omega⟩ w
  have e : fr ((a * 12 % D * D - a * D) % (D * D)) (D * D) = fr (11 * a % D) D := by
    refine fr_eq (by omega) (by omega) ?_
    have z : (a * 12 % D * D - a * D) % (D * D) = D * (11 * a % D) := by
      rw [show a * 12 % D * D - a * D = D * (a * 12 % D - a) by grind, Int.mul_emod_mul_of_pos _ _ D0]
      congr 1
      rw [Int.sub_emod, Int.emod_emod, ← Int.sub_emod]
      congr 1
      omega
    rw [z]; grind
  rw [e] at r
  refine fnD_rt (seq_nx (e' := [.sh (fr a b)]) (w' := w) (by simp [c]) (ret_ok ?_))
  have rg : d_raw_gap [fr a b] w = some (fr (11 * a % D) D, w) := by
    refine fnD_rt (ret_ok ?_)
    simp [p0, p1, m, r]
  simp [rg]
theorem minutePlace {a b : Int} (h : FrOk a b) (h0 : 0 ≤ a) (h1 : a < 12 * b) (hb : b ≤ 600) (w : W) : d_minute_place [fr a b] w = some (fr (a * 12 % (b * 12)) (b * 12), w) := by
  have c := checkTime h h0 h1 w
  have p1 := handPlace hand1 (by decide) (by decide) h hb (by omega) w
  exact fnD_rt (seq_nx (e' := [.sh (fr a b)]) (w' := w) (by simp [c]) (ret_ok (by simp [p1])))
theorem hourPlace {a b : Int} (h : FrOk a b) (h0 : 0 ≤ a) (h1 : a < 12 * b) (hb : b ≤ 600) (w : W) : d_hour_place [fr a b] w = some (fr (a * 1 % (b * 12)) (b * 12), w) := by
  have c := checkTime h h0 h1 w
  have p1 := handPlace hand0 (by decide) (by decide) h hb (by omega) w
  refine fnD_rt (seq_nx (e' := [.sh (fr a b)]) (w' := w) (by simp [c]) (ret_ok ?_))
  simp only [v_eCall, v_eA, v_eA0, v_eVar0, v_eC, b_some, m_some, p1]
def R11 : List Int := (List.range 11).map fun (k : Nat) => (k : Int)
theorem r11 {x : Int} (h : x ∈ R11) : 0 ≤ x ∧ x < 11 := by
  obtain ⟨k, hk, rfl⟩ := List.mem_map.mp h
  have := List.mem_range.mp hk
  omega
theorem r11' {x : Int} (h : 0 ≤ x) (h' : x < 11) : x ∈ R11 := List.mem_map.mpr ⟨x.toNat, List.mem_range.mpr (by omega), by omega⟩
theorem whenGap {c R : Int} (h0 : 0 ≤ c) (h1 : c < R) (hR : R ≤ 48) (w : W) : d_when_gap [fr c R] w = some (.list (R11.map fun k => fr ((c + k * R) * 12) (R * 11)), w) := by
  have fo : FrOk c R := ⟨by omega, by omega, by omega⟩
  have i := isFraction w fo
  have n0 := (num_ge fo.pos).mpr h0
  have n1 := (num_lt (a := c) (m := 1) fo.pos).mpr (by omega)
  rw [Int.one_mul] at n1
  have ch : d_check_place [fr c R] w = some (.none, w) := by simp [d_check_place, y_check_place, fnD, i, n0, n1]
  have e := lc_mapN (gs := gSet 1) (ft := bYes) (fe := eCall d_times (eA (eCall d_plus (eA (eVar 0) (eA (eTup (eA (eVar 1) (eA (eC (.int 1)) eA0))) eA0))) (eA (eTup (eA (eC (.int (12))) (eA (e2 gSub (eC (.int (12))) (eC (.int 1))) eA0))) eA0))) (env := [.sh (fr c R), .no]) (w := w) (g := fun k => fr ((c + k * R) * 12) (R * 11)) (xs := R11) (fun x hx => by
    have hx := r11 hx
    have u := den_mul (b := 11) (d := 48) (x := x + 1) (y := R) (by omega) (by omega) (by omega) hR
    rw [Int.add_mul] at u
    have p := plus w fo (frO1 (n := x) (by omega)) (by omega)
    rw [fr_one, Int.mul_one, Int.mul_one] at p
    have u0 := Int.mul_nonneg hx.1 (by omega : 0 ≤ R)
    have t := times w (⟨by omega, by omega, by omega⟩ : FrOk (c + x * R) R) (⟨by decide, by decide, by decide⟩ : FrOk 12 11) (by omega)
    rw [fr1211] at t
    exact ⟨_, rfl, rfl, by simp [p, t]⟩)
  have rw_ : d_raw_when [fr c R] w = some (.list (R11.map fun k => fr ((c + k * R) * 12) (R * 11)), w) :=
    fnD_rt (ret_ok (lc_ok (v_iRange1 (n := 11) (w' := w) rfl (by decide)) e))
  exact fnD_rt (seq_nx (e' := [.sh (fr c R)]) (w' := w) (by simp [ch]) (ret_ok (by simp [rw_])))
theorem timesTogether (w : W) : d_times_together [.int 0, .int 1] w = some (.list (R11.map fun k => fr (12 * k) 11), w) := by
  have i0 := isWithin 0 0 2 w
  have i1 := isWithin 1 0 2 w
  have mu := fun j : Int => v_gMul (i := (12 : Int)) (j := j) (mulOk_l (by decide))
  have e := lc_mapN (gs := gSet 4) (ft := bYes) (fe := eCall d_fraction (eA (e2 gMul (eC (.int (12))) (eVar 4)) (eA (eVar 3) eA0))) (env := [.sh (.int 0), .sh (.int 1), .sh (.int 1), .sh (.int 11), .no]) (w := w) (g := fun k => fr (12 * k) 11) (xs := R11) (fun x hx => by
    have f := fraction (a := 12 * x) (b := 11) w (by decide) (by decide)
    exact ⟨_, rfl, rfl, by simp [mu, f]⟩)
  refine fnD_rt (seq_nx (e' := [.sh (.int 0), .sh (.int 1), .sh (.int 1), .no, .no]) (w' := w) ?_ (seq_nx (e' := [.sh (.int 0), .sh (.int 1), .sh (.int 1), .no, .no]) (w' := w) ?_ (seq_nx (e' := [.sh (.int 0), .sh (.int 1), .sh (.int 1), .sh (.int 11), .no]) (w' := w) ?_ (ret_ok (lc_ok (v_iRange1 (n := 11) (w' := w) rfl (by decide)) e)))))
  · simp [loopD, i0, i1]
  · simp
  · refine set_ok ?_
    simp only [v_e1, v_e2, v_eC, v_eVar0, v_eVarS, b_some, m_some, hand0, hand1, v_gSub, v_gAbs]
    rfl
/-- where a racer is at a time -/
theorem racerAt {s v u s' v' u' s2 v2 u2 a b i : Int} (h1 : RcOk s v u) (h2 : RcOk s' v' u') (h : RcOk s2 v2 u2) (hi : gIx (.tuple [rc s v u, rc s' v' u']) (.int i) = some (rc s2 v2 u2)) (i0 : 0 ≤ i) (i1 : i ≤ 1) (k : FrOk a b) (a0 : 0 ≤ a) (a1 : a ≤ 1000000) (b1 : b ≤ 600) (w : W) :
    d_racer_at [.tuple [rc s v u, rc s' v' u'], .int i, fr a b] w = some (fr (s2 * (u2 * b) + v2 * a) (u2 * b), w) := by
  have c1 := checkRacers h1 h2 w
  have c2 := checkRacer (n := 2) i0 (by omega) w
  have f := isFraction w k
  have n0 := (num_ge k.pos).mpr a0
  have n1 := fr_num a k.pos
  have n2 := fr_den a k.pos
  have n3 : (Rat.divInt a b).num ≤ 1000000000 := by omega
  have n4 : ¬ 1000000000 < ((Rat.divInt a b).den : Int) := by omega
  have c3 : d_check_time_races [fr a b] w = some (.none, w) := by simp [d_check_time_races, y_check_time_races, fnD, f, n0, n3, n4]
  have b0 := k.pos
  have ub := den_mul h.b0 h.b1 b0 b1
  have va := mul_abs (x := v2) (y := a) (A := 50) (B := 1000000) h.a0 (by omega)
  have t := times w h.fr k (by omega)
  have p := plus w (frO1 (n := s2) (by have := h.s0; have := h.s1; omega)) (⟨ub.1, by omega, by omega⟩ : FrOk (v2 * a) (u2 * b)) (by omega)
  rw [fr_one, Int.mul_one, Int.one_mul] at p
  have ra : d_raw_racer_at [.tuple [rc s v u, rc s' v' u'], .int i, fr a b] w = some (fr (s2 * (u2 * b) + v2 * a) (u2 * b), w) := by
    refine fnD_rt (ret_ok ?_)
    simp [hi, t, p]
  exact fnD_rt (seq_nx (e' := [.sh (.tuple [rc s v u, rc s' v' u']), .sh (.int i), .sh (fr a b)]) (w' := w) (by simp [c1]) (seq_nx (e' := [.sh (.tuple [rc s v u, rc s' v' u']), .sh (.int i), .sh (fr a b)]) (w' := w) (by simp [c2]) (seq_nx (e' := [.sh (.tuple [rc s v u, rc s' v' u']), .sh (.int i), .sh (fr a b)]) (w' := w) (by simp [c3]) (ret_ok (by simp [ra])))))
/-! numbers -/
section
variable {c k W R a b : Int}
theorem n_meet1 {h : Int} (h0 : 0 ≤ h) (h1 : h < 12) : meet 12 h 0 1 1 12 1 = fr h 11 ∧ meet 12 0 h 12 1 1 1 = fr h 11 := by
  unfold meet
  rw [if_neg (by decide), if_pos (by decide)]
  exact ⟨fr_eq (by decide) (by decide) (by omega), fr_eq (by decide) (by decide) (by omega)⟩
theorem n_meet2 (hW : W = 1 ∨ W = 2 ∨ W = 3 ∨ W = 4) (hR : R = 12 * W) (c0 : 0 ≤ c) (c1 : c < R) : meet R c 0 W 1 R 1 = fr c (11 * W) := by
  unfold meet
  rw [if_neg (by omega)]
  refine fr_eq (by omega) (by omega) ?_
  rw [Int.sub_zero, Int.emod_eq_of_lt c0 c1]
  rcases hW with rfl | rfl | rfl | rfl <;> subst hR <;> omega
theorem n_told (hW : W = 1 ∨ W = 2 ∨ W = 3 ∨ W = 4) (hR : R = 12 * W) : fr ((c + k * R) * 12) (R * 11) = fr (c * 11 + 12 * k * (11 * W)) (11 * W * 11) := by
  refine fr_eq (by omega) (by omega) ?_
  rcases hW with rfl | rfl | rfl | rfl <;> subst hR <;> omega
theorem n_first (hW : W = 1 ∨ W = 2 ∨ W = 3 ∨ W = 4) (hR : R = 12 * W) : fr ((c + 0 * R) * 12) (R * 11) = fr c (11 * W) := by
  refine fr_eq (by omega) (by omega) ?_
  rcases hW with rfl | rfl | rfl | rfl <;> subst hR <;> omega
theorem n_gap (hW : W = 1 ∨ W = 2 ∨ W = 3 ∨ W = 4) (hR : R = 12 * W) (c0 : 0 ≤ c) (c1 : c < R) (ha : a = (c + k * R) * 12) (hb : b = R * 11) : fr (11 * a % (12 * b)) (12 * b) = fr c R := by
  refine fr_eq (by omega) (by omega) ?_
  rcases hW with rfl | rfl | rfl | rfl <;> subst hR <;> subst ha <;> subst hb <;> omega
theorem n_spots (hW : W = 1 ∨ W = 2 ∨ W = 3 ∨ W = 4) (hR : R = 12 * W) (ha : a = (c + k * R) * 12) (hb : b = R * 11) : (c * (1 * b) + W * a) % (1 * b * R) = (0 * (1 * b) + R * a) % (1 * b * R) := by
  rcases hW with rfl | rfl | rfl | rfl <;> subst hR <;> subst ha <;> subst hb <;> omega
theorem n_place (hW : W = 1 ∨ W = 2 ∨ W = 3 ∨ W = 4) (hR : R = 12 * W) (ha : a = (c + k * R) * 12) (hb : b = R * 11) : fr (a * 12 % (b * 12)) (b * 12) = fr ((0 * (1 * b) + R * a) % (1 * b * R) * 1) (1 * b * R) := by
  refine fr_eq (by omega) (by rcases hW with rfl | rfl | rfl | rfl <;> subst hR <;> subst hb <;> decide) ?_
  rcases hW with rfl | rfl | rfl | rfl <;> subst hR <;> subst ha <;> subst hb <;> omega
theorem n_before (hW : W = 1 ∨ W = 2 ∨ W = 3 ∨ W = 4) (hR : R = 12 * W) (ha : a = (c + k * R) * 12) (hb : b = R * 11) : fr (a * 1 % (b * 12)) (b * 12) = fr (((c * (1 * b) + W * a) * 1 - c * (1 * b)) % (1 * b * 1 * R) * 1) (1 * b * 1 * R) := by
  refine fr_eq (by omega) (by rcases hW with rfl | rfl | rfl | rfl <;> subst hR <;> subst hb <;> decide) ?_
  rcases hW with rfl | rfl | rfl | rfl <;> subst hR <;> subst ha <;> subst hb <;> omega
end
theorem draw {w : W} {m : Int} (hw : WOk w) (h1 : 1 ≤ m) (h2 : m < 1073741824) : ∃ r w', d__law_draw [hnd, .int m] w = some (.int r, w') ∧ 0 ≤ r ∧ r < m ∧ WOk w' := draw_ok hw h1 h2
theorem anyI {w : W} {xs : List Int} (hw : WOk w) (h : xs ≠ []) (h2 : xs.length < 100000) : ∃ x w', x ∈ xs ∧ d__law_any [hnd, .list (xs.map .int)] w = some (.int x, w') ∧ WOk w' := any_int hw h h2
theorem any {w : W} {xs : List D} (hw : WOk w) (h : xs ≠ []) (h2 : xs.length < 100000) : ∃ x w', x ∈ xs ∧ d__law_any [hnd, .list xs] w = some (x, w') ∧ WOk w' := any_ok hw h h2
@[simp] theorem ls_ix0 (a b : D) : gIx (.list [a, b]) (.int 0) = some a := v_gIx0 _ _
@[simp] theorem ls_ix1 (a b : D) : gIx (.list [a, b]) (.int 1) = some b := by
  show atI _ 1 = _
  simp [atI, ixN]
theorem hands {w : W} (hw : WOk w) : ∃ w', d__law_are_hands_right [hnd] w = some (.bool true, w') ∧ WOk w' := by
  obtain ⟨h, w1, Eh, h0, h1, k1⟩ := draw (m := 12) hw (by decide) (by decide)
  obtain ⟨W, w2, mW, EW, k2⟩ := anyI (xs := [1, 2, 3, 4]) k1 (by simp) (by simp)
  simp only [List.mem_cons, List.not_mem_nil, or_false] at mW
  have hW : W = 1 ∨ W = 2 ∨ W = 3 ∨ W = 4 := mW
  simp only [List.map_cons, List.map_nil] at EW
  obtain ⟨R, hR⟩ : ∃ R, R = 12 * W := ⟨_, rfl⟩
  obtain ⟨c, w3, Ec, c0, c1, k3⟩ := draw (m := R) k2 (by omega) (by omega)
  have n01 : gNe (.tuple [.int 0, .int 1]) (.tuple [.int 0, .int 1]) = some (.bool false) := v_gNeT [0, 1] [0, 1]
  have mu12 := fun j : Int => v_gMul (i := (12 : Int)) (j := j) (mulOk_l (by decide))
  have mu11 : gMul (.int 11) (.int W) = some (.int (11 * W)) := v_gMul (mulOk_l (by decide))
  have muW : gMul (.int 12) (.int W) = some (.int R) := by rw [hR]; exact v_gMul (mulOk_l (by decide))
  have o1 := lover w2 (frO1 (n := h) (by omega)) (frO1 (n := 11) (by decide)) (by decide) (by decide)
  rw [fr_one, fr_one, Int.mul_one, Int.one_mul] at o1
  have ra : RcOk h 1 1 := ⟨by omega, by omega, by decide, by decide, by decide⟩
  have rb : RcOk 0 12 1 := ⟨by decide, by decide, by decide, by decide, by decide⟩
  have m1 := ringMeeting (m := 12) (i := 0) (j := 1) ⟨ra, rb, by decide, by decide, by decide⟩ ra rb (pr_ix0 _ _) (pr_ix1 _ _) (by decide) (by decide) (by decide) (by decide) (by decide) w2
  have m2 := ringMeeting (m := 12) (i := 1) (j := 0) ⟨rb, ra, by decide, by decide, by decide⟩ ra rb (pr_ix1 _ _) (pr_ix0 _ _) (by decide) (by decide) (by decide) (by decide) (by decide) w2
  rw [(n_meet1 h0 h1).1] at m1
  rw [(n_meet1 h0 h1).2] at m2
  have p1 := lplus w2 (frO1 (n := h) (by omega)) (⟨by decide, by decide, by omega⟩ : FrOk h 11) (by decide)
  rw [fr_one, Int.one_mul] at p1
  have l1 := left (a := h * 11 + h * 1) (b := 11) (m := 12) w2 ⟨by decide, by decide, by omega⟩ (by decide) (by decide)
  have inR : gIn true (fr ((h * 11 + h * 1) % (11 * 12)) 11) (.list (R11.map fun k => fr (12 * k) 11)) = some (.bool (true ^^ true)) := by
    refine gIn_mem (fun d hd => by obtain ⟨x, _, rfl⟩ := List.mem_map.mp hd; exact (fr_plain _ _).1) (by have := (fr_plain ((h * 11 + h * 1) % (11 * 12)) 11).2; omega) ?_
    exact List.mem_map.mpr ⟨h % 11, r11' (by omega) (by omega), fr_eq (by decide) (by decide) (by omega)⟩
  have g1 := gapOf (a := (h * 11 + h * 1) % (11 * 12)) (b := 11) ⟨by decide, by decide, by omega⟩ (by omega) (by omega) (by decide) w2
  rw [show fr (11 * ((h * 11 + h * 1) % (11 * 12)) % (12 * 11)) (12 * 11) = fr 0 1 from fr_eq (by decide) (by decide) (by omega), fr_one] at g1
  have o2 := lover w3 (frO1 (n := c) (by omega)) (frO1 (n := 11 * W) (by omega)) (by omega) (by omega)
  rw [fr_one, fr_one, Int.mul_one, Int.one_mul] at o2
  have f2 := lfrac (a := c) (b := R) w3 (by omega) (by omega) (by omega)
  have wg := whenGap c0 c1 (by omega) w3
  have rc1 : RcOk c W 1 := ⟨by omega, by omega, by omega, by decide, by decide⟩
  have rc2 : RcOk 0 R 1 := ⟨by decide, by decide, by omega, by decide, by decide⟩
  have m3 := ringMeeting (m := R) (i := 0) (j := 1) ⟨rc1, rc2, by omega, by omega, by omega⟩ rc1 rc2 (pr_ix0 _ _) (pr_ix1 _ _) (by decide) (by decide) (by decide) (by decide) (by decide) w3
  rw [n_meet2 hW hR c0 c1] at m3
  have told0 : gIx (.list (R11.map fun k => fr ((c + k * R) * 12) (R * 11))) (.int 0) = some (fr c (11 * W)) := by
    rw [← n_first hW hR]
    exact v_gIx0 _ _
  have len11 : (R11.map fun k => fr ((c + k * R) * 12) (R * 11)).length = 11 := by simp [R11]
  have s0 : (sPar 10 11 false false (eA (eCall d__law_draw (eA (eVar 0) (eA (eC (.int 12)) eA0))) (eA (eCall d__law_any (eA (eVar 0) (eA (eLst (eA (eC (.int 1)) (eA (eC (.int 2)) (eA (eC (.int 3)) (eA (eC (.int 4)) eA0))))) eA0))) eA0))) [.sh hnd, .no, .no, .no, .no, .no, .no, .no, .no, .no, .no, .no, .no, .no, .no, .no] w = some (.nx [.sh hnd, .no, .no, .no, .no, .no, .no, .no, .no, .no, .sh (.int h), .sh (.int W), .no, .no, .no, .no], w2) := par_ok (by simp [Eh, EW])
  have s1 : (sSet 1 (eTup (eA (eTup (eA (eVar 10) (eA (eTup (eA (eC (.int 1)) (eA (eC (.int 1)) eA0))) eA0))) (eA (eTup (eA (eC (.int 0)) (eA (eTup (eA (eC (.int 12)) (eA (eC (.int 1)) eA0))) eA0))) eA0)))) [.sh hnd, .no, .no, .no, .no, .no, .no, .no, .no, .no, .sh (.int h), .sh (.int W), .no, .no, .no, .no] w2 = some (.nx [.sh hnd, .sh (.tuple [rc h 1 1, rc 0 12 1]), .no, .no, .no, .no, .no, .no, .no, .no, .sh (.int h), .sh (.int W), .no, .no, .no, .no], w2) := set_ok (by simp [rc, fr_one])
  have s2 : (sSet 2 (eCall d__law_over (eA (eTup (eA (eVar 10) (eA (eC (.int 1)) eA0))) (eA (eTup (eA (eC (.int 11)) (eA (eC (.int 1)) eA0))) eA0)))) [.sh hnd, .sh (.tuple [rc h 1 1, rc 0 12 1]), .no, .no, .no, .no, .no, .no, .no, .no, .sh (.int h), .sh (.int W), .no, .no, .no, .no] w2 = some (.nx [.sh hnd, .sh (.tuple [rc h 1 1, rc 0 12 1]), .sh (fr h 11), .no, .no, .no, .no, .no, .no, .no, .sh (.int h), .sh (.int W), .no, .no, .no, .no], w2) := set_ok (by simp [o1])
  have s3 : (sIf (bOr (bV (e2 gNe (eCall d_ring_meeting (eA (eC (.int 12)) (eA (eVar 1) (eA (eC (.int 0)) (eA (eC (.int 1)) eA0))))) (eVar 2))) (bV (e2 gNe (eCall d_ring_meeting (eA (eC (.int 12)) (eA (eVar 1) (eA (eC (.int 1)) (eA (eC (.int 0)) eA0))))) (eVar 2)))) (sRet (eC (.bool false))) sNext) [.sh hnd, .sh (.tuple [rc h 1 1, rc 0 12 1]), .sh (fr h 11), .no, .no, .no, .no, .no, .no, .no, .sh (.int h), .sh (.int W), .no, .no, .no, .no] w2 = some (.nx [.sh hnd, .sh (.tuple [rc h 1 1, rc 0 12 1]), .sh (fr h 11), .no, .no, .no, .no, .no, .no, .no, .sh (.int h), .sh (.int W), .no, .no, .no, .no], w2) := pass_if (by simp [m1, m2])
  have s4 : (sPar 12 13 false false (eA (eCall d__law_plus (eA (eTup (eA (eVar 10) (eA (eC (.int 1)) eA0))) (eA (eVar 2) eA0))) (eA (e1 gList (eCall d_times_together (eA (eC (.int 0)) (eA (eC (.int 1)) eA0)))) eA0))) [.sh hnd, .sh (.tuple [rc h 1 1, rc 0 12 1]), .sh (fr h 11), .no, .no, .no, .no, .no, .no, .no, .sh (.int h), .sh (.int W), .no, .no, .no, .no] w2 = some (.nx [.sh hnd, .sh (.tuple [rc h 1 1, rc 0 12 1]), .sh (fr h 11), .no, .no, .no, .no, .no, .no, .no, .sh (.int h), .sh (.int W), .sh (fr (h * 11 + h * 1) 11), .sh (.list (R11.map fun k => fr (12 * k) 11)), .no, .no], w2) := par_ok (by simp [p1, timesTogether])
  have z5 := lc_mapN (gs := gSet 15) (ft := bYes) (fe := eCall d__law_frac (eA (e2 gMul (eC (.int 12)) (eVar 15)) (eA (eC (.int 11)) eA0))) (env := [.sh hnd, .sh (.tuple [rc h 1 1, rc 0 12 1]), .sh (fr h 11), .no, .no, .no, .no, .no, .no, .no, .sh (.int h), .sh (.int W), .sh (fr (h * 11 + h * 1) 11), .sh (.list (R11.map fun k => fr (12 * k) 11)), .no, .no]) (w := w2) (g := fun k => fr (12 * k) 11) (xs := R11) (fun x hx => by
    have hx := r11 hx
    have f := lfrac (a := 12 * x) (b := 11) w2 (by decide) (by omega) (by decide)
    exact ⟨_, rfl, rfl, by simp [mu12, f]⟩)
  have y5 := lc_ok (vs := [15]) (fi := iRange1 (eC (.int 11))) (e := [.sh hnd, .sh (.tuple [rc h 1 1, rc 0 12 1]), .sh (fr h 11), .no, .no, .no, .no, .no, .no, .no, .sh (.int h), .sh (.int W), .sh (fr (h * 11 + h * 1) 11), .sh (.list (R11.map fun k => fr (12 * k) 11)), .no, .no]) (v_iRange1 (n := 11) (w' := w2) rfl (by decide)) z5
  have s5 : (sIf (bOr (bV (e2 gNe (eVar 13) (eLc [15] (iRange1 (eC (.int 11))) (gSet 15) bYes (eCall d__law_frac (eA (e2 gMul (eC (.int 12)) (eVar 15)) (eA (eC (.int 11)) eA0)))))) (bV (e2 (gIn true) (eCall d__law_left (eA (eVar 12) (eA (eC (.int 12)) eA0))) (eVar 13)))) (sRet (eC (.bool false))) sNext) [.sh hnd, .sh (.tuple [rc h 1 1, rc 0 12 1]), .sh (fr h 11), .no, .no, .no, .no, .no, .no, .no, .sh (.int h), .sh (.int W), .sh (fr (h * 11 + h * 1) 11), .sh (.list (R11.map fun k => fr (12 * k) 11)), .no, .no] w2 = some (.nx [.sh hnd, .sh (.tuple [rc h 1 1, rc 0 12 1]), .sh (fr h 11), .no, .no, .no, .no, .no, .no, .no, .sh (.int h), .sh (.int W), .sh (fr (h * 11 + h * 1) 11), .sh (.list (R11.map fun k => fr (12 * k) 11)), .no, .no], w2) := pass_if (by
    simp only [v_bOr, v_bV, v_e2, v_eVar0, v_eVarS, b_some, m_some, y5, gNe_same (okFrs R11 (fun k => 12 * k) (fun _ => 11)), v_asB, Bool.false_eq_true, if_false, v_eCall, v_eA, v_eA0, v_eC, l1, inR]
    rfl)
  have s6 : (sIf (bV (e2 gNe (eCall d_gap_of (eA (eCall d__law_left (eA (eVar 12) (eA (eC (.int 12)) eA0))) eA0)) (eTup (eA (eC (.int 0)) (eA (eC (.int 1)) eA0))))) (sRet (eC (.bool false))) sNext) [.sh hnd, .sh (.tuple [rc h 1 1, rc 0 12 1]), .sh (fr h 11), .no, .no, .no, .no, .no, .no, .no, .sh (.int h), .sh (.int W), .sh (fr (h * 11 + h * 1) 11), .sh (.list (R11.map fun k => fr (12 * k) 11)), .no, .no] w2 = some (.nx [.sh hnd, .sh (.tuple [rc h 1 1, rc 0 12 1]), .sh (fr h 11), .no, .no, .no, .no, .no, .no, .no, .sh (.int h), .sh (.int W), .sh (fr (h * 11 + h * 1) 11), .sh (.list (R11.map fun k => fr (12 * k) 11)), .no, .no], w2) := pass_if (by simp only [v_bV, v_e2, v_eCall, v_eA, v_eA0, v_eVar0, v_eVarS, v_eC, v_eTup, b_some, m_some, l1, g1, n01, v_asB])
  have s7 : (sSet 3 (e2 gMul (eC (.int 12)) (eVar 11))) [.sh hnd, .sh (.tuple [rc h 1 1, rc 0 12 1]), .sh (fr h 11), .no, .no, .no, .no, .no, .no, .no, .sh (.int h), .sh (.int W), .sh (fr (h * 11 + h * 1) 11), .sh (.list (R11.map fun k => fr (12 * k) 11)), .no, .no] w2 = some (.nx [.sh hnd, .sh (.tuple [rc h 1 1, rc 0 12 1]), .sh (fr h 11), .sh (.int R), .no, .no, .no, .no, .no, .no, .sh (.int h), .sh (.int W), .sh (fr (h * 11 + h * 1) 11), .sh (.list (R11.map fun k => fr (12 * k) 11)), .no, .no], w2) := set_ok (by simp [muW])
  have s8 : (sSet 4 (eCall d__law_draw (eA (eVar 0) (eA (eVar 3) eA0)))) [.sh hnd, .sh (.tuple [rc h 1 1, rc 0 12 1]), .sh (fr h 11), .sh (.int R), .no, .no, .no, .no, .no, .no, .sh (.int h), .sh (.int W), .sh (fr (h * 11 + h * 1) 11), .sh (.list (R11.map fun k => fr (12 * k) 11)), .no, .no] w2 = some (.nx [.sh hnd, .sh (.tuple [rc h 1 1, rc 0 12 1]), .sh (fr h 11), .sh (.int R), .sh (.int c), .no, .no, .no, .no, .no, .sh (.int h), .sh (.int W), .sh (fr (h * 11 + h * 1) 11), .sh (.list (R11.map fun k => fr (12 * k) 11)), .no, .no], w3) := set_ok (by simp [Ec])
  have s9 : (sSet 1 (eTup (eA (eTup (eA (eVar 4) (eA (eTup (eA (eVar 11) (eA (eC (.int 1)) eA0))) eA0))) (eA (eTup (eA (eC (.int 0)) (eA (eTup (eA (eVar 3) (eA (eC (.int 1)) eA0))) eA0))) eA0)))) [.sh hnd, .sh (.tuple [rc h 1 1, rc 0 12 1]), .sh (fr h 11), .sh (.int R), .sh (.int c), .no, .no, .no, .no, .no, .sh (.int h), .sh (.int W), .sh (fr (h * 11 + h * 1) 11), .sh (.list (R11.map fun k => fr (12 * k) 11)), .no, .no] w3 = some (.nx [.sh hnd, .sh (.tuple [rc c W 1, rc 0 R 1]), .sh (fr h 11), .sh (.int R), .sh (.int c), .no, .no, .no, .no, .no, .sh (.int h), .sh (.int W), .sh (fr (h * 11 + h * 1) 11), .sh (.list (R11.map fun k => fr (12 * k) 11)), .no, .no], w3) := set_ok (by simp [rc, fr_one])
  have s10 : (sAsg (eTup (eA (eCall d__law_over (eA (eTup (eA (eVar 4) (eA (eC (.int 1)) eA0))) (eA (eTup (eA (e2 gMul (eC (.int 11)) (eVar 11)) (eA (eC (.int 1)) eA0))) eA0))) (eA (eCall d__law_frac (eA (eVar 4) (eA (eVar 3) eA0))) eA0))) (gTupD 2 (gsCons (gSet 2) (gsCons (gSet 14) gsNil)))) [.sh hnd, .sh (.tuple [rc c W 1, rc 0 R 1]), .sh (fr h 11), .sh (.int R), .sh (.int c), .no, .no, .no, .no, .no, .sh (.int h), .sh (.int W), .sh (fr (h * 11 + h * 1) 11), .sh (.list (R11.map fun k => fr (12 * k) 11)), .no, .no] w3 = some (.nx [.sh hnd, .sh (.tuple [rc c W 1, rc 0 R 1]), .sh (fr c (11 * W)), .sh (.int R), .sh (.int c), .no, .no, .no, .no, .no, .sh (.int h), .sh (.int W), .sh (fr (h * 11 + h * 1) 11), .sh (.list (R11.map fun k => fr (12 * k) 11)), .sh (fr c R), .no], w3) := asg_ok (d := .tuple [fr c (11 * W), fr c R]) (by simp [mu11, o2, f2]) rfl
  have s11 : (sSet 5 (e1 gList (eCall d_when_gap (eA (eVar 14) eA0)))) [.sh hnd, .sh (.tuple [rc c W 1, rc 0 R 1]), .sh (fr c (11 * W)), .sh (.int R), .sh (.int c), .no, .no, .no, .no, .no, .sh (.int h), .sh (.int W), .sh (fr (h * 11 + h * 1) 11), .sh (.list (R11.map fun k => fr (12 * k) 11)), .sh (fr c R), .no] w3 = some (.nx [.sh hnd, .sh (.tuple [rc c W 1, rc 0 R 1]), .sh (fr c (11 * W)), .sh (.int R), .sh (.int c), .sh (.list (R11.map fun k => fr ((c + k * R) * 12) (R * 11))), .no, .no, .no, .no, .sh (.int h), .sh (.int W), .sh (fr (h * 11 + h * 1) 11), .sh (.list (R11.map fun k => fr (12 * k) 11)), .sh (fr c R), .no], w3) := set_ok (by simp [wg])
  have s12 : (sIf (bOr (bV (e2 gNe (eCall d_ring_meeting (eA (eVar 3) (eA (eVar 1) (eA (eC (.int 0)) (eA (eC (.int 1)) eA0))))) (eVar 2))) (bOr (bV (e2 gNe (e2 gIx (eVar 5) (eC (.int 0))) (eVar 2))) (bV (e2 gNe (e1 gLen (eVar 5)) (eC (.int 11)))))) (sRet (eC (.bool false))) sNext) [.sh hnd, .sh (.tuple [rc c W 1, rc 0 R 1]), .sh (fr c (11 * W)), .sh (.int R), .sh (.int c), .sh (.list (R11.map fun k => fr ((c + k * R) * 12) (R * 11))), .no, .no, .no, .no, .sh (.int h), .sh (.int W), .sh (fr (h * 11 + h * 1) 11), .sh (.list (R11.map fun k => fr (12 * k) 11)), .sh (fr c R), .no] w3 = some (.nx [.sh hnd, .sh (.tuple [rc c W 1, rc 0 R 1]), .sh (fr c (11 * W)), .sh (.int R), .sh (.int c), .sh (.list (R11.map fun k => fr ((c + k * R) * 12) (R * 11))), .no, .no, .no, .no, .sh (.int h), .sh (.int W), .sh (fr (h * 11 + h * 1) 11), .sh (.list (R11.map fun k => fr (12 * k) 11)), .sh (fr c R), .no], w3) := pass_if (by simp [m3, told0, len11])
  have z13 := lc_mapN (gs := gSet 15) (ft := bYes) (fe := eCall d__law_plus (eA (eVar 2) (eA (eCall d__law_frac (eA (e2 gMul (eC (.int 12)) (eVar 15)) (eA (eC (.int 11)) eA0))) eA0))) (env := [.sh hnd, .sh (.tuple [rc c W 1, rc 0 R 1]), .sh (fr c (11 * W)), .sh (.int R), .sh (.int c), .sh (.list (R11.map fun k => fr ((c + k * R) * 12) (R * 11))), .no, .no, .no, .no, .sh (.int h), .sh (.int W), .sh (fr (h * 11 + h * 1) 11), .sh (.list (R11.map fun k => fr (12 * k) 11)), .sh (fr c R), .no]) (w := w3) (g := fun k => fr ((c + k * R) * 12) (R * 11)) (xs := R11) (fun x hx => by
    have hx := r11 hx
    have f := lfrac (a := 12 * x) (b := 11) w3 (by decide) (by omega) (by decide)
    have p := lplus w3 (⟨by omega, by omega, by omega⟩ : FrOk c (11 * W)) (⟨by decide, by decide, by omega⟩ : FrOk (12 * x) 11) (by omega)
    rw [← n_told hW hR] at p
    exact ⟨_, rfl, rfl, by simp [mu12, f, p]⟩)
  have y13 := lc_ok (vs := [15]) (fi := iRange1 (eC (.int 11))) (e := [.sh hnd, .sh (.tuple [rc c W 1, rc 0 R 1]), .sh (fr c (11 * W)), .sh (.int R), .sh (.int c), .sh (.list (R11.map fun k => fr ((c + k * R) * 12) (R * 11))), .no, .no, .no, .no, .sh (.int h), .sh (.int W), .sh (fr (h * 11 + h * 1) 11), .sh (.list (R11.map fun k => fr (12 * k) 11)), .sh (fr c R), .no]) (v_iRange1 (n := 11) (w' := w3) rfl (by decide)) z13
  have s13 : (sIf (bV (e2 gNe (eVar 5) (eLc [15] (iRange1 (eC (.int 11))) (gSet 15) bYes (eCall d__law_plus (eA (eVar 2) (eA (eCall d__law_frac (eA (e2 gMul (eC (.int 12)) (eVar 15)) (eA (eC (.int 11)) eA0))) eA0)))))) (sRet (eC (.bool false))) sNext) [.sh hnd, .sh (.tuple [rc c W 1, rc 0 R 1]), .sh (fr c (11 * W)), .sh (.int R), .sh (.int c), .sh (.list (R11.map fun k => fr ((c + k * R) * 12) (R * 11))), .no, .no, .no, .no, .sh (.int h), .sh (.int W), .sh (fr (h * 11 + h * 1) 11), .sh (.list (R11.map fun k => fr (12 * k) 11)), .sh (fr c R), .no] w3 = some (.nx [.sh hnd, .sh (.tuple [rc c W 1, rc 0 R 1]), .sh (fr c (11 * W)), .sh (.int R), .sh (.int c), .sh (.list (R11.map fun k => fr ((c + k * R) * 12) (R * 11))), .no, .no, .no, .no, .sh (.int h), .sh (.int W), .sh (fr (h * 11 + h * 1) 11), .sh (.list (R11.map fun k => fr (12 * k) 11)), .sh (fr c R), .no], w3) := pass_if (by
    simp only [v_bV, v_e2, v_eVar0, v_eVarS, b_some, m_some, y13, gNe_same (okFrs R11 (fun k => (c + k * R) * 12) (fun _ => R * 11)), v_asB])
  obtain ⟨o, w4, mo, Eo, k4⟩ := any (xs := R11.map fun k => fr ((c + k * R) * 12) (R * 11)) k3 (by simp [R11]) (by simp [R11])
  obtain ⟨k, hk, rfl⟩ := List.mem_map.mp mo
  have hk := r11 hk
  obtain ⟨a, ha⟩ : ∃ a, a = (c + k * R) * 12 := ⟨_, rfl⟩
  obtain ⟨b, hb⟩ : ∃ b, b = R * 11 := ⟨_, rfl⟩
  have kR := Int.mul_nonneg hk.1 (show 0 ≤ R by omega)
  have kR2 := Int.mul_le_mul (show k ≤ 10 by omega) (show R ≤ R by omega) (by omega) (by omega)
  have fo : FrOk a b := ⟨by omega, by omega, by omega⟩
  have g2 := gapOf fo (by omega) (by omega) (by omega) w4
  rw [n_gap hW hR c0 c1 ha hb] at g2
  have rA := racerAt rc1 rc2 rc1 (pr_ix0 _ _) (by decide) (by decide) fo (by omega) (by omega) (by omega) w4
  have rB := racerAt rc1 rc2 rc2 (pr_ix1 _ _) (by decide) (by decide) fo (by omega) (by omega) (by omega) w4
  have Wa := mul_abs (x := W) (y := a) (A := 4) (B := 10000) (by omega) (by omega)
  have Ra := mul_abs (x := R) (y := a) (A := 48) (B := 10000) (by omega) (by omega)
  have cb := mul_abs (x := c) (y := b) (A := 48) (B := 528) (by omega) (by omega)
  have bR := Int.mul_le_mul (show b ≤ 528 by omega) (show R ≤ 48 by omega) (by omega) (by omega)
  have bR0 := Int.mul_pos (show 0 < b by omega) (show 0 < R by omega)
  have ob : (1 : Int) * b = b := Int.one_mul b
  have fA : FrOk (c * (1 * b) + W * a) (1 * b) := by rw [ob]; exact ⟨by omega, by omega, by omega⟩
  have fB : FrOk (0 * (1 * b) + R * a) (1 * b) := by rw [ob]; exact ⟨by omega, by omega, by omega⟩
  have lA := left (m := R) w4 fA (by omega) (by rw [ob]; omega)
  have lB := left (m := R) w4 fB (by omega) (by rw [ob]; omega)
  rw [n_spots hW hR ha hb] at lA
  have mB0 := Int.emod_nonneg (0 * (1 * b) + R * a) (show 1 * b * R ≠ 0 by rw [ob]; omega)
  have mB1 := Int.emod_lt_of_pos (0 * (1 * b) + R * a) (show 0 < 1 * b * R by rw [ob]; exact bR0)
  rw [ob] at mB0 mB1
  have oP := lover w4 (by rw [ob]; exact ⟨by omega, by omega, by omega⟩ : FrOk ((0 * (1 * b) + R * a) % (1 * b * R)) (1 * b)) (frO1 (n := R) (by omega)) (by omega) (by rw [ob, show ((R.natAbs : Nat) : Int) = R by omega]; omega)
  rw [← n_place hW hR ha hb, fr_one] at oP
  have mS := lminus w4 fA (frO1 (n := c) (by omega)) (by rw [ob]; omega)
  rw [fr_one] at mS
  have fS : FrOk ((c * (1 * b) + W * a) * 1 - c * (1 * b)) (1 * b * 1) := by rw [ob]; exact ⟨by omega, by omega, by omega⟩
  have lS := left (m := R) w4 fS (by omega) (by rw [ob, Int.mul_one]; omega)
  have mS0 := Int.emod_nonneg ((c * (1 * b) + W * a) * 1 - c * (1 * b)) (show 1 * b * 1 * R ≠ 0 by rw [ob, Int.mul_one]; omega)
  have mS1 := Int.emod_lt_of_pos ((c * (1 * b) + W * a) * 1 - c * (1 * b)) (show 0 < 1 * b * 1 * R by rw [ob, Int.mul_one]; exact bR0)
  have oB := lover w4 (⟨by rw [ob]; omega, by rw [ob]; omega, by rw [ob, Int.mul_one b] at mS0 mS1 ⊢; omega⟩ : FrOk (((c * (1 * b) + W * a) * 1 - c * (1 * b)) % (1 * b * 1 * R)) (1 * b * 1)) (frO1 (n := R) (by omega)) (by omega) (by rw [ob, show ((R.natAbs : Nat) : Int) = R by omega, Int.mul_one]; omega)
  rw [← n_before hW hR ha hb, fr_one] at oB
  have mp := minutePlace fo (by omega) (by omega) (by omega) w4
  have hp := hourPlace fo (by omega) (by omega) (by omega) w4
  have Eo' : d__law_any [hnd, .list (R11.map fun k => fr ((c + k * R) * 12) (R * 11))] w3 = some (fr a b, w4) := by rw [ha, hb]; exact Eo
  generalize fr (c * (1 * b) + W * a) (1 * b) = S0 at rA lA mS
  generalize fr (0 * (1 * b) + R * a) (1 * b) = S1 at rB lB
  have nL := gNe_fr ((0 * (1 * b) + R * a) % (1 * b * R)) (1 * b)
  generalize fr ((0 * (1 * b) + R * a) % (1 * b * R)) (1 * b) = L at lA lB oP nL
  generalize fr ((c * (1 * b) + W * a) * 1 - c * (1 * b)) (1 * b * 1) = M at mS lS
  generalize fr (((c * (1 * b) + W * a) * 1 - c * (1 * b)) % (1 * b * 1 * R)) (1 * b * 1) = N at lS oB
  have s14 : (sSet 6 (eCall d__law_any (eA (eVar 0) (eA (eVar 5) eA0)))) [.sh hnd, .sh (.tuple [rc c W 1, rc 0 R 1]), .sh (fr c (11 * W)), .sh (.int R), .sh (.int c), .sh (.list (R11.map fun k => fr ((c + k * R) * 12) (R * 11))), .no, .no, .no, .no, .sh (.int h), .sh (.int W), .sh (fr (h * 11 + h * 1) 11), .sh (.list (R11.map fun k => fr (12 * k) 11)), .sh (fr c R), .no] w3 = some (.nx [.sh hnd, .sh (.tuple [rc c W 1, rc 0 R 1]), .sh (fr c (11 * W)), .sh (.int R), .sh (.int c), .sh (.list (R11.map fun k => fr ((c + k * R) * 12) (R * 11))), .sh (fr a b), .no, .no, .no, .sh (.int h), .sh (.int W), .sh (fr (h * 11 + h * 1) 11), .sh (.list (R11.map fun k => fr (12 * k) 11)), .sh (fr c R), .no], w4) := set_ok (by simp [Eo'])
  have s15 : (sIf (bV (e2 gNe (eCall d_gap_of (eA (eVar 6) eA0)) (eVar 14))) (sRet (eC (.bool false))) sNext) [.sh hnd, .sh (.tuple [rc c W 1, rc 0 R 1]), .sh (fr c (11 * W)), .sh (.int R), .sh (.int c), .sh (.list (R11.map fun k => fr ((c + k * R) * 12) (R * 11))), .sh (fr a b), .no, .no, .no, .sh (.int h), .sh (.int W), .sh (fr (h * 11 + h * 1) 11), .sh (.list (R11.map fun k => fr (12 * k) 11)), .sh (fr c R), .no] w4 = some (.nx [.sh hnd, .sh (.tuple [rc c W 1, rc 0 R 1]), .sh (fr c (11 * W)), .sh (.int R), .sh (.int c), .sh (.list (R11.map fun k => fr ((c + k * R) * 12) (R * 11))), .sh (fr a b), .no, .no, .no, .sh (.int h), .sh (.int W), .sh (fr (h * 11 + h * 1) 11), .sh (.list (R11.map fun k => fr (12 * k) 11)), .sh (fr c R), .no], w4) := pass_if (by simp [g2])
  have z16 : lcD (gSet 15) bYes (eCall d_racer_at (eA (eVar 1) (eA (eVar 15) (eA (eVar 6) eA0)))) [.sh hnd, .sh (.tuple [rc c W 1, rc 0 R 1]), .sh (fr c (11 * W)), .sh (.int R), .sh (.int c), .sh (.list (R11.map fun k => fr ((c + k * R) * 12) (R * 11))), .sh (fr a b), .no, .no, .no, .sh (.int h), .sh (.int W), .sh (fr (h * 11 + h * 1) 11), .sh (.list (R11.map fun k => fr (12 * k) 11)), .sh (fr c R), .no] [.int 0, .int 1] w4 = some ([S0, S1], w4) := by simp [lcD, rA, rB]
  have s16 : (sSet 7 (eLc [15] (iItems (eTup (eA (eC (.int 0)) (eA (eC (.int 1)) eA0)))) (gSet 15) bYes (eCall d_racer_at (eA (eVar 1) (eA (eVar 15) (eA (eVar 6) eA0)))))) [.sh hnd, .sh (.tuple [rc c W 1, rc 0 R 1]), .sh (fr c (11 * W)), .sh (.int R), .sh (.int c), .sh (.list (R11.map fun k => fr ((c + k * R) * 12) (R * 11))), .sh (fr a b), .no, .no, .no, .sh (.int h), .sh (.int W), .sh (fr (h * 11 + h * 1) 11), .sh (.list (R11.map fun k => fr (12 * k) 11)), .sh (fr c R), .no] w4 = some (.nx [.sh hnd, .sh (.tuple [rc c W 1, rc 0 R 1]), .sh (fr c (11 * W)), .sh (.int R), .sh (.int c), .sh (.list (R11.map fun k => fr ((c + k * R) * 12) (R * 11))), .sh (fr a b), .sh (.list [S0, S1]), .no, .no, .sh (.int h), .sh (.int W), .sh (fr (h * 11 + h * 1) 11), .sh (.list (R11.map fun k => fr (12 * k) 11)), .sh (fr c R), .no], w4) := set_ok (lc_ok (by simp) z16)
  have s17 : (sIf (bV (e2 gNe (eCall d__law_left (eA (e2 gIx (eVar 7) (eC (.int 0))) (eA (eVar 3) eA0))) (eCall d__law_left (eA (e2 gIx (eVar 7) (eC (.int 1))) (eA (eVar 3) eA0))))) (sRet (eC (.bool false))) sNext) [.sh hnd, .sh (.tuple [rc c W 1, rc 0 R 1]), .sh (fr c (11 * W)), .sh (.int R), .sh (.int c), .sh (.list (R11.map fun k => fr ((c + k * R) * 12) (R * 11))), .sh (fr a b), .sh (.list [S0, S1]), .no, .no, .sh (.int h), .sh (.int W), .sh (fr (h * 11 + h * 1) 11), .sh (.list (R11.map fun k => fr (12 * k) 11)), .sh (fr c R), .no] w4 = some (.nx [.sh hnd, .sh (.tuple [rc c W 1, rc 0 R 1]), .sh (fr c (11 * W)), .sh (.int R), .sh (.int c), .sh (.list (R11.map fun k => fr ((c + k * R) * 12) (R * 11))), .sh (fr a b), .sh (.list [S0, S1]), .no, .no, .sh (.int h), .sh (.int W), .sh (fr (h * 11 + h * 1) 11), .sh (.list (R11.map fun k => fr (12 * k) 11)), .sh (fr c R), .no], w4) := pass_if (by simp [lA, lB, nL])
  have s18 : (sSet 8 (eCall d__law_over (eA (eCall d__law_left (eA (e2 gIx (eVar 7) (eC (.int 1))) (eA (eVar 3) eA0))) (eA (eTup (eA (eVar 3) (eA (eC (.int 1)) eA0))) eA0)))) [.sh hnd, .sh (.tuple [rc c W 1, rc 0 R 1]), .sh (fr c (11 * W)), .sh (.int R), .sh (.int c), .sh (.list (R11.map fun k => fr ((c + k * R) * 12) (R * 11))), .sh (fr a b), .sh (.list [S0, S1]), .no, .no, .sh (.int h), .sh (.int W), .sh (fr (h * 11 + h * 1) 11), .sh (.list (R11.map fun k => fr (12 * k) 11)), .sh (fr c R), .no] w4 = some (.nx [.sh hnd, .sh (.tuple [rc c W 1, rc 0 R 1]), .sh (fr c (11 * W)), .sh (.int R), .sh (.int c), .sh (.list (R11.map fun k => fr ((c + k * R) * 12) (R * 11))), .sh (fr a b), .sh (.list [S0, S1]), .sh (fr (a * 12 % (b * 12)) (b * 12)), .no, .sh (.int h), .sh (.int W), .sh (fr (h * 11 + h * 1) 11), .sh (.list (R11.map fun k => fr (12 * k) 11)), .sh (fr c R), .no], w4) := set_ok (by simp [lB, oP])
  have s19 : (sSet 9 (eCall d__law_over (eA (eCall d__law_left (eA (eCall d__law_minus (eA (e2 gIx (eVar 7) (eC (.int 0))) (eA (eTup (eA (eVar 4) (eA (eC (.int 1)) eA0))) eA0))) (eA (eVar 3) eA0))) (eA (eTup (eA (eVar 3) (eA (eC (.int 1)) eA0))) eA0)))) [.sh hnd, .sh (.tuple [rc c W 1, rc 0 R 1]), .sh (fr c (11 * W)), .sh (.int R), .sh (.int c), .sh (.list (R11.map fun k => fr ((c + k * R) * 12) (R * 11))), .sh (fr a b), .sh (.list [S0, S1]), .sh (fr (a * 12 % (b * 12)) (b * 12)), .no, .sh (.int h), .sh (.int W), .sh (fr (h * 11 + h * 1) 11), .sh (.list (R11.map fun k => fr (12 * k) 11)), .sh (fr c R), .no] w4 = some (.nx [.sh hnd, .sh (.tuple [rc c W 1, rc 0 R 1]), .sh (fr c (11 * W)), .sh (.int R), .sh (.int c), .sh (.list (R11.map fun k => fr ((c + k * R) * 12) (R * 11))), .sh (fr a b), .sh (.list [S0, S1]), .sh (fr (a * 12 % (b * 12)) (b * 12)), .sh (fr (a * 1 % (b * 12)) (b * 12)), .sh (.int h), .sh (.int W), .sh (fr (h * 11 + h * 1) 11), .sh (.list (R11.map fun k => fr (12 * k) 11)), .sh (fr c R), .no], w4) := set_ok (by simp only [v_eCall, v_eA, v_eA0, v_e2, v_eTup, v_eVar0, v_eVarS, v_eC, b_some, m_some, ls_ix0, mS, lS, oB])
  exact ⟨w4, fnD_rt (seq_nx s0 (seq_nx s1 (seq_nx s2 (seq_nx s3 (seq_nx s4 (seq_nx s5 (seq_nx s6 (seq_nx s7 (seq_nx s8 (seq_nx s9 (seq_nx s10 (seq_nx s11 (seq_nx s12 (seq_nx s13 (seq_nx s14 (seq_nx s15 (seq_nx s16 (seq_nx s17 (seq_nx s18 (seq_nx s19 (ret_ok (by simp [mp, hp])))))))))))))))))))))), k4⟩
theorem fr020 : PyData.tuple [.int 0, .int 1] = fr 0 20 := by
  rw [← fr_one]
  exact fr_eq (by decide) (by decide) (by decide)
theorem lag {w : W} (hw : WOk w) : ∃ l w', d__law_lag [hnd] w = some (.int l, w') ∧ 1 ≤ l.natAbs ∧ l.natAbs ≤ 50 ∧ WOk w' := by
  obtain ⟨s, w1, ms, Es, k1⟩ := anyI (xs := [1, -1]) hw (by simp) (by simp)
  obtain ⟨r, w2, Er, r0, r1, k2⟩ := draw (m := 50) k1 (by decide) (by decide)
  simp only [List.mem_cons, List.not_mem_nil, or_false] at ms
  simp only [List.map_cons, List.map_nil] at Es
  have mu := v_gMul (i := s) (j := 1 + r) (mulOk_l (small_of (by omega) (by omega)))
  refine ⟨s * (1 + r), w2, fnD_rt (ret_ok ?_), ?_, ?_, k2⟩
  · simp [Es, Er, mu]
  · rcases ms with rfl | rfl <;> omega
  · rcases ms with rfl | rfl <;> omega
set_option maxHeartbeats 4000000 in
theorem lags {w : W} (hw : WOk w) : ∃ w', d__law_are_lags_right [hnd] w = some (.bool true, w') ∧ WOk w' := by
  obtain ⟨x, w1, E1, x0, x1, k1⟩ := lag hw
  obtain ⟨l1, w2, E2, l10, l11, k2⟩ := lag k1
  obtain ⟨l2, w3, E3, l20, l21, k3⟩ := lag k2
  obtain ⟨y, w5, my, E4, k5⟩ := anyI (xs := [l1, l2, 0]) k3 (by simp) (by simp)
  simp only [List.mem_cons, List.not_mem_nil, or_false] at my
  have y1 : y.natAbs ≤ 50 := by omega
  simp only [List.map_cons, List.map_nil] at E4
  have f1 := lfrac (a := x) (b := 20) w5 (by decide) (by omega) (by decide)
  have f2 := lfrac (a := y) (b := 20) w5 (by decide) (by omega) (by decide)
  have rx : RcOk 0 x 20 := ⟨by decide, by decide, x1, by decide, by decide⟩
  have ry : RcOk 0 y 20 := ⟨by decide, by decide, y1, by decide, by decide⟩
  have pw : gPow (.int 10) (.int 6) = some (.int 1000000) := by
    have a : powOk 10 6 = true := by decide
    simp only [gInt2, a, if_true]
    rfl
  obtain ⟨r6, w6, D1, r60, r61, k6⟩ := draw (m := 1000000) k5 (by decide) (by decide)
  obtain ⟨r7, w7, D2, r70, r71, k7⟩ := draw (m := 400) k6 (by decide) (by decide)
  obtain ⟨d, w8, md, D3, k8⟩ := anyI (xs := [0, 1, 1000000, r6, r7]) k7 (by simp) (by simp)
  simp only [List.mem_cons, List.not_mem_nil, or_false] at md
  simp only [List.map_cons, List.map_nil] at D3
  have d0 : 0 ≤ d := by omega
  have d1 : d ≤ 1000000 := by omega
  have m6 := fun j : Int => v_gMul (i := (6 : Int)) (j := j) (mulOk_l (by decide))
  have chk : ∀ l : Int, l.natAbs ≤ 50 → d_check_lag [.int (6 * l)] w8 = some (.none, w8) := by
    intro l hl
    have q : (if 6 * l < 0 then -(6 * l) else 6 * l) < 43200 := by omega
    simp [d_check_lag, y_check_lag, fnD, isInteger, q]
  obtain ⟨due, okdue, hdue, hd2, ag1, ag2⟩ : ∃ due : D, okR due = true ∧ (∀ e : DL.Env, eVar 8 e w8 = some (.int x, w8) → eVar 9 e w8 = some (.int y, w8) →
      eIf (bV (e2 gEq (eVar 8) (eVar 9))) (eC .none) (eCall d__law_over (eA (eTup (eA (eC (.int 7200)) (eA (eC (.int 1)) eA0))) (eA (eTup (eA (e1 gAbs (e2 gSub (eVar 8) (eVar 9))) (eA (eC (.int 1)) eA0))) eA0))) e w8 = some (due, w8)) ∧
      (x ≠ y → due = fr 7200 ((x - y).natAbs : Int)) ∧ d_agree_again [.int (6 * x), .int (6 * y)] w8 = some (due, w8) ∧ d_agree_again [.int (6 * y), .int (6 * x)] w8 = some (due, w8) := by
    by_cases e : x = y
    · subst e
      refine ⟨.none, okR_n, fun e h1 h2 => ?_, fun h => absurd rfl h, ?_, ?_⟩
      · simp only [v_eIf, v_bV, v_e2, h1, h2, b_some, m_some, v_gEqI, v_asB, decide_true, if_true, v_eC]
      · exact fnD_rt (seq_nx (e' := [.sh (.int (6 * x)), .sh (.int (6 * x))]) (w' := w8) (by simp [chk x x1]) (seq_nx (e' := [.sh (.int (6 * x)), .sh (.int (6 * x))]) (w' := w8) (by simp [chk x x1]) (ret_ok (by simp))))
      · exact fnD_rt (seq_nx (e' := [.sh (.int (6 * x)), .sh (.int (6 * x))]) (w' := w8) (by simp [chk x x1]) (seq_nx (e' := [.sh (.int (6 * x)), .sh (.int (6 * x))]) (w' := w8) (by simp [chk x x1]) (ret_ok (by simp))))
    · have o := lover w8 (frO1 (n := 7200) (by decide)) (frO1 (n := ((x - y).natAbs : Int)) (by omega)) (by omega) (by omega)
      rw [fr_one, fr_one, Int.mul_one, Int.one_mul] at o
      have n1 : ¬ (6 * x = 6 * y) := by omega
      have n2 : ¬ (6 * y = 6 * x) := by omega
      have g1 := fraction (a := 43200) (b := ((6 * x - 6 * y).natAbs : Int)) w8 (by omega) (by omega)
      have g2 := fraction (a := 43200) (b := ((6 * y - 6 * x).natAbs : Int)) w8 (by omega) (by omega)
      rw [show fr 43200 ((6 * x - 6 * y).natAbs : Int) = fr 7200 ((x - y).natAbs : Int) from fr_eq (by omega) (by omega) (by omega)] at g1
      rw [show fr 43200 ((6 * y - 6 * x).natAbs : Int) = fr 7200 ((x - y).natAbs : Int) from fr_eq (by omega) (by omega) (by omega)] at g2
      refine ⟨fr 7200 ((x - y).natAbs : Int), okR_fr ⟨by omega, by omega, by decide⟩, fun e' h1 h2 => ?_, fun _ => rfl, ?_, ?_⟩
      · simp only [v_eIf, v_bV, v_e2, v_e1, h1, h2, b_some, m_some, v_gEqI, v_asB, e, decide_false, Bool.false_eq_true, if_false, v_eCall, v_eA, v_eA0, v_eTup, v_eC, v_gSub, v_gAbs, abs_nat, o]
      · refine fnD_rt (seq_nx (e' := [.sh (.int (6 * x)), .sh (.int (6 * y))]) (w' := w8) (by simp [chk x x1]) (seq_nx (e' := [.sh (.int (6 * x)), .sh (.int (6 * y))]) (w' := w8) (by simp [chk y y1]) (ret_ok ?_)))
        simp only [v_eIf, v_bV, v_e2, v_e1, v_eVar0, v_eVarS, b_some, m_some, v_gNeI, v_asB, n1, decide_false, Bool.not_false, if_true, v_eCall, v_eA, v_eA0, v_eC, v_gSub, v_gAbs, abs_nat, g1]
      · refine fnD_rt (seq_nx (e' := [.sh (.int (6 * y)), .sh (.int (6 * x))]) (w' := w8) (by simp [chk y y1]) (seq_nx (e' := [.sh (.int (6 * y)), .sh (.int (6 * x))]) (w' := w8) (by simp [chk x x1]) (ret_ok ?_)))
        simp only [v_eIf, v_bV, v_e2, v_e1, v_eVar0, v_eVarS, b_some, m_some, v_gNeI, v_asB, n2, decide_false, Bool.not_false, if_true, v_eCall, v_eA, v_eA0, v_eC, v_gSub, v_gAbs, abs_nat, g2]
  have right : d_right_again [.int (6 * x)] w8 = some (fr 7200 (x.natAbs : Int), w8) := by
    have g1 := fraction (a := 43200) (b := ((6 * x).natAbs : Int)) w8 (by omega) (by omega)
    rw [show fr 43200 ((6 * x).natAbs : Int) = fr 7200 (x.natAbs : Int) from fr_eq (by omega) (by omega) (by omega)] at g1
    have n1 : ¬ (6 * x = 0) := by omega
    refine fnD_rt (seq_nx (e' := [.sh (.int (6 * x))]) (w' := w8) (by simp [chk x x1]) (ret_ok ?_))
    simp only [v_eIf, v_bV, v_e2, v_e1, v_eVar0, v_eC, b_some, m_some, v_gNeI, v_asB, n1, decide_false, Bool.not_false, if_true, v_eCall, v_eA, v_eA0, v_gAbs, abs_nat, g1]
  have l7 := lfrac (a := 7200) (b := (x.natAbs : Int)) w8 (by omega) (by decide) (by omega)
  have s0 : (sPar 8 9 false false (eA (eCall d__law_lag (eA (eVar 0) eA0)) (eA (eCall d__law_any (eA (eVar 0) (eA (eLst (eA (eCall d__law_lag (eA (eVar 0) eA0)) (eA (eCall d__law_lag (eA (eVar 0) eA0)) (eA (eC (.int 0)) eA0)))) eA0))) eA0))) [.sh hnd, .no, .no, .no, .no, .no, .no, .no, .no, .no, .no, .no, .no, .no, .no, .no] w = some (.nx [.sh hnd, .no, .no, .no, .no, .no, .no, .no, .sh (.int x), .sh (.int y), .no, .no, .no, .no, .no, .no], w5) := par_ok (by simp [E1, E2, E3, E4])
  have s1 : (sSet 1 (eLst (eA (eCall d__law_frac (eA (eVar 8) (eA (eC (.int 20)) eA0))) (eA (eIf (bV (e2 gNe (eVar 9) (eC (.int 0)))) (eCall d__law_frac (eA (eVar 9) (eA (eC (.int 20)) eA0))) (eTup (eA (eC (.int 0)) (eA (eC (.int 1)) eA0)))) eA0)))) [.sh hnd, .no, .no, .no, .no, .no, .no, .no, .sh (.int x), .sh (.int y), .no, .no, .no, .no, .no, .no] w5 = some (.nx [.sh hnd, .sh (.list [fr x 20, fr y 20]), .no, .no, .no, .no, .no, .no, .sh (.int x), .sh (.int y), .no, .no, .no, .no, .no, .no], w5) := set_ok (by
    by_cases z : y = 0
    · simp [z, f1, fr020]
    · simp [z, f1, f2])
  have s2 : (sSet 2 (eTup (eA (eTup (eA (eC (.int 0)) (eA (e2 gIx (eVar 1) (eC (.int 0))) eA0))) (eA (eTup (eA (eC (.int 0)) (eA (e2 gIx (eVar 1) (eC (.int 1))) eA0))) eA0)))) [.sh hnd, .sh (.list [fr x 20, fr y 20]), .no, .no, .no, .no, .no, .no, .sh (.int x), .sh (.int y), .no, .no, .no, .no, .no, .no] w5 = some (.nx [.sh hnd, .sh (.list [fr x 20, fr y 20]), .sh (.tuple [rc 0 x 20, rc 0 y 20]), .no, .no, .no, .no, .no, .sh (.int x), .sh (.int y), .no, .no, .no, .no, .no, .no], w5) := set_ok (by simp [rc])
  have s3 : (sSet 3 (eCall d__law_any (eA (eVar 0) (eA (eLst (eA (eC (.int 0)) (eA (eC (.int 1)) (eA (e2 gPow (eC (.int 10)) (eC (.int 6))) (eA (eCall d__law_draw (eA (eVar 0) (eA (e2 gPow (eC (.int 10)) (eC (.int 6))) eA0))) (eA (eCall d__law_draw (eA (eVar 0) (eA (eC (.int 400)) eA0))) eA0)))))) eA0)))) [.sh hnd, .sh (.list [fr x 20, fr y 20]), .sh (.tuple [rc 0 x 20, rc 0 y 20]), .no, .no, .no, .no, .no, .sh (.int x), .sh (.int y), .no, .no, .no, .no, .no, .no] w5 = some (.nx [.sh hnd, .sh (.list [fr x 20, fr y 20]), .sh (.tuple [rc 0 x 20, rc 0 y 20]), .sh (.int d), .no, .no, .no, .no, .sh (.int x), .sh (.int y), .no, .no, .no, .no, .no, .no], w8) := set_ok (by simp [pw, D1, D2, D3])
  have one : ∀ (i l : Int) (s1 s2 s3 s4 : DL.Slot), (i = 0 ∧ l = x) ∨ (i = 1 ∧ l = y) → (sSeq (sSet 12 (eCall d_racer_at (eA (eVar 2) (eA (eVar 10) (eA (eTup (eA (eVar 3) (eA (eC (.int 1)) eA0))) eA0))))) (sSeq (sIf (bV (e2 gNe (eVar 12) (eCall d__law_times (eA (e2 gIx (eVar 1) (eVar 10)) (eA (eTup (eA (eVar 3) (eA (eC (.int 1)) eA0))) eA0))))) (sRet (eC (.bool false))) sNext) (sSeq (sSet 13 (e2 gMod (e1 gToInt (e2 gMul (e2 gMul (eC (.int 6)) (eVar 11)) (eVar 3))) (eC (.int 43200)))) (sSeq (sIf (bV (e2 gNe (eCall d_shown (eA (e2 gMul (eC (.int 6)) (eVar 11)) (eA (eVar 3) eA0))) (eCall d__law_frac (eA (eVar 13) (eA (eC (.int 3600)) eA0))))) (sRet (eC (.bool false))) sNext) (sIf (bV (e2 gNe (eCall d__law_over (eA (eCall d__law_left (eA (eVar 12) (eA (eC (.int 360)) eA0))) (eA (eTup (eA (eC (.int 30)) (eA (eC (.int 1)) eA0))) eA0))) (eCall d__law_frac (eA (eVar 13) (eA (eC (.int 3600)) eA0))))) (sRet (eC (.bool false))) sNext))))) [.sh hnd, .sh (.list [fr x 20, fr y 20]), .sh (.tuple [rc 0 x 20, rc 0 y 20]), .sh (.int d), .no, .no, .no, .no, .sh (.int x), .sh (.int y), .sh (.int i), .sh (.int l), s3, s4, .no, .no] w8 =
      some (.nx [.sh hnd, .sh (.list [fr x 20, fr y 20]), .sh (.tuple [rc 0 x 20, rc 0 y 20]), .sh (.int d), .no, .no, .no, .no, .sh (.int x), .sh (.int y), .sh (.int i), .sh (.int l), .sh (fr (l * d) 20), .sh (.int ((6 * (l * d)).fmod 43200)), .no, .no], w8) := by
    intro i l s1 s2 s3 s4 hil
    have hl : l.natAbs ≤ 50 := by omega
    have ok : RcOk 0 l 20 := ⟨by decide, by decide, hl, by decide, by decide⟩
    have hi : gIx (.tuple [rc 0 x 20, rc 0 y 20]) (.int i) = some (rc 0 l 20) := by
      rcases hil with ⟨rfl, rfl⟩ | ⟨rfl, rfl⟩
      · exact pr_ix0 _ _
      · exact pr_ix1 _ _
    have hs : gIx (.list [fr x 20, fr y 20]) (.int i) = some (fr l 20) := by
      rcases hil with ⟨rfl, rfl⟩ | ⟨rfl, rfl⟩
      · exact ls_ix0 _ _
      · exact ls_ix1 _ _
    have fd : FrOk d 1 := frO1 (by omega)
    have fl : FrOk l 20 := ⟨by decide, by decide, by omega⟩
    have ra := racerAt rx ry ok hi (by omega) (by omega) fd (by omega) (by omega) (by decide) w8
    have ld := mul_abs (x := l) (y := d) (A := 50) (B := 1000000) hl (by omega)
    rw [show fr (0 * (20 * 1) + l * d) (20 * 1) = fr (l * d) 20 from fr_eq (by decide) (by decide) (by omega), fr_one] at ra
    have lt := ltimes w8 fl fd (by decide)
    rw [fr_one] at lt
    generalize hz : l * d = z at ra lt ld
    have m6 : gMul (.int 6) (.int l) = some (.int (6 * l)) := v_gMul (mulOk_l (by decide))
    have m7 : gMul (.int (6 * l)) (.int d) = some (.int (6 * z)) := by
      rw [v_gMul (mulOk_l (small_abs (by omega))), Int.mul_assoc, hz]
    have mo := v_gMod (i := 6 * z) (j := 43200) (by decide)
    have ff := fmod_in (i := 6 * z) (j := 43200) (by decide)
    have fe : (6 * z).fmod 43200 = 6 * z % 43200 := Int.fmod_eq_emod_of_nonneg _ (by decide)
    have sh : d_shown [.int (6 * l), .int d] w8 = some (fr ((6 * z).fmod 43200) 3600, w8) := by
      have a1 := abs_nat (6 * l)
      have c1 : d_check_lag [.int (6 * l)] w8 = some (.none, w8) := by
        have q : (if 6 * l < 0 then -(6 * l) else 6 * l) < 43200 := by omega
        simp [d_check_lag, y_check_lag, fnD, isInteger, q]
      have c2 := isWithin d 0 1000000 w8
      have f3 := fraction (a := (6 * z).fmod 43200) (b := 3600) w8 (by decide) (by decide)
      refine fnD_rt (seq_nx (e' := [.sh (.int (6 * l)), .sh (.int d)]) (w' := w8) (by simp [c1]) (seq_nx (pass_if (w' := w8) (by simp [c2, d0, d1])) (ret_ok ?_)))
      simp [m7, mo, f3]
    have lf := lfrac (a := (6 * z).fmod 43200) (b := 3600) w8 (by decide) (by omega) (by decide)
    have le := left (a := z) (b := 20) (m := 360) w8 ⟨by decide, by decide, by omega⟩ (by decide) (by decide)
    have lo := lover w8 (⟨by decide, by decide, by omega⟩ : FrOk (z % (20 * 360)) 20) (frO1 (n := 30) (by decide)) (by decide) (by decide)
    rw [fr_one, show fr (z % (20 * 360) * 1) (20 * 30) = fr ((6 * z).fmod 43200) 3600 by rw [fe]; exact fr_eq (by decide) (by decide) (by omega)] at lo
    refine seq_nx (set_ok (d := fr z 20) (w' := w8) (by simp [ra])) (seq_nx (pass_if (w' := w8) ?_) (seq_nx (set_ok (d := .int ((6 * z).fmod 43200)) (w' := w8) (by simp [m6, m7, mo])) (seq_nx (pass_if (w' := w8) (by simp [m6, sh, lf])) (pass_if (w' := w8) ?_))))
    · have : fr z (20 * 1) = fr z 20 := rfl
      rw [this] at lt
      simp [hs, lt]
    · simp only [v_bV, v_e2, v_eCall, v_eA, v_eA0, v_eVar0, v_eVarS, v_eC, v_eTup, b_some, m_some, List.set_cons_succ, List.set_cons_zero, le, lo, lf, gNe_fr, v_asB]
  have loop : loopD (gTupD 2 (gsCons (gSet 10) (gsCons (gSet 11) gsNil))) (sSeq (sSet 12 (eCall d_racer_at (eA (eVar 2) (eA (eVar 10) (eA (eTup (eA (eVar 3) (eA (eC (.int 1)) eA0))) eA0))))) (sSeq (sIf (bV (e2 gNe (eVar 12) (eCall d__law_times (eA (e2 gIx (eVar 1) (eVar 10)) (eA (eTup (eA (eVar 3) (eA (eC (.int 1)) eA0))) eA0))))) (sRet (eC (.bool false))) sNext) (sSeq (sSet 13 (e2 gMod (e1 gToInt (e2 gMul (e2 gMul (eC (.int 6)) (eVar 11)) (eVar 3))) (eC (.int 43200)))) (sSeq (sIf (bV (e2 gNe (eCall d_shown (eA (e2 gMul (eC (.int 6)) (eVar 11)) (eA (eVar 3) eA0))) (eCall d__law_frac (eA (eVar 13) (eA (eC (.int 3600)) eA0))))) (sRet (eC (.bool false))) sNext) (sIf (bV (e2 gNe (eCall d__law_over (eA (eCall d__law_left (eA (eVar 12) (eA (eC (.int 360)) eA0))) (eA (eTup (eA (eC (.int 30)) (eA (eC (.int 1)) eA0))) eA0))) (eCall d__law_frac (eA (eVar 13) (eA (eC (.int 3600)) eA0))))) (sRet (eC (.bool false))) sNext))))) [.tuple [.int 0, .int x], .tuple [.int 1, .int y]] [.sh hnd, .sh (.list [fr x 20, fr y 20]), .sh (.tuple [rc 0 x 20, rc 0 y 20]), .sh (.int d), .no, .no, .no, .no, .sh (.int x), .sh (.int y), .no, .no, .no, .no, .no, .no] w8 =
      some (.nx [.sh hnd, .sh (.list [fr x 20, fr y 20]), .sh (.tuple [rc 0 x 20, rc 0 y 20]), .sh (.int d), .no, .no, .no, .no, .sh (.int x), .sh (.int y), .sh (.int 1), .sh (.int y), .sh (fr (y * d) 20), .sh (.int ((6 * (y * d)).fmod 43200)), .no, .no], w8) := by
    rw [loopD]
    simp only [v_gTupD, List.length_cons, List.length_nil, if_true, v_gsCons, v_gsNil, v_gSet, b_some, List.set_cons_succ, List.set_cons_zero]
    rw [one 0 x .no .no .no .no (Or.inl ⟨rfl, rfl⟩)]
    simp only [b_some, loopD, v_gTupD, List.length_cons, List.length_nil, if_true, v_gsCons, v_gsNil, v_gSet, List.set_cons_succ, List.set_cons_zero]
    rw [one 1 y .no .no _ _ (Or.inr ⟨rfl, rfl⟩)]
    rfl
  have s4 : (sFor (iItems (eTup (eA (eTup (eA (eC (.int 0)) (eA (eVar 8) eA0))) (eA (eTup (eA (eC (.int 1)) (eA (eVar 9) eA0))) eA0)))) (gTupD 2 (gsCons (gSet 10) (gsCons (gSet 11) gsNil))) (sSeq (sSet 12 (eCall d_racer_at (eA (eVar 2) (eA (eVar 10) (eA (eTup (eA (eVar 3) (eA (eC (.int 1)) eA0))) eA0))))) (sSeq (sIf (bV (e2 gNe (eVar 12) (eCall d__law_times (eA (e2 gIx (eVar 1) (eVar 10)) (eA (eTup (eA (eVar 3) (eA (eC (.int 1)) eA0))) eA0))))) (sRet (eC (.bool false))) sNext) (sSeq (sSet 13 (e2 gMod (e1 gToInt (e2 gMul (e2 gMul (eC (.int 6)) (eVar 11)) (eVar 3))) (eC (.int 43200)))) (sSeq (sIf (bV (e2 gNe (eCall d_shown (eA (e2 gMul (eC (.int 6)) (eVar 11)) (eA (eVar 3) eA0))) (eCall d__law_frac (eA (eVar 13) (eA (eC (.int 3600)) eA0))))) (sRet (eC (.bool false))) sNext) (sIf (bV (e2 gNe (eCall d__law_over (eA (eCall d__law_left (eA (eVar 12) (eA (eC (.int 360)) eA0))) (eA (eTup (eA (eC (.int 30)) (eA (eC (.int 1)) eA0))) eA0))) (eCall d__law_frac (eA (eVar 13) (eA (eC (.int 3600)) eA0))))) (sRet (eC (.bool false))) sNext)))))) [.sh hnd, .sh (.list [fr x 20, fr y 20]), .sh (.tuple [rc 0 x 20, rc 0 y 20]), .sh (.int d), .no, .no, .no, .no, .sh (.int x), .sh (.int y), .no, .no, .no, .no, .no, .no] w8 = some (.nx [.sh hnd, .sh (.list [fr x 20, fr y 20]), .sh (.tuple [rc 0 x 20, rc 0 y 20]), .sh (.int d), .no, .no, .no, .no, .sh (.int x), .sh (.int y), .sh (.int 1), .sh (.int y), .sh (fr (y * d) 20), .sh (.int ((6 * (y * d)).fmod 43200)), .no, .no], w8) := for_ok (by simp) loop
  have s5 : (sSet 4 (eIf (bV (e2 gEq (eVar 8) (eVar 9))) (eC .none) (eCall d__law_over (eA (eTup (eA (eC (.int 7200)) (eA (eC (.int 1)) eA0))) (eA (eTup (eA (e1 gAbs (e2 gSub (eVar 8) (eVar 9))) (eA (eC (.int 1)) eA0))) eA0))))) [.sh hnd, .sh (.list [fr x 20, fr y 20]), .sh (.tuple [rc 0 x 20, rc 0 y 20]), .sh (.int d), .no, .no, .no, .no, .sh (.int x), .sh (.int y), .sh (.int 1), .sh (.int y), .sh (fr (y * d) 20), .sh (.int ((6 * (y * d)).fmod 43200)), .no, .no] w8 = some (.nx [.sh hnd, .sh (.list [fr x 20, fr y 20]), .sh (.tuple [rc 0 x 20, rc 0 y 20]), .sh (.int d), .sh (due), .no, .no, .no, .sh (.int x), .sh (.int y), .sh (.int 1), .sh (.int y), .sh (fr (y * d) 20), .sh (.int ((6 * (y * d)).fmod 43200)), .no, .no], w8) := set_ok (hdue _ rfl rfl)
  have s6 : (sIf (bV (e2 gNe (e1 gRepr (eCall d_agree_again (eA (e2 gMul (eC (.int 6)) (eVar 8)) (eA (e2 gMul (eC (.int 6)) (eVar 9)) eA0)))) (e1 gRepr (eVar 4)))) (sRet (eC (.bool false))) sNext) [.sh hnd, .sh (.list [fr x 20, fr y 20]), .sh (.tuple [rc 0 x 20, rc 0 y 20]), .sh (.int d), .sh (due), .no, .no, .no, .sh (.int x), .sh (.int y), .sh (.int 1), .sh (.int y), .sh (fr (y * d) 20), .sh (.int ((6 * (y * d)).fmod 43200)), .no, .no] w8 = some (.nx [.sh hnd, .sh (.list [fr x 20, fr y 20]), .sh (.tuple [rc 0 x 20, rc 0 y 20]), .sh (.int d), .sh (due), .no, .no, .no, .sh (.int x), .sh (.int y), .sh (.int 1), .sh (.int y), .sh (fr (y * d) 20), .sh (.int ((6 * (y * d)).fmod 43200)), .no, .no], w8) := pass_if (by simp [m6, ag1, v_gRepr okdue, gNe_str])
  have s7 : (sIf (bV (e2 gNe (eCall d_right_again (eA (e2 gMul (eC (.int 6)) (eVar 8)) eA0)) (eCall d__law_frac (eA (eC (.int 7200)) (eA (e1 gAbs (eVar 8)) eA0))))) (sRet (eC (.bool false))) sNext) [.sh hnd, .sh (.list [fr x 20, fr y 20]), .sh (.tuple [rc 0 x 20, rc 0 y 20]), .sh (.int d), .sh (due), .no, .no, .no, .sh (.int x), .sh (.int y), .sh (.int 1), .sh (.int y), .sh (fr (y * d) 20), .sh (.int ((6 * (y * d)).fmod 43200)), .no, .no] w8 = some (.nx [.sh hnd, .sh (.list [fr x 20, fr y 20]), .sh (.tuple [rc 0 x 20, rc 0 y 20]), .sh (.int d), .sh (due), .no, .no, .no, .sh (.int x), .sh (.int y), .sh (.int 1), .sh (.int y), .sh (fr (y * d) 20), .sh (.int ((6 * (y * d)).fmod 43200)), .no, .no], w8) := pass_if (by simp only [v_bV, v_e2, v_e1, v_eCall, v_eA, v_eA0, v_eVar0, v_eVarS, v_eC, b_some, m_some, m6, right, v_gAbs, abs_nat, l7, gNe_fr, v_asB])
  have s8 : (sIf (bV (e2 gNe (e1 gRepr (eCall d_agree_again (eA (e2 gMul (eC (.int 6)) (eVar 9)) (eA (e2 gMul (eC (.int 6)) (eVar 8)) eA0)))) (e1 gRepr (eVar 4)))) (sRet (eC (.bool false))) sNext) [.sh hnd, .sh (.list [fr x 20, fr y 20]), .sh (.tuple [rc 0 x 20, rc 0 y 20]), .sh (.int d), .sh (due), .no, .no, .no, .sh (.int x), .sh (.int y), .sh (.int 1), .sh (.int y), .sh (fr (y * d) 20), .sh (.int ((6 * (y * d)).fmod 43200)), .no, .no] w8 = some (.nx [.sh hnd, .sh (.list [fr x 20, fr y 20]), .sh (.tuple [rc 0 x 20, rc 0 y 20]), .sh (.int d), .sh (due), .no, .no, .no, .sh (.int x), .sh (.int y), .sh (.int 1), .sh (.int y), .sh (fr (y * d) 20), .sh (.int ((6 * (y * d)).fmod 43200)), .no, .no], w8) := pass_if (by simp [m6, ag2, v_gRepr okdue, gNe_str])
  by_cases e : x = y
  · have s9 : (sIf (bV (e2 gEq (eVar 8) (eVar 9))) (sRet (eC (.bool true))) sNext) [.sh hnd, .sh (.list [fr x 20, fr y 20]), .sh (.tuple [rc 0 x 20, rc 0 y 20]), .sh (.int d), .sh (due), .no, .no, .no, .sh (.int x), .sh (.int y), .sh (.int 1), .sh (.int y), .sh (fr (y * d) 20), .sh (.int ((6 * (y * d)).fmod 43200)), .no, .no] w8 = some (.rt (.bool true), w8) := if_yes (w' := w8) (by simp [e]) (ret_ok (by simp))
    refine ⟨w8, fnD_rt (seq_nx s0 (seq_nx s1 (seq_nx s2 (seq_nx s3 (seq_nx s4 (seq_nx s5 (seq_nx s6 (seq_nx s7 (seq_nx s8 (?_)))))))))), k8⟩
    rw [v_sSeq, s9]
    rfl
  · have ne : ¬ x = y := e
    have hd := hd2 e
    obtain ⟨f0, w9, Ef, f00, f01, k9⟩ := draw (m := 359) k8 (by decide) (by decide)
    obtain ⟨f, hf⟩ : ∃ f, 1 + f0 = f := ⟨_, rfl⟩
    obtain ⟨F, hF⟩ : ∃ F, (if y > x then y else x) = F := ⟨_, rfl⟩
    obtain ⟨S, hS⟩ : ∃ S, (if y < x then y else x) = S := ⟨_, rfl⟩
    have FS : (F - S) = ((x - y).natAbs : Int) ∧ F.natAbs ≤ 50 ∧ S.natAbs ≤ 50 ∧ 0 < F - S := by
      subst hF hS
      split <;> split <;> omega
    obtain ⟨fs1, fs2, fs3, fs4⟩ := FS
    have f3 := lfrac (a := F) (b := 20) w9 (by decide) (by omega) (by decide)
    have f4 := lfrac (a := S) (b := 20) w9 (by decide) (by omega) (by decide)
    have r3 : RcOk 0 F 20 := ⟨by decide, by decide, fs2, by decide, by decide⟩
    have r4 : RcOk f S 20 := ⟨by omega, by omega, fs3, by decide, by decide⟩
    have met := ringMeeting (m := 360) (i := 0) (j := 1) ⟨r3, r4, by omega, by decide, by decide⟩ r3 r4 (pr_ix0 _ _) (pr_ix1 _ _) (by decide) (by decide) (by decide) (by decide) (by decide) w9
    rw [show meet 360 0 f F 20 S 20 = fr (20 * f) (F - S) by
      unfold meet
      rw [if_pos (by omega)]
      refine fr_eq (by omega) (by omega) ?_
      rw [show (f - 0) % 360 = f by omega]
      grind] at met
    have o9 := lover w9 (frO1 (n := 20 * f) (by omega)) (frO1 (n := F - S) (by omega)) (by omega) (by omega)
    rw [fr_one, fr_one, Int.mul_one, Int.one_mul] at o9
    have t1 := ltimes w9 (⟨by omega, by omega, by omega⟩ : FrOk (20 * f) (F - S)) (frO1 (n := 360) (by decide)) (by omega)
    have t2 := ltimes w9 (⟨by omega, by omega, by decide⟩ : FrOk 7200 ((x - y).natAbs : Int)) (frO1 (n := f) (by omega)) (by omega)
    rw [fr_one] at t1 t2
    rw [← hd, show fr (7200 * f) (((x - y).natAbs : Int) * 1) = fr (20 * f * 360) ((F - S) * 1) by rw [← fs1]; exact fr_eq (by omega) (by omega) (by grind)] at t2
    have m20 := v_gMul (i := (20 : Int)) (j := f) (mulOk_l (by decide))
    have s9 : (sIf (bV (e2 gEq (eVar 8) (eVar 9))) (sRet (eC (.bool true))) sNext) [.sh hnd, .sh (.list [fr x 20, fr y 20]), .sh (.tuple [rc 0 x 20, rc 0 y 20]), .sh (.int d), .sh (due), .no, .no, .no, .sh (.int x), .sh (.int y), .sh (.int 1), .sh (.int y), .sh (fr (y * d) 20), .sh (.int ((6 * (y * d)).fmod 43200)), .no, .no] w8 = some (.nx [.sh hnd, .sh (.list [fr x 20, fr y 20]), .sh (.tuple [rc 0 x 20, rc 0 y 20]), .sh (.int d), .sh (due), .no, .no, .no, .sh (.int x), .sh (.int y), .sh (.int 1), .sh (.int y), .sh (fr (y * d) 20), .sh (.int ((6 * (y * d)).fmod 43200)), .no, .no], w8) := pass_if (by simp [ne])
    have s10 : (sSet 5 (e2 gAdd (eC (.int 1)) (eCall d__law_draw (eA (eVar 0) (eA (eC (.int 359)) eA0))))) [.sh hnd, .sh (.list [fr x 20, fr y 20]), .sh (.tuple [rc 0 x 20, rc 0 y 20]), .sh (.int d), .sh (due), .no, .no, .no, .sh (.int x), .sh (.int y), .sh (.int 1), .sh (.int y), .sh (fr (y * d) 20), .sh (.int ((6 * (y * d)).fmod 43200)), .no, .no] w8 = some (.nx [.sh hnd, .sh (.list [fr x 20, fr y 20]), .sh (.tuple [rc 0 x 20, rc 0 y 20]), .sh (.int d), .sh (due), .sh (.int f), .no, .no, .sh (.int x), .sh (.int y), .sh (.int 1), .sh (.int y), .sh (fr (y * d) 20), .sh (.int ((6 * (y * d)).fmod 43200)), .no, .no], w9) := set_ok (by simp [Ef, hf])
    have s11 : (sPar 14 15 false false (eA (e2 gMax2 (eVar 8) (eVar 9)) (eA (e2 gMin2 (eVar 8) (eVar 9)) eA0))) [.sh hnd, .sh (.list [fr x 20, fr y 20]), .sh (.tuple [rc 0 x 20, rc 0 y 20]), .sh (.int d), .sh (due), .sh (.int f), .no, .no, .sh (.int x), .sh (.int y), .sh (.int 1), .sh (.int y), .sh (fr (y * d) 20), .sh (.int ((6 * (y * d)).fmod 43200)), .no, .no] w9 = some (.nx [.sh hnd, .sh (.list [fr x 20, fr y 20]), .sh (.tuple [rc 0 x 20, rc 0 y 20]), .sh (.int d), .sh (due), .sh (.int f), .no, .no, .sh (.int x), .sh (.int y), .sh (.int 1), .sh (.int y), .sh (fr (y * d) 20), .sh (.int ((6 * (y * d)).fmod 43200)), .sh (.int F), .sh (.int S)], w9) := par_ok (by simp only [v_eA, v_eA0, v_e2, v_eVar0, v_eVarS, b_some, m_some, v_gMax2, v_gMin2, hF, hS])
    have s12 : (sSet 6 (eTup (eA (eTup (eA (eC (.int 0)) (eA (eCall d__law_frac (eA (eVar 14) (eA (eC (.int 20)) eA0))) eA0))) (eA (eTup (eA (eVar 5) (eA (eIf (bV (e2 gNe (eVar 15) (eC (.int 0)))) (eCall d__law_frac (eA (eVar 15) (eA (eC (.int 20)) eA0))) (eTup (eA (eC (.int 0)) (eA (eC (.int 1)) eA0)))) eA0))) eA0)))) [.sh hnd, .sh (.list [fr x 20, fr y 20]), .sh (.tuple [rc 0 x 20, rc 0 y 20]), .sh (.int d), .sh (due), .sh (.int f), .no, .no, .sh (.int x), .sh (.int y), .sh (.int 1), .sh (.int y), .sh (fr (y * d) 20), .sh (.int ((6 * (y * d)).fmod 43200)), .sh (.int F), .sh (.int S)] w9 = some (.nx [.sh hnd, .sh (.list [fr x 20, fr y 20]), .sh (.tuple [rc 0 x 20, rc 0 y 20]), .sh (.int d), .sh (due), .sh (.int f), .sh (.tuple [rc 0 F 20, rc f S 20]), .no, .sh (.int x), .sh (.int y), .sh (.int 1), .sh (.int y), .sh (fr (y * d) 20), .sh (.int ((6 * (y * d)).fmod 43200)), .sh (.int F), .sh (.int S)], w9) := set_ok (by
        by_cases z : S = 0
        · simp [z, f3, fr020, rc]
        · simp [z, f3, f4, rc])
    have s13 : (sSet 7 (eCall d_ring_meeting (eA (eC (.int 360)) (eA (eVar 6) (eA (eC (.int 0)) (eA (eC (.int 1)) eA0)))))) [.sh hnd, .sh (.list [fr x 20, fr y 20]), .sh (.tuple [rc 0 x 20, rc 0 y 20]), .sh (.int d), .sh (due), .sh (.int f), .sh (.tuple [rc 0 F 20, rc f S 20]), .no, .sh (.int x), .sh (.int y), .sh (.int 1), .sh (.int y), .sh (fr (y * d) 20), .sh (.int ((6 * (y * d)).fmod 43200)), .sh (.int F), .sh (.int S)] w9 = some (.nx [.sh hnd, .sh (.list [fr x 20, fr y 20]), .sh (.tuple [rc 0 x 20, rc 0 y 20]), .sh (.int d), .sh (due), .sh (.int f), .sh (.tuple [rc 0 F 20, rc f S 20]), .sh (fr (20 * f) (F - S)), .sh (.int x), .sh (.int y), .sh (.int 1), .sh (.int y), .sh (fr (y * d) 20), .sh (.int ((6 * (y * d)).fmod 43200)), .sh (.int F), .sh (.int S)], w9) := set_ok (by simp [met])
    refine ⟨w9, fnD_rt (seq_nx s0 (seq_nx s1 (seq_nx s2 (seq_nx s3 (seq_nx s4 (seq_nx s5 (seq_nx s6 (seq_nx s7 (seq_nx s8 (seq_nx s9 (seq_nx s10 (seq_nx s11 (seq_nx s12 (seq_nx s13 (ret_ok ?_))))))))))))))), k9⟩
    simp only [v_eAndV, v_e2, v_eVar0, v_eVarS, b_some, m_some, v_eCall, v_eA, v_eA0, v_eTup, v_eC, m20, v_gSub, o9, gEq_fr, v_asB, if_true, t1, t2]
theorem fr311 : fr 3 11 = .tuple [.int 3, .int 11] := by
  unfold fr
  rw [Rat.num_divInt, Rat.den_divInt]
  rfl
theorem fr130 : fr 1 30 = .tuple [.int 1, .int 30] := by
  unfold fr
  rw [Rat.num_divInt, Rat.den_divInt]
  rfl
theorem math : ∀ ns : List Int, ns.length ≤ 63 → ∃ w', y_law (Slot.no :: Slot.sh hnd :: List.replicate (n_law.length - 2) Slot.no) (hw ns) = some (.rt (.bool true), w') := by
  intro ns _
  have hw0 : WOk (hw ns) := Int.le_refl _
  generalize hw ns = w0 at hw0
  have ra : RcOk 3 1 1 := ⟨by decide, by decide, by decide, by decide, by decide⟩
  have rb : RcOk 0 12 1 := ⟨by decide, by decide, by decide, by decide, by decide⟩
  have m1 := ringMeeting (m := 12) (i := 0) (j := 1) ⟨ra, rb, by decide, by decide, by decide⟩ ra rb (pr_ix0 _ _) (pr_ix1 _ _) (by decide) (by decide) (by decide) (by decide) (by decide) w0
  rw [(n_meet1 (h := 3) (by decide) (by decide)).1, rc, rc, fr_one, fr_one, fr311] at m1
  have c1 : d_check_lag [.int 60] w0 = some (.none, w0) := by simp [d_check_lag, y_check_lag, fnD, isInteger]
  have c2 := isWithin 2 0 1000000 w0
  have mu := v_gMul (i := 60) (j := 2) (by decide)
  have mo := v_gMod (i := 60 * 2) (j := 43200) (by decide)
  have f3 := fraction (a := 120) (b := 3600) w0 (by decide) (by decide)
  rw [show fr 120 3600 = fr 1 30 from fr_eq (by decide) (by decide) (by decide), fr130] at f3
  have sh : d_shown [.int 60, .int 2] w0 = some (.tuple [.int 1, .int 30], w0) := by
    refine fnD_rt (seq_nx (e' := [.sh (.int 60), .sh (.int 2)]) (w' := w0) (by simp [c1]) (seq_nx (pass_if (w' := w0) (by simp [c2])) (ret_ok ?_)))
    simp only [v_eCall, v_eA, v_eA0, v_e2, v_eVar0, v_eVarS, v_eC, b_some, m_some, mu, mo]
    exact f3
  have o1 : gNe (.tuple [.int 3, .int 11]) (.tuple [.int 3, .int 11]) = some (.bool false) := v_gNeT [3, 11] [3, 11]
  have o2 : gNe (.tuple [.int 1, .int 30]) (.tuple [.int 1, .int 30]) = some (.bool false) := v_gNeT [1, 30] [1, 30]
  have s1 : (sIf (bOr (bV (e2 gNe (eCall d_ring_meeting (eA (eC (.int 12)) (eA (eTup (eA (eTup (eA (eC (.int 3)) (eA (eTup (eA (eC (.int 1)) (eA (eC (.int 1)) eA0))) eA0))) (eA (eTup (eA (eC (.int 0)) (eA (eTup (eA (eC (.int 12)) (eA (eC (.int 1)) eA0))) eA0))) eA0))) (eA (eC (.int 0)) (eA (eC (.int 1)) eA0))))) (eTup (eA (eC (.int 3)) (eA (eC (.int 11)) eA0))))) (bV (e2 gNe (eCall d_shown (eA (eC (.int 60)) (eA (eC (.int 2)) eA0))) (eTup (eA (eC (.int 1)) (eA (eC (.int 30)) eA0)))))) (sRet (eC (.bool false))) sNext) [.no, .sh hnd, .no] w0 = some (.nx [.no, .sh hnd, .no], w0) := pass_if (by simp [m1, sh, o1, o2])
  obtain ⟨w', e, _⟩ := lc_true (gs := gSet 2) (ft := bYes) (fe := eAndV (eCall d__law_are_hands_right (eA (eVar 1) eA0)) (eCall d__law_are_lags_right (eA (eVar 1) eA0))) (env := [.no, .sh hnd, .no]) (I := WOk) (ds := ((List.range 6).map fun (k : Nat) => (k : Int)).map .int) (w := w0) hw0 (fun d _ w hw => by
    obtain ⟨w1, h1, k1⟩ := hands hw
    obtain ⟨w2, h2, k2⟩ := lags k1
    exact ⟨[.no, .sh hnd, .sh d], w2, rfl, rfl, by simp [h1, h2], k2⟩)
  refine ⟨w', ?_⟩
  show y_law [.no, .sh hnd, .no] w0 = _
  refine seq_nx s1 (ret_ok (e1_ok (lc_ok (v_iRange1 (n := 6) (w' := w0) rfl (by decide)) e) ?_))
  rw [v_gAll, all_rep]
end K03

open PySem PySem.W PyProof.Rows in
set_option maxRecDepth 100000 in
set_option maxHeartbeats 0 in
theorem PySem.Challenge.cw_wayriddles_k03_whole_hands_and_clocks_as_holds : PySem.Challenge.rw_wayriddles_k03_whole_hands_and_clocks_as.Holds := by
  w_on; o_law; k_head; (case hw => w_witness2)
  k_fill
  refine K03.walk (l := PySem.Challenge.rw_wayriddles_k03_whole_hands_and_clocks_as) rfl rfl (fun w h Y => PySem.W.kIn_of Y) ?F
  case F =>
    intro w mg fa h KX G hmg
    refine' K03.all_mk KX G hmg K03.math (.of ?x0 ?l0 ?c0 ?k0) (.of ?x1 ?l1 ?c1 ?k1) (.of ?x2 ?l2 ?c2 ?k2) (.of ?x3 ?l3 ?c3 ?k3) (.of ?x4 ?l4 ?c4 ?k4) (.of ?x5 ?l5 ?c5 ?k5) (.of ?x6 ?l6 ?c6 ?k6) (.of ?x7 ?l7 ?c7 ?k7) (.of ?x8 ?l8 ?c8 ?k8) (.of ?x9 ?l9 ?c9 ?k9) (.of ?x10 ?l10 ?c10 ?k10) (.of ?x11 ?l11 ?c11 ?k11) (.of ?x12 ?l12 ?c12 ?k12) (.of ?x13 ?l13 ?c13 ?k13) (.of ?x14 ?l14 ?c14 ?k14) (.of ?x15 ?l15 ?c15 ?k15) (.of ?x16 ?l16 ?c16 ?k16) (.of ?x17 ?l17 ?c17 ?k17) (.of ?x18 ?l18 ?c18 ?k18) (.of ?x19 ?l19 ?c19 ?k19) (.of ?x20 ?l20 ?c20 ?k20) (.of ?x21 ?l21 ?c21 ?k21) (.of ?x22 ?l22 ?c22 ?k22) (.of ?x23 ?l23 ?c23 ?k23) (.of ?x24 ?l24 ?c24 ?k24) (.of ?x25 ?l25 ?c25 ?k25) (.of ?x26 ?l26 ?c26 ?k26) (.of ?x27 ?l27 ?c27 ?k27) (.of ?x28 ?l28 ?c28 ?k28) (.of ?x29 ?l29 ?c29 ?k29) (.of ?x30 ?l30 ?c30 ?k30) (.of ?x31 ?l31 ?c31 ?k31) (.of ?x32 ?l32 ?c32 ?k32) (.of ?x33 ?l33 ?c33 ?k33) (.of ?x34 ?l34 ?c34 ?k34) (.of ?x35 ?l35 ?c35 ?k35) (.of ?x36 ?l36 ?c36 ?k36) (.of ?x37 ?l37 ?c37 ?k37) (.of ?x38 ?l38 ?c38 ?k38) (.of ?x39 ?l39 ?c39 ?k39) (.of ?x40 ?l40 ?c40 ?k40) (.of ?x41 ?l41 ?c41 ?k41) (.of ?x42 ?l42 ?c42 ?k42) (.of ?x43 ?l43 ?c43 ?k43) (.of ?x44 ?l44 ?c44 ?k44) (.of ?x45 ?l45 ?c45 ?k45) (.of ?x46 ?l46 ?c46 ?k46) (.of ?x47 ?l47 ?c47 ?k47) (.of ?x48 ?l48 ?c48 ?k48) (.of ?x49 ?l49 ?c49 ?k49) (.of ?x50 ?l50 ?c50 ?k50) (.of ?x51 ?l51 ?c51 ?k51) (.of ?x52 ?l52 ?c52 ?k52) ?z_abs ?z_all ?z_bool ?z_int ?z_isinstance ?z_len ?z_list ?z_max ?z_min ?z_range ?z_repr ?z_tuple ?y_DIAL_SECONDS ?y_HOURS ?y_MOST_LAG_DAYS ?y_MOST_ROUND ?y_MOST_SPEED_BOTTOM ?y_MOST_SPEED_TOP ?y_MOST_START ?y_MOST_TIME_PART ?yt_TURNS ?l_4
    (case x0 => k_is)
    (case l0 => k_is)
    (case c0 => k_is)
    (case k0 => k_is)
    (case x1 => k_is)
    (case l1 => k_is)
    (case c1 => k_is)
    (case k1 => k_is)
    (case x2 => k_is)
    (case l2 => k_is)
    (case c2 => k_is)
    (case k2 => k_is)
    (case x3 => k_is)
    (case l3 => k_is)
    (case c3 => k_is)
    (case k3 => k_is)
    (case x4 => k_is)
    (case l4 => k_is)
    (case c4 => k_is)
    (case k4 => k_is)
    (case x5 => k_is)
    (case l5 => k_is)
    (case c5 => k_is)
    (case k5 => k_is)
    (case x6 => k_is)
    (case l6 => k_is)
    (case c6 => k_is)
    (case k6 => k_is)
    (case x7 => k_is)
    (case l7 => k_is)
    (case c7 => k_is)
    (case k7 => k_is)
    (case x8 => k_is)
    (case l8 => k_is)
    (case c8 => k_is)
    (case k8 => k_is)
    (case x9 => k_is)
    (case l9 => k_is)
    (case c9 => k_is)
    (case k9 => k_is)
    (case x10 => k_is)
    (case l10 => k_is)
    (case c10 => k_is)
    (case k10 => k_is)
    (case x11 => k_is)
    (case l11 => k_is)
    (case c11 => k_is)
    (case k11 => k_is)
    (case x12 => k_is)
    (case l12 => k_is)
    (case c12 => k_is)
    (case k12 => k_is)
    (case x13 => k_is)
    (case l13 => k_is)
    (case c13 => k_is)
    (case k13 => k_is)
    (case x14 => k_is)
    (case l14 => k_is)
    (case c14 => k_is)
    (case k14 => k_is)
    (case x15 => k_is)
    (case l15 => k_is)
    (case c15 => k_is)
    (case k15 => k_is)
    (case x16 => k_is)
    (case l16 => k_is)
    (case c16 => k_is)
    (case k16 => k_is)
    (case x17 => k_is)
    (case l17 => k_is)
    (case c17 => k_is)
    (case k17 => k_is)
    (case x18 => k_is)
    (case l18 => k_is)
    (case c18 => k_is)
    (case k18 => k_is)
    (case x19 => k_is)
    (case l19 => k_is)
    (case c19 => k_is)
    (case k19 => k_is)
    (case x20 => k_is)
    (case l20 => k_is)
    (case c20 => k_is)
    (case k20 => k_is)
    (case x21 => k_is)
    (case l21 => k_is)
    (case c21 => k_is)
    (case k21 => k_is)
    (case x22 => k_is)
    (case l22 => k_is)
    (case c22 => k_is)
    (case k22 => k_is)
    (case x23 => k_is)
    (case l23 => k_is)
    (case c23 => k_is)
    (case k23 => k_is)
    (case x24 => k_is)
    (case l24 => k_is)
    (case c24 => k_is)
    (case k24 => k_is)
    (case x25 => k_is)
    (case l25 => k_is)
    (case c25 => k_is)
    (case k25 => k_is)
    (case x26 => k_is)
    (case l26 => k_is)
    (case c26 => k_is)
    (case k26 => k_is)
    (case x27 => k_is)
    (case l27 => k_is)
    (case c27 => k_is)
    (case k27 => k_is)
    (case x28 => k_is)
    (case l28 => k_is)
    (case c28 => k_is)
    (case k28 => k_is)
    (case x29 => k_is)
    (case l29 => k_is)
    (case c29 => k_is)
    (case k29 => k_is)
    (case x30 => k_is)
    (case l30 => k_is)
    (case c30 => k_is)
    (case k30 => k_is)
    (case x31 => k_is)
    (case l31 => k_is)
    (case c31 => k_is)
    (case k31 => k_is)
    (case x32 => k_is)
    (case l32 => k_is)
    (case c32 => k_is)
    (case k32 => k_is)
    (case x33 => k_is)
    (case l33 => k_is)
    (case c33 => k_is)
    (case k33 => k_is)
    (case x34 => k_is)
    (case l34 => k_is)
    (case c34 => k_is)
    (case k34 => k_is)
    (case x35 => k_is)
    (case l35 => k_is)
    (case c35 => k_is)
    (case k35 => k_is)
    (case x36 => k_is)
    (case l36 => k_is)
    (case c36 => k_is)
    (case k36 => k_is)
    (case x37 => k_is)
    (case l37 => k_is)
    (case c37 => k_is)
    (case k37 => k_is)
    (case x38 => k_is)
    (case l38 => k_is)
    (case c38 => k_is)
    (case k38 => k_is)
    (case x39 => k_is)
    (case l39 => k_is)
    (case c39 => k_is)
    (case k39 => k_is)
    (case x40 => k_is)
    (case l40 => k_is)
    (case c40 => k_is)
    (case k40 => k_is)
    (case x41 => k_is)
    (case l41 => k_is)
    (case c41 => k_is)
    (case k41 => k_is)
    (case x42 => k_is)
    (case l42 => k_is)
    (case c42 => k_is)
    (case k42 => k_is)
    (case x43 => k_is)
    (case l43 => k_is)
    (case c43 => k_is)
    (case k43 => k_is)
    (case x44 => k_is)
    (case l44 => k_is)
    (case c44 => k_is)
    (case k44 => k_is)
    (case x45 => k_is)
    (case l45 => k_is)
    (case c45 => k_is)
    (case k45 => k_is)
    (case x46 => k_is)
    (case l46 => k_is)
    (case c46 => k_is)
    (case k46 => k_is)
    (case x47 => k_is)
    (case l47 => k_is)
    (case c47 => k_is)
    (case k47 => k_is)
    (case x48 => k_is)
    (case l48 => k_is)
    (case c48 => k_is)
    (case k48 => k_is)
    (case x49 => k_is)
    (case l49 => k_is)
    (case c49 => k_is)
    (case k49 => k_is)
    (case x50 => k_is)
    (case l50 => k_is)
    (case c50 => k_is)
    (case k50 => k_is)
    (case x51 => k_is)
    (case l51 => k_is)
    (case c51 => k_is)
    (case k51 => k_is)
    (case x52 => k_is)
    (case l52 => k_is)
    (case c52 => k_is)
    (case k52 => k_is)
    (case z_abs => k_is)
    (case z_all => k_is)
    (case z_bool => k_is)
    (case z_int => k_is)
    (case z_isinstance => k_is)
    (case z_len => k_is)
    (case z_list => k_is)
    (case z_max => k_is)
    (case z_min => k_is)
    (case z_range => k_is)
    (case z_repr => k_is)
    (case z_tuple => k_is)
    (case y_DIAL_SECONDS => k_is)
    (case y_HOURS => k_is)
    (case y_MOST_LAG_DAYS => k_is)
    (case y_MOST_ROUND => k_is)
    (case y_MOST_SPEED_BOTTOM => k_is)
    (case y_MOST_SPEED_TOP => k_is)
    (case y_MOST_START => k_is)
    (case y_MOST_TIME_PART => k_is)
    (case yt_TURNS => k_is)
    (case l_4 => k_is)

