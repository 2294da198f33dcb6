import PyProof.Rows.All
import Wide.All
import OpenK.AllK
import Wide.FinOn
import HandS.ForMost
import HandS.IsInst
import HandS.TupAny
import HandS.TupMul
import HandS.Zip
import HandS.SortInts
import HandS.SortRule
import HandS.Wide
import HandS.Deep
import KE.DataEq
import KE.DataMinMax
import KE.SortData
import KE.DataAny
import PySem.Challenge.RW_wayriddles_k04_whole_begins_ahead_as_sta
set_option Elab.async false
set_option linter.all false
set_option maxRecDepth 100000
/-! DL: data semantics over HandS -/
namespace DL
open PySem L2

abbrev D := PyData
abbrev SZ : Nat := sizeLine
/-- the token of the law's hand -/
def hnd : D := .dict [(.none, .none)]
/-- the hand -/
structure W where
  cells : List Int
  i : Int
  rest : Int
  mix : Int
  cnt : Int

/-- a slot: nothing known, shared data, owned data (a list that the def itself made and may change) -/
inductive Slot where
  | no | sh (d : D) | ow (d : D)
abbrev Env := List Slot


/-! ### data in the heap -/
/-- a tuple that stands: tracked, or an object of the module -/
def TupAt (K : PySem.W.Frag) (H : Hp) (a : Addr) (xs : List V) : Prop :=
  H a = some (.tup xs) ∨
    ∃ (o : Obj) (its : Array Value) (n : Nat), K.lookup a = some o ∧ o.cls = .type "tuple" ∧ o.data = .seq its n ∧ its.size ≤ sizeLine ∧ Vals xs its.toList
theorem TupAt.sqt {K : PySem.W.Frag} {H : Hp} {a : Addr} {xs : List V} (h : TupAt K H a xs) : SqT K H a xs := by
  rcases h with h | h
  · exact .inl (.inl h)
  · exact .inr h
mutual
inductive Rep (K : PySem.W.Frag) (hd : Addr) (O : List Addr) (H : Hp) : V → D → Prop
  | non : Rep K hd O H .non .none
  | bl (b : Bool) : Rep K hd O H (.bl b) (.bool b)
  | int (i : Int) : Rep K hd O H (.int i) (.int i)
  | str (x : Str) : Rep K hd O H (.str x) (.str x)
  | lst {a : Addr} {xs : List V} {ds : List D} : H a = some (.lst xs) → a ∉ O → xs.length ≤ SZ → RepAll K hd O H xs ds → Rep K hd O H (.ref a) (.list ds)
  | tup {a : Addr} {xs : List V} {ds : List D} : TupAt K H a xs → xs.length ≤ SZ → RepAll K hd O H xs ds → Rep K hd O H (.ref a) (.tuple ds)
  | hand : Rep K hd O H (.ref hd) hnd
inductive RepAll (K : PySem.W.Frag) (hd : Addr) (O : List Addr) (H : Hp) : List V → List D → Prop
  | nil : RepAll K hd O H [] []
  | cons {v : V} {vs : List V} {d : D} {ds : List D} : Rep K hd O H v d → RepAll K hd O H vs ds → RepAll K hd O H (v :: vs) (d :: ds)
end

/-- what stood stands, but for the hand -/
structure Ext (hd : Addr) (H H' : Hp) : Prop where
  keep : ∀ b o, b ≠ hd → H b = some o → H' b = some o
  tups : ∀ b xs, H b = some (.tup xs) → H' b = some (.tup xs)
theorem Ext.refl {hd : Addr} {H : Hp} : Ext hd H H := ⟨fun _ _ _ h => h, fun _ _ h => h⟩
theorem Ext.trans {hd : Addr} {H H1 H2 : Hp} (a : Ext hd H H1) (b : Ext hd H1 H2) : Ext hd H H2 := ⟨fun c o n h => b.keep c o n (a.keep c o n h), fun c o h => b.tups c o (a.tups c o h)⟩
theorem Ext.new {hd : Addr} {H : Hp} {p : Addr} {o : HO} (h : H p = none) : Ext hd H (upd H p o) :=
  ⟨fun b o' _ e => by rw [upd_ne (ne_of_none e h)]; exact e, fun b o' e => by rw [upd_ne (ne_of_none e h)]; exact e⟩
/-- behind statements: the owned objects may change, owned ones be laid, be let go -/
structure Prog (O : List Addr) (H : Hp) (O' : List Addr) (H' : Hp) : Prop where
  keep : ∀ b o, b ∉ O → H b = some o → b ∉ O' ∧ H' b = some o
  tups : ∀ b xs, H b = some (.tup xs) → H' b = some (.tup xs)
theorem Prog.refl {O : List Addr} {H : Hp} : Prog O H O H := ⟨fun _ _ n h => ⟨n, h⟩, fun _ _ h => h⟩
theorem Prog.trans {O O1 O2 : List Addr} {H H1 H2 : Hp} (a : Prog O H O1 H1) (b : Prog O1 H1 O2 H2) : Prog O H O2 H2 :=
  ⟨fun c o n h => let q := a.keep c o n h; b.keep c o q.1 q.2, fun c o h => b.tups c o (a.tups c o h)⟩
theorem Ext.prog {hd : Addr} {O : List Addr} {H H' : Hp} (e : Ext hd H H') (h : hd ∈ O) : Prog O H O H' := ⟨fun b o n q => ⟨n, e.keep b o (fun z => n (z ▸ h)) q⟩, e.tups⟩

section
variable {K : PySem.W.Frag} {hd : Addr} {O O' : List Addr} {H H' : Hp}
mutual
theorem Rep.prog (hs : Prog O H O' H') : ∀ {v : V} {d : D}, Rep K hd O H v d → Rep K hd O' H' v d
  | _, _, .non => .non
  | _, _, .bl b => .bl b
  | _, _, .int i => .int i
  | _, _, .str x => .str x
  | _, _, .lst h n z r => .lst (hs.keep _ _ n h).2 (hs.keep _ _ n h).1 z (RepAll.prog hs r)
  | _, _, .tup h z r => .tup (by
      rcases h with h | h
      · exact .inl (hs.tups _ _ h)
      · exact .inr h) z (RepAll.prog hs r)
  | _, _, .hand => .hand
theorem RepAll.prog (hs : Prog O H O' H') : ∀ {vs : List V} {ds : List D}, RepAll K hd O H vs ds → RepAll K hd O' H' vs ds
  | _, _, .nil => .nil
  | _, _, .cons h t => .cons (Rep.prog hs h) (RepAll.prog hs t)
end
theorem Rep.ext {v : V} {d : D} (r : Rep K hd O H v d) (h0 : hd ∈ O) (e : Ext hd H H') : Rep K hd O H' v d := r.prog (e.prog h0)
theorem RepAll.ext {v : List V} {d : List D} (r : RepAll K hd O H v d) (h0 : hd ∈ O) (e : Ext hd H H') : RepAll K hd O H' v d := r.prog (e.prog h0)
theorem Prog.new {p : Addr} {o : HO} (h : H p = none) : Prog O H (p :: O) (upd H p o) :=
  ⟨fun b o n q => ⟨fun z => by rcases List.mem_cons.mp z with z | z; exact (by rw [z, h] at q; cases q); exact n z, by rw [upd_ne (ne_of_none q h)]; exact q⟩, fun b xs q => by rw [upd_ne (ne_of_none q h)]; exact q⟩
theorem Prog.less (h : ∀ b ∈ O', b ∈ O) : Prog O H O' H := ⟨fun b o n q => ⟨fun z => n (h b z), q⟩, fun _ _ q => q⟩
theorem Rep.less {v : V} {d : D} (r : Rep K hd O H v d) (h : ∀ b ∈ O', b ∈ O) : Rep K hd O' H v d := r.prog (.less h)
theorem RepAll.less {v : List V} {d : List D} (r : RepAll K hd O H v d) (h : ∀ b ∈ O', b ∈ O) : RepAll K hd O' H v d := r.prog (.less h)
theorem RepAll.len : ∀ {vs : List V} {ds : List D}, RepAll K hd O H vs ds → vs.length = ds.length
  | _, _, .nil => rfl
  | _, _, .cons _ t => by simp [t.len]
theorem RepAll.get : ∀ {vs : List V} {ds : List D} {i : Nat} {d : D}, RepAll K hd O H vs ds → ds[i]? = some d → ∃ v, vs[i]? = some v ∧ Rep K hd O H v d
  | _, _, _, _, .nil, e => by simp at e
  | _, _, 0, _, .cons r _, e => by simp at e; subst e; exact ⟨_, rfl, r⟩
  | _, _, i + 1, _, .cons _ t, e => by
    obtain ⟨v, h1, h2⟩ := RepAll.get (i := i) t (by simpa using e)
    exact ⟨v, by simpa using h1, h2⟩
theorem RepAll.getV : ∀ {vs : List V} {ds : List D} {i : Nat} {v : V}, RepAll K hd O H vs ds → vs[i]? = some v → ∃ d, ds[i]? = some d ∧ Rep K hd O H v d
  | _, _, _, _, .nil, e => by simp at e
  | _, _, 0, _, .cons r _, e => by simp at e; subst e; exact ⟨_, rfl, r⟩
  | _, _, i + 1, _, .cons _ t, e => by
    obtain ⟨v, h1, h2⟩ := RepAll.getV (i := i) t (by simpa using e)
    exact ⟨v, by simpa using h1, h2⟩
theorem RepAll.append : ∀ {vs ws : List V} {ds es : List D}, RepAll K hd O H vs ds → RepAll K hd O H ws es → RepAll K hd O H (vs ++ ws) (ds ++ es)
  | _, _, _, _, .nil, s => s
  | _, _, _, _, .cons r t, s => .cons r (RepAll.append t s)
theorem RepAll.take : ∀ {vs : List V} {ds : List D} (n : Nat), RepAll K hd O H vs ds → RepAll K hd O H (vs.take n) (ds.take n)
  | _, _, 0, _ => .nil
  | _, _, _ + 1, .nil => .nil
  | _, _, n + 1, .cons r t => .cons r (RepAll.take n t)
theorem RepAll.drop : ∀ {vs : List V} {ds : List D} (n : Nat), RepAll K hd O H vs ds → RepAll K hd O H (vs.drop n) (ds.drop n)
  | _, _, 0, r => r
  | _, _, _ + 1, .nil => .nil
  | _, _, n + 1, .cons _ t => RepAll.drop n t
theorem RepAll.rev : ∀ {vs : List V} {ds : List D}, RepAll K hd O H vs ds → RepAll K hd O H vs.reverse ds.reverse
  | _, _, .nil => .nil
  | _, _, .cons r t => by rw [List.reverse_cons, List.reverse_cons]; exact t.rev.append (.cons r .nil)
theorem RepAll.set : ∀ {vs : List V} {ds : List D} {v : V} {d : D} (n : Nat), RepAll K hd O H vs ds → Rep K hd O H v d → RepAll K hd O H (vs.set n v) (ds.set n d)
  | _, _, _, _, _, .nil, _ => .nil
  | _, _, _, _, 0, .cons _ t, q => .cons q t
  | _, _, _, _, n + 1, .cons r t, q => .cons r (RepAll.set n t q)
theorem RepAll.ints : ∀ (ns : List Int), RepAll K hd O H (ns.map V.int) (ns.map PyData.int)
  | [] => .nil
  | n :: r => .cons (.int n) (RepAll.ints r)
theorem RepAll.bools : ∀ (ns : List Bool), RepAll K hd O H (ns.map V.bl) (ns.map PyData.bool)
  | [] => .nil
  | n :: r => .cons (.bl n) (RepAll.bools r)
/-- a list's ints -/
def intsOf : List D → Option (List Int)
  | [] => some []
  | .int i :: r => (intsOf r).map (i :: ·)
  | _ :: _ => none
theorem intsOf_map : ∀ (l : List Int), intsOf (l.map PyData.int) = some l
  | [] => rfl
  | i :: r => by simp [intsOf, intsOf_map r]
theorem intsOf_some : ∀ {l : List D} {ns : List Int}, intsOf l = some ns → l = ns.map PyData.int
  | [], ns, h => by cases h; rfl
  | .int i :: r, ns, h => by
    simp only [intsOf, Option.map_eq_some_iff] at h
    obtain ⟨m, e, rfl⟩ := h
    rw [intsOf_some e]; rfl
  | .none :: _, _, h => by cases h
  | .bool _ :: _, _, h => by cases h
  | .str _ :: _, _, h => by cases h
  | .list _ :: _, _, h => by cases h
  | .tuple _ :: _, _, h => by cases h
  | .dict _ :: _, _, h => by cases h
theorem RepAll.toInts : ∀ {vs : List V} {ns : List Int}, RepAll K hd O H vs (ns.map PyData.int) → vs = ns.map V.int
  | _, [], h => by cases h; rfl
  | _, n :: r, h => by
    cases h with
    | cons a t => cases a; rw [t.toInts]; rfl
def boolsOf : List D → Option (List Bool)
  | [] => some []
  | .bool i :: r => (boolsOf r).map (i :: ·)
  | _ :: _ => none
theorem boolsOf_map : ∀ (l : List Bool), boolsOf (l.map PyData.bool) = some l
  | [] => rfl
  | i :: r => by simp [boolsOf, boolsOf_map r]
theorem boolsOf_some : ∀ {l : List D} {ns : List Bool}, boolsOf l = some ns → l = ns.map PyData.bool
  | [], ns, h => by cases h; rfl
  | .bool i :: r, ns, h => by
    simp only [boolsOf, Option.map_eq_some_iff] at h
    obtain ⟨m, e, rfl⟩ := h
    rw [boolsOf_some e]; rfl
  | .none :: _, _, h => by cases h
  | .int _ :: _, _, h => by cases h
  | .str _ :: _, _, h => by cases h
  | .list _ :: _, _, h => by cases h
  | .tuple _ :: _, _, h => by cases h
  | .dict _ :: _, _, h => by cases h
theorem RepAll.toBools : ∀ {vs : List V} {ns : List Bool}, RepAll K hd O H vs (ns.map PyData.bool) → vs = ns.map V.bl
  | _, [], h => by cases h; rfl
  | _, n :: r, h => by
    cases h with
    | cons a t => cases a; rw [t.toBools]; rfl
end


/-! ### modes: a value that may be an owned object itself (bo), shared data (sh), a new object (fr) -/
inductive Mode where
  | bo | sh | fr
  deriving DecidableEq
/-- as Rep, the object itself may be one of the def's own -/
def RepB (K : PySem.W.Frag) (hd : Addr) (Oe O : List Addr) (H : Hp) (v : V) (d : D) : Prop :=
  Rep K hd O H v d ∨ ∃ a xs ds, v = .ref a ∧ d = .list ds ∧ a ∉ Oe ∧ H a = some (.lst xs) ∧ xs.length ≤ SZ ∧ RepAll K hd O H xs ds
/-- H0: the heap ahead of the expression -/
def RepM (m : Mode) (K : PySem.W.Frag) (hd : Addr) (Oe : List Addr) (H0 : Hp) (O : List Addr) (H : Hp) (v : V) (d : D) : Prop :=
  match m with
  | .bo => RepB K hd Oe O H v d
  | .sh => Rep K hd O H v d
  | .fr => ∃ a xs ds, v = .ref a ∧ d = .list ds ∧ H0 a = none ∧ H a = some (.lst xs) ∧ xs.length ≤ SZ ∧ RepAll K hd (a :: O) H xs ds
section
variable {K : PySem.W.Frag} {hd : Addr} {Oe O : List Addr} {H0 H0' H H' : Hp} {v : V} {d : D}
theorem RepB.ext (r : RepB K hd Oe O H v d) (hE : hd ∈ Oe) (h0 : hd ∈ O) (e : Ext hd H H') : RepB K hd Oe O H' v d := by
  rcases r with r | ⟨a, xs, ds, e1, e2, n, s, z, r⟩
  · exact .inl (r.ext h0 e)
  · exact .inr ⟨a, xs, ds, e1, e2, n, e.keep _ _ (fun q => n (q ▸ hE)) s, z, r.ext h0 e⟩
theorem RepM.shr {m : Mode} (hm : m ≠ .bo) (r : RepM m K hd Oe H0 O H v d) (ho : ∀ b ∈ O, H0 b ≠ none) : Rep K hd O H v d := by
  cases m with
  | bo => exact absurd rfl hm
  | sh => exact r
  | fr => obtain ⟨a, xs, ds, rfl, rfl, n, s, z, r⟩ := r; exact .lst s (fun q => ho a q n) z (r.less fun _ q => List.mem_cons_of_mem _ q)
theorem RepM.b {m : Mode} (r : RepM m K hd Oe H0 O H v d) (ho : ∀ b ∈ O, H0 b ≠ none) : RepB K hd Oe O H v d := by
  cases m with
  | bo => exact r
  | sh => exact .inl r
  | fr => exact .inl (RepM.shr (m := .fr) (by decide) r ho)
theorem RepB.lst {ds : List D} (r : RepB K hd Oe O H v (.list ds)) (hE : ∀ b ∈ Oe, b ∈ O) : ∃ a xs, v = .ref a ∧ a ∉ Oe ∧ H a = some (.lst xs) ∧ xs.length ≤ SZ ∧ RepAll K hd O H xs ds := by
  rcases r with r | ⟨a, xs, ds', e1, e2, n, s, z, r⟩
  · cases r with
    | lst h n z r => exact ⟨_, _, rfl, fun q => n (hE _ q), h, z, r⟩
  · cases e2; exact ⟨a, xs, e1, n, s, z, r⟩
theorem RepB.tup {ds : List D} (r : RepB K hd Oe O H v (.tuple ds)) : ∃ a xs, v = .ref a ∧ TupAt K H a xs ∧ xs.length ≤ SZ ∧ RepAll K hd O H xs ds := by
  rcases r with r | ⟨a, xs, ds', e1, e2, n, s, z, r⟩
  · cases r with
    | tup h z r => exact ⟨_, _, rfl, h, z, r⟩
  · cases e2
theorem RepB.int {i : Int} (r : RepB K hd Oe O H v (.int i)) : v = .int i := by
  rcases r with r | ⟨a, xs, ds', e1, e2, _⟩
  · cases r; rfl
  · cases e2
theorem RepB.bl {i : Bool} (r : RepB K hd Oe O H v (.bool i)) : v = .bl i := by
  rcases r with r | ⟨a, xs, ds', e1, e2, _⟩
  · cases r; rfl
  · cases e2
theorem RepB.non (r : RepB K hd Oe O H v .none) : v = .non := by
  rcases r with r | ⟨a, xs, ds', e1, e2, _⟩
  · cases r; rfl
  · cases e2
theorem RepB.str {i : Str} (r : RepB K hd Oe O H v (.str i)) : v = .str i := by
  rcases r with r | ⟨a, xs, ds', e1, e2, _⟩
  · cases r; rfl
  · cases e2
end

/-! ### the hand stands -/
structure HandIs (hd hc : Addr) (w : W) (H : Hp) : Prop where
  at_ : H hd = some (.lst [.ref hc, .int w.i, .int w.rest, .int w.mix, .int w.cnt])
  cells : H hc = some (.lst (w.cells.map V.int))
  ne : hc ≠ hd
  sz : w.cells.length ≤ SZ
theorem HandIs.keep {hd hc : Addr} {w : W} {H H' : Hp} (h : HandIs hd hc w H) (k : H' hd = H hd) (k2 : H' hc = H hc) : HandIs hd hc w H' := ⟨k.trans h.at_, k2.trans h.cells, h.ne, h.sz⟩
theorem HandIs.new {hd hc : Addr} {w : W} {H : Hp} {p : Addr} {o : HO} (h : HandIs hd hc w H) (n : H p = none) : HandIs hd hc w (upd H p o) :=
  h.keep (upd_ne (ne_of_none h.at_ n)) (upd_ne (ne_of_none h.cells n))
/-- a new address of a later heap was new -/
theorem Ext.old {hd hc : Addr} {w : W} {H H' : Hp} {a : Addr} (e : Ext hd H H') (h : HandIs hd hc w H') (n : H' a = none) : H a = none := by
  cases q : H a with
  | none => rfl
  | some o =>
    by_cases z : a = hd
    · subst z; rw [h.at_] at n; cases n
    · rw [e.keep a o z q] at n; cases n
theorem RepM.base {m : Mode} {K : PySem.W.Frag} {hd hc : Addr} {w : W} {Oe O : List Addr} {H0 H1 H : Hp} {v : V} {d : D} (r : RepM m K hd Oe H1 O H v d) (e : Ext hd H0 H1) (h : HandIs hd hc w H1) : RepM m K hd Oe H0 O H v d := by
  cases m with
  | bo => exact r
  | sh => exact r
  | fr => obtain ⟨a, xs, ds, rfl, rfl, n, s, z, r⟩ := r; exact ⟨a, xs, ds, rfl, rfl, e.old h n, s, z, r⟩
theorem RepM.later {m : Mode} {K : PySem.W.Frag} {hd : Addr} {Oe O : List Addr} {H0 H H' : Hp} {v : V} {d : D} (r : RepM m K hd Oe H0 O H v d) (hE : hd ∈ Oe) (hO : hd ∈ O) (h0 : H0 hd ≠ none) (e : Ext hd H H') : RepM m K hd Oe H0 O H' v d := by
  cases m with
  | bo => exact RepB.ext r hE hO e
  | sh => exact Rep.ext r hO e
  | fr => obtain ⟨a, xs, ds, rfl, rfl, n, s, z, r⟩ := r; exact ⟨a, xs, ds, rfl, rfl, n, e.keep a _ (fun z => h0 (z ▸ n)) s, z, r.ext (List.mem_cons_of_mem _ hO) e⟩

/-! ### the state of a def's frame -/
def SlotOk (K : PySem.W.Frag) (hd : Addr) (H0 : Hp) (O : List Addr) (H : Hp) : Slot → Option (Option V) → Prop
  | .no, _ => True
  | .sh d, o => ∃ v, o = some (some v) ∧ Rep K hd O H v d
  | .ow d, o => ∃ a xs ds, o = some (some (.ref a)) ∧ d = .list ds ∧ H a = some (.lst xs) ∧ xs.length ≤ SZ ∧ RepAll K hd O H xs ds ∧ a ∈ O ∧ H0 a = none
structure Stt (K : PySem.W.Frag) (hd hc : Addr) (H0 : Hp) (Oe O : List Addr) (w : W) (env : Env) (σ : List (Option V)) (H : Hp) : Prop where
  ext : Ext hd H0 H
  hd0 : H0 hd ≠ none
  hc0 : H0 hc ≠ none
  hdE : hd ∈ Oe
  hcO : hc ∉ O
  sub : ∀ b ∈ Oe, b ∈ O
  oe : ∀ b ∈ Oe, H0 b ≠ none
  onn : ∀ b ∈ O, H b ≠ none
  hand : HandIs hd hc w H
  len : env.length = σ.length
  slot : ∀ (i : Nat) (s : Slot), env[i]? = some s → SlotOk K hd H0 O H s σ[i]?
  dist : ∀ (i j : Nat) (d e : D) (a : Addr), env[i]? = some (.ow d) → env[j]? = some (.ow e) → σ[i]? = some (some (.ref a)) → σ[j]? = some (some (.ref a)) → i = j
section
variable {K : PySem.W.Frag} {hd hc : Addr} {H0 : Hp} {Oe O : List Addr} {w w' : W} {env : Env} {σ : List (Option V)} {H H' : Hp}
theorem Stt.hdO (S : Stt K hd hc H0 Oe O w env σ H) : hd ∈ O := S.sub _ S.hdE
theorem Stt.neh (S : Stt K hd hc H0 Oe O w env σ H) {a : Addr} (h : H0 a = none) : a ≠ hd ∧ a ≠ hc ∧ a ∉ Oe := ⟨fun z => S.hd0 (z ▸ h), fun z => S.hc0 (z ▸ h), fun z => S.oe a z h⟩
theorem Stt.hdn (S : Stt K hd hc H0 Oe O w env σ H) : H hd ≠ none := by rw [S.hand.at_]; intro z; cases z
/-- behind an expression -/
theorem Stt.step (S : Stt K hd hc H0 Oe O w env σ H) (e : Ext hd H H') (h : HandIs hd hc w' H') : Stt K hd hc H0 Oe O w' env σ H' where
  ext := S.ext.trans e
  hd0 := S.hd0
  hc0 := S.hc0
  hdE := S.hdE
  hcO := S.hcO
  sub := S.sub
  oe := S.oe
  onn := fun b hb z => S.onn b hb (e.old h z)
  hand := h
  len := S.len
  slot := fun i s hs => by
    have q := S.slot i s hs
    cases s with
    | no => trivial
    | sh d => obtain ⟨v, e1, r⟩ := q; exact ⟨v, e1, r.ext S.hdO e⟩
    | ow d =>
      obtain ⟨a, xs, ds, e1, e2, ha, z, r, m, n⟩ := q
      exact ⟨a, xs, ds, e1, e2, e.keep a _ (S.neh n).1 ha, z, r.ext S.hdO e, m, n⟩
  dist := S.dist
end
end DL

set_option maxRecDepth 100000
/-! DL2: expressions -/
namespace DL
open PySem L2

abbrev F1 (α : Type) := Env → W → Option (α × W)

/-- t gives what f says -/
structure SndE (K : PySem.W.Frag) (m : Mode) (t : TE) (f : F1 D) : Prop where
  go : ∀ {hd hc : Addr} {H0 : Hp} {Oe O : List Addr} {w : W} {env : Env} {σ : List (Option V)} {H : Hp}, Stt K hd hc H0 Oe O w env σ H → ∀ {d : D} {w' : W}, f env w = some (d, w') →
    ∀ (Q : VK), (∀ v H', Ext hd H H' → HandIs hd hc w' H' → RepM m K hd Oe H O H' v d → Q v H') → t σ H Q
structure SndT (K : PySem.W.Frag) (t : TT) (f : F1 Bool) : Prop where
  go : ∀ {hd hc : Addr} {H0 : Hp} {Oe O : List Addr} {w : W} {env : Env} {σ : List (Option V)} {H : Hp}, Stt K hd hc H0 Oe O w env σ H → ∀ {d : Bool} {w' : W}, f env w = some (d, w') →
    ∀ (Q : Bool → Hp → Prop), (∀ H', Ext hd H H' → HandIs hd hc w' H' → Q d H') → t σ H Q

/-- values by modes: as the addresses of the new lists among them -/
inductive RepMs (K : PySem.W.Frag) (hd : Addr) (Oe O2 : List Addr) (H : Hp) : List Addr → List Mode → List V → List D → Prop
  | nil : RepMs K hd Oe O2 H [] [] [] []
  | sh {as : List Addr} {ms : List Mode} {v : V} {vs : List V} {d : D} {ds : List D} : Rep K hd O2 H v d → RepMs K hd Oe O2 H as ms vs ds → RepMs K hd Oe O2 H as (.sh :: ms) (v :: vs) (d :: ds)
  | bo {as : List Addr} {ms : List Mode} {v : V} {vs : List V} {d : D} {ds : List D} : RepB K hd Oe O2 H v d → RepMs K hd Oe O2 H as ms vs ds → RepMs K hd Oe O2 H as (.bo :: ms) (v :: vs) (d :: ds)
  | fr {as : List Addr} {ms : List Mode} {a : Addr} {xs vs : List V} {es ds : List D} : H a = some (.lst xs) → xs.length ≤ SZ → RepAll K hd O2 H xs es → RepMs K hd Oe O2 H as ms vs ds →
      RepMs K hd Oe O2 H (a :: as) (.fr :: ms) (.ref a :: vs) (.list es :: ds)
/-- the new addresses -/
structure News (H0 H : Hp) (O O2 as : List Addr) : Prop where
  new : ∀ a ∈ as, H0 a = none
  ex : ∀ a ∈ as, H a ≠ none
  nd : as.Nodup
  mem : ∀ b, b ∈ O2 ↔ b ∈ as ∨ b ∈ O
structure SndA (K : PySem.W.Frag) (ms : List Mode) (t : TA) (f : F1 (List D)) : Prop where
  go : ∀ {hd hc : Addr} {H0 : Hp} {Oe O : List Addr} {w : W} {env : Env} {σ : List (Option V)} {H : Hp}, Stt K hd hc H0 Oe O w env σ H → ∀ {d : List D} {w' : W}, f env w = some (d, w') →
    ∀ (Q : List V → Hp → Prop), (∀ vs H' as O2, Ext hd H H' → HandIs hd hc w' H' → News H H' O O2 as → RepMs K hd Oe O2 H' as ms vs d → Q vs H') → t σ H Q
section
variable {K : PySem.W.Frag} {hd hc : Addr} {Oe O O2 as : List Addr} {H0 H H' : Hp} {w : W}
theorem RepMs.len1 : ∀ {as : List Addr} {ms : List Mode} {vs : List V} {ds : List D}, RepMs K hd Oe O2 H as ms vs ds → vs.length = ms.length
  | _, _, _, _, .nil => rfl
  | _, _, _, _, .sh _ t => by simp [t.len1]
  | _, _, _, _, .bo _ t => by simp [t.len1]
  | _, _, _, _, .fr _ _ _ t => by simp [t.len1]
theorem RepMs.len2 : ∀ {as : List Addr} {ms : List Mode} {vs : List V} {ds : List D}, RepMs K hd Oe O2 H as ms vs ds → ds.length = ms.length
  | _, _, _, _, .nil => rfl
  | _, _, _, _, .sh _ t => by simp [t.len2]
  | _, _, _, _, .bo _ t => by simp [t.len2]
  | _, _, _, _, .fr _ _ _ t => by simp [t.len2]
theorem RepMs.all_ (hO : ∀ b ∈ O, b ∈ O2) : ∀ {as : List Addr} {ms : List Mode} {vs : List V} {ds : List D}, RepMs K hd Oe O2 H as ms vs ds → (∀ m ∈ ms, m ≠ .bo) → (∀ a ∈ as, a ∉ O) → RepAll K hd O H vs ds
  | _, _, _, _, .nil, _, _ => .nil
  | _, _, _, _, .sh r t, h, o => .cons (r.less hO) (t.all_ hO (fun m hm => h m (List.mem_cons_of_mem _ hm)) o)
  | _, _, _, _, .bo _ _, h, _ => absurd rfl (h _ List.mem_cons_self)
  | _, _, _, _, .fr ha z r t, h, o => .cons (.lst ha (o _ List.mem_cons_self) z (r.less hO)) (t.all_ hO (fun m hm => h m (List.mem_cons_of_mem _ hm)) fun a ha => o a (List.mem_cons_of_mem _ ha))
theorem RepMs.all {ms : List Mode} {vs : List V} {ds : List D} (r : RepMs K hd Oe O2 H as ms vs ds) (n : News H0 H O O2 as) (h : ms.all (fun m => m != .bo) = true) (ho : ∀ b ∈ O, H0 b ≠ none) : RepAll K hd O H vs ds :=
  r.all_ (fun b hb => (n.mem b).mpr (.inr hb)) (fun m hm => by simpa using List.all_eq_true.mp h m hm) fun a ha hO => ho a hO (n.new a ha)
theorem News.prog (n : News H H' O O2 as) (e : Ext hd H H') (h : hd ∈ O) : Prog O H O2 H' :=
  ⟨fun b o nb q => ⟨fun z => by
    rcases (n.mem b).mp z with z | z
    · rw [n.new b z] at q; cases q
    · exact nb z, e.keep b o (fun z => nb (z ▸ h)) q⟩, e.tups⟩
/-- a new list, laid by an expression, becomes one of the owned -/
theorem Stt.stepL {H0 : Hp} {env : Env} {σ : List (Option V)} {w' : W} (S : Stt K hd hc H0 Oe O w env σ H) (e : Ext hd H H') (h : HandIs hd hc w' H') (n : News H H' O O2 as) : Stt K hd hc H0 Oe O2 w' env σ H' := by
  have S1 := S.step e h
  have g := n.prog e S.hdO
  exact {
    ext := S1.ext, hd0 := S.hd0, hc0 := S.hc0, hdE := S.hdE, hcO := fun z => (n.mem hc).mp z |>.elim (fun z => by have := n.new hc z; rw [S.hand.cells] at this; cases this) S.hcO, sub := fun b hb => (n.mem b).mpr (.inr (S.sub b hb)), oe := S.oe,
    onn := fun b hb z => by
      rcases (n.mem b).mp hb with hb | hb
      · exact n.ex b hb z
      · exact S1.onn b hb z
    hand := h, len := S.len,
    slot := fun i s hs => by
      have q := S.slot i s hs
      cases s with
      | no => trivial
      | sh d => obtain ⟨v, e1, r⟩ := q; exact ⟨v, e1, r.prog g⟩
      | ow d =>
        obtain ⟨b, xs, ds, e1, e2, hb, z, r, m, k⟩ := q
        exact ⟨b, xs, ds, e1, e2, e.keep b _ (S.neh k).1 hb, z, r.prog g, (n.mem b).mpr (.inr m), k⟩
    dist := S.dist }
end

/-! ### what is denoted -/
def eVar (i : Nat) : F1 D := fun env w => match env[i]? with
  | some (.sh d) => some (d, w)
  | _ => none
def eBor (i : Nat) : F1 D := fun env w => match env[i]? with
  | some (.sh d) => some (d, w)
  | some (.ow d) => some (d, w)
  | _ => none
def eC (d : D) : F1 D := fun _ w => some (d, w)
def e2 (g : D → D → Option D) (fa fb : F1 D) : F1 D := fun env w => (fa env w).bind fun p => (fb env p.2).bind fun q => (g p.1 q.1).map fun d => (d, q.2)
def e1 (g : D → Option D) (fa : F1 D) : F1 D := fun env w => (fa env w).bind fun p => (g p.1).map fun d => (d, p.2)
def eA0 : F1 (List D) := fun _ w => some ([], w)
def eA (fa : F1 D) (fr : F1 (List D)) : F1 (List D) := fun env w => (fa env w).bind fun p => (fr env p.2).map fun q => (p.1 :: q.1, q.2)
def eTup (f : F1 (List D)) : F1 D := fun env w => (f env w).map fun p => (.tuple p.1, p.2)
def eLst (f : F1 (List D)) : F1 D := fun env w => (f env w).map fun p => (.list p.1, p.2)
def asB : D → Option Bool
  | .bool b => some b
  | _ => none
def bV (f : F1 D) : F1 Bool := fun env w => (f env w).bind fun p => (asB p.1).map fun b => (b, p.2)
def bAnd (f g : F1 Bool) : F1 Bool := fun env w => (f env w).bind fun p => if p.1 = true then g env p.2 else some (false, p.2)
def bOr (f g : F1 Bool) : F1 Bool := fun env w => (f env w).bind fun p => if p.1 = true then some (true, p.2) else g env p.2
def bNot (f : F1 Bool) : F1 Bool := fun env w => (f env w).map fun p => (!p.1, p.2)
def eAndV (f g : F1 D) : F1 D := fun env w => (f env w).bind fun p => (asB p.1).bind fun b => if b = true then g env p.2 else some (.bool false, p.2)
def eOrV (f g : F1 D) : F1 D := fun env w => (f env w).bind fun p => (asB p.1).bind fun b => if b = true then some (.bool true, p.2) else g env p.2
def eNotV (f : F1 D) : F1 D := fun env w => (f env w).bind fun p => (asB p.1).map fun b => (.bool (!b), p.2)
def eIf (t : F1 Bool) (f g : F1 D) : F1 D := fun env w => (t env w).bind fun p => if p.1 = true then f env p.2 else g env p.2
def eCall (g : List D → W → Option (D × W)) (fa : F1 (List D)) : F1 D := fun env w => (fa env w).bind fun p => g p.1 p.2

section
variable {K : PySem.W.Frag} {m ma mb : Mode} {ta tb : TE} {fa fb : F1 D}
theorem bindS {α β : Type} {x : Option α} {k : α → Option β} {b : β} (h : x.bind k = some b) : ∃ a, x = some a ∧ k a = some b := Option.bind_eq_some_iff.mp h
theorem mapS {α β : Type} {x : Option α} {k : α → β} {b : β} (h : x.map k = some b) : ∃ a, x = some a ∧ k a = b := Option.map_eq_some_iff.mp h

theorem SndE.bo (h : SndE K m ta fa) : SndE K .bo ta fa := ⟨fun S _ _ e Q q => h.go S e Q fun v H' e' h' r => q v H' e' h' (r.b S.onn)⟩
theorem SndE.sh (h : SndE K .fr ta fa) : SndE K .sh ta fa := ⟨fun S _ _ e Q q => h.go S e Q fun v H' e' h' r => q v H' e' h' (r.shr (by decide) S.onn)⟩

/-! ### names, constants -/
theorem sn_var (i : Nat) : SndE K .sh (tVar i) (eVar i) := ⟨fun {hd hc H0 Oe O w env σ H} S d w' e Q q => by
  unfold eVar at e
  split at e
  · rename_i d' hd'
    cases e
    obtain ⟨v, e1, r⟩ := S.slot i _ hd'
    exact ⟨v, e1, q v H .refl S.hand r⟩
  · cases e⟩
theorem sn_bor (i : Nat) : SndE K .bo (tVar i) (eBor i) := ⟨fun {hd hc H0 Oe O w env σ H} S d w' e Q q => by
  unfold eBor at e
  split at e
  · rename_i d' hd'
    cases e
    obtain ⟨v, e1, r⟩ := S.slot i _ hd'
    exact ⟨v, e1, q v H .refl S.hand (.inl r)⟩
  · rename_i d' hd'
    cases e
    obtain ⟨a, xs, ds, e1, rfl, ha, z, r, hO, hn⟩ := S.slot i _ hd'
    exact ⟨_, e1, q _ H .refl S.hand (.inr ⟨a, xs, ds, rfl, rfl, (S.neh hn).2.2, ha, z, r⟩)⟩
  · cases e⟩
theorem sn_int (i : Int) : SndE K .sh (tC (.int i)) (eC (.int i)) := ⟨fun S _ _ e Q q => by cases e; exact q _ _ .refl S.hand (.int i)⟩
theorem sn_bl (i : Bool) : SndE K .sh (tC (.bl i)) (eC (.bool i)) := ⟨fun S _ _ e Q q => by cases e; exact q _ _ .refl S.hand (.bl i)⟩
theorem sn_str (i : Str) : SndE K .sh (tC (.str i)) (eC (.str i)) := ⟨fun S _ _ e Q q => by cases e; exact q _ _ .refl S.hand (.str i)⟩
theorem sn_non : SndE K .sh (tC .non) (eC .none) := ⟨fun S _ _ e Q q => by cases e; exact q _ _ .refl S.hand .non⟩

/-! ### operators by values -/
def Op2 (K : PySem.W.Frag) (m : Mode) (r : R2) (g : D → D → Option D) : Prop :=
  ∀ {hd hc : Addr} {Oe O : List Addr} {w : W} {H : Hp} {x y : V} {dx dy d : D} {Q : VK}, hd ∈ Oe → (∀ b ∈ Oe, b ∈ O) → (∀ b ∈ O, H b ≠ none) → HandIs hd hc w H → RepB K hd Oe O H x dx → RepB K hd Oe O H y dy → g dx dy = some d →
    (∀ v H', Ext hd H H' → HandIs hd hc w H' → RepM m K hd Oe H O H' v d → Q v H') → r x y H Q
def Op1 (K : PySem.W.Frag) (m : Mode) (r : V → Hp → VK → Prop) (g : D → Option D) : Prop :=
  ∀ {hd hc : Addr} {Oe O : List Addr} {w : W} {H : Hp} {x : V} {dx d : D} {Q : VK}, hd ∈ Oe → (∀ b ∈ Oe, b ∈ O) → (∀ b ∈ O, H b ≠ none) → HandIs hd hc w H → RepB K hd Oe O H x dx → g dx = some d →
    (∀ v H', Ext hd H H' → HandIs hd hc w H' → RepM m K hd Oe H O H' v d → Q v H') → r x H Q
def Cl1 (K : PySem.W.Frag) (m : Mode) (r : List V → Hp → VK → Prop) (g : D → Option D) : Prop := Op1 K m (fun x H Q => r [x] H Q) g
def Cl2 (K : PySem.W.Frag) (m : Mode) (r : List V → Hp → VK → Prop) (g : D → D → Option D) : Prop := Op2 K m (fun x y H Q => r [x, y] H Q) g
def Mt1 (K : PySem.W.Frag) (m : Mode) (r : V → List V → Hp → VK → Prop) (g : D → D → Option D) : Prop := Op2 K m (fun x y H Q => r x [y] H Q) g

/-- two operands, one behind the other -/
theorem two (ha : SndE K ma ta fa) (hb : SndE K mb tb fb) {hd hc : Addr} {H0 : Hp} {Oe O : List Addr} {w : W} {env : Env} {σ : List (Option V)} {H : Hp} (S : Stt K hd hc H0 Oe O w env σ H)
    {x y : D} {w1 w2 : W} (e1 : fa env w = some (x, w1)) (e2 : fb env w1 = some (y, w2)) {R : V → V → Hp → Prop}
    (k : ∀ v u H2, Ext hd H H2 → Stt K hd hc H0 Oe O w2 env σ H2 → RepM ma K hd Oe H O H2 v x → RepM mb K hd Oe H O H2 u y → R v u H2) : ta σ H fun v H1 => tb σ H1 fun u H2 => R v u H2 :=
  ha.go S e1 _ fun v H1 x1 h1 r1 => hb.go (S.step x1 h1) e2 _ fun u H2 x2 h2 r2 =>
    k v u H2 (x1.trans x2) (S.step (x1.trans x2) h2) (r1.later S.hdE S.hdO S.hdn x2) (r2.base x1 h1)
theorem sn_op {r : R2} {g : D → D → Option D} (ho : Op2 K m r g) (ha : SndE K ma ta fa) (hb : SndE K mb tb fb) : SndE K m (tOp r ta tb) (e2 g fa fb) := ⟨fun {hd hc H0 Oe O w env σ H} S d w' e Q q => by
  obtain ⟨⟨x, w1⟩, h1, e⟩ := bindS e
  obtain ⟨⟨y, w2⟩, h2, e⟩ := bindS e
  obtain ⟨z, h3, e⟩ := mapS e
  cases e
  exact two ha hb S h1 h2 fun v u H2 x2 S2 r1 r2 => ho S.hdE S.sub S2.onn S2.hand (r1.b S.onn) (r2.b S.onn) h3 fun z H' x3 h3 r3 => q z H' (x2.trans x3) h3 (r3.base x2 S2.hand)⟩
theorem sn_un {r : V → Hp → VK → Prop} {g : D → Option D} (ho : Op1 K m r g) (ha : SndE K ma ta fa) : SndE K m (tUn r ta) (e1 g fa) := ⟨fun {hd hc H0 Oe O w env σ H} S d w' e Q q => by
  obtain ⟨⟨x, w1⟩, h1, e⟩ := bindS e
  obtain ⟨z, h3, e⟩ := mapS e
  cases e
  exact ha.go S h1 _ fun v H1 x1 h1 r1 => ho S.hdE S.sub (S.step x1 h1).onn h1 (r1.b S.onn) h3 fun z H' x3 h3 r3 => q z H' (x1.trans x3) h3 (r3.base x1 h1)⟩
theorem sn_cb1 {r : List V → Hp → VK → Prop} {g : D → Option D} (ho : Cl1 K m r g) (ha : SndE K ma ta fa) : SndE K m (tCB r (tCons ta tNil)) (e1 g fa) := sn_un (r := fun x H Q => r [x] H Q) ho ha
theorem sn_cb2 {r : List V → Hp → VK → Prop} {g : D → D → Option D} (ho : Cl2 K m r g) (ha : SndE K ma ta fa) (hb : SndE K mb tb fb) : SndE K m (tCB r (tCons ta (tCons tb tNil))) (e2 g fa fb) :=
  sn_op (r := fun x y H Q => r [x, y] H Q) ho ha hb

/-! ### displays, calls of own defs -/

theorem News.nil {H : Hp} {O : List Addr} : News H H O O [] := ⟨fun _ h => (nomatch h), fun _ h => (nomatch h), List.nodup_nil, fun b => by simp⟩
theorem sn_a0 : SndA K [] tNil eA0 := ⟨fun S _ _ e Q q => by cases e; exact q _ _ _ _ .refl S.hand .nil .nil⟩
theorem sn_a {ms : List Mode} {t : TA} {f : F1 (List D)} (ha : SndE K m ta fa) (ht : SndA K ms t f) : SndA K (m :: ms) (tCons ta t) (eA fa f) := ⟨fun {hd hc H0 Oe O w env σ H} S d w' e Q q => by
  obtain ⟨⟨x, w1⟩, e1, e⟩ := bindS e
  obtain ⟨⟨y, w2⟩, e2, e⟩ := mapS e
  cases e
  refine ha.go S e1 _ fun v H1 x1 h1 r1 => ?_
  cases m with
  | sh => exact ht.go (S.step x1 h1) e2 _ fun vs H2 as O2 x2 h2 n r2 => q _ H2 as O2 (x1.trans x2) h2 ⟨fun a ha => x1.old h1 (n.new a ha), n.ex, n.nd, n.mem⟩ (.sh (Rep.prog (n.prog x2 S.hdO) r1) r2)
  | bo => exact ht.go (S.step x1 h1) e2 _ fun vs H2 as O2 x2 h2 n r2 => q _ H2 as O2 (x1.trans x2) h2 ⟨fun a ha => x1.old h1 (n.new a ha), n.ex, n.nd, n.mem⟩ (.bo (by
      rcases r1 with r1 | ⟨a, xs, ds, e1, e2, na, s, z, r1⟩
      · exact .inl (r1.prog (n.prog x2 S.hdO))
      · exact .inr ⟨a, xs, ds, e1, e2, na, x2.keep _ _ (fun z => na (z ▸ S.hdE)) s, z, r1.prog (n.prog x2 S.hdO)⟩) r2)
  | fr =>
    obtain ⟨a, xs, ds, rfl, rfl, na, hA, z, r1⟩ := r1
    have ane : H1 a ≠ none := by
      rw [hA]
      intro q
      cases q
    have n1 : News H H1 O (a :: O) [a] := ⟨fun b hb => (by rw [List.mem_singleton.mp hb]; exact na), fun b hb => (by rw [List.mem_singleton.mp hb]; exact ane), (by simp), fun b => (by simp)⟩
    refine ht.go (S.stepL x1 h1 n1) e2 _ fun vs H2 as O2 x2 h2 n r2 => q _ H2 (a :: as) O2 (x1.trans x2) h2 ⟨fun b hb => ?_, fun b hb => ?_, ?_, fun b => ?_⟩ (.fr (x2.keep _ _ (fun z => S.hdn (z ▸ na)) hA) z (r1.prog (n.prog x2 (List.mem_cons_of_mem _ S.hdO))) r2)
    · rcases List.mem_cons.mp hb with rfl | hb
      · exact na
      · exact x1.old h1 (n.new b hb)
    · rcases List.mem_cons.mp hb with rfl | hb
      · rw [x2.keep _ _ (fun z => S.hdn (z ▸ na)) hA]
        intro q
        cases q
      · exact n.ex b hb
    · exact List.nodup_cons.mpr ⟨fun z => absurd (n.new a z) ane, n.nd⟩
    · rw [n.mem b]
      simp only [List.mem_cons]
      constructor
      · rintro (h | h | h)
        · exact .inl (.inr h)
        · exact .inl (.inl h)
        · exact .inr h
      · rintro ((h | h) | h)
        · exact .inr (.inl h)
        · exact .inl h
        · exact .inr (.inr h)⟩
theorem sn_tup {ms : List Mode} {t : TA} {f : F1 (List D)} (ht : SndA K ms t f) (h1 : ms.all (fun m => m != .bo) = true := by rfl) (h2 : ms.length ≤ SZ := by decide) : SndE K .sh (tTup t) (eTup f) := ⟨fun {hd hc H0 Oe O w env σ H} S d w' e Q q => by
  obtain ⟨⟨x, w1⟩, h3, e⟩ := mapS e
  cases e
  exact ht.go S h3 _ fun vs H1 as O2 x1 hh n1 r1 => by
    have l : vs.length ≤ SZ := by rw [r1.len1]; exact h2
    refine ⟨l, fun p np => q _ _ (x1.trans (.new np)) (hh.new np) ?_⟩
    have ra := r1.all n1 h1 S.onn
    exact .tup (.inl upd_same) l (ra.ext S.hdO (.new np))⟩
theorem sn_lst {ms : List Mode} {t : TA} {f : F1 (List D)} (ht : SndA K ms t f) (h1 : ms.all (fun m => m != .bo) = true := by rfl) (h2 : ms.length ≤ SZ := by decide) : SndE K .fr (tLst t) (eLst f) := ⟨fun {hd hc H0 Oe O w env σ H} S d w' e Q q => by
  obtain ⟨⟨x, w1⟩, h3, e⟩ := mapS e
  cases e
  exact ht.go S h3 _ fun vs H1 as O2 x1 hh n1 r1 => by
    have l : vs.length ≤ SZ := by rw [r1.len1]; exact h2
    refine ⟨l, fun p np => q _ _ (x1.trans (.new np)) (hh.new np) ?_⟩
    have ra := r1.all n1 h1 S.onn
    exact ⟨p, vs, x, rfl, rfl, x1.old hh np, upd_same, l, ra.prog (.new np)⟩⟩

/-- a def's promise: what g says of data -/
def spD (K : PySem.W.Frag) (n : Nat) (g : List D → W → Option (D × W)) : Sp := fun vs H Q _ => ∃ (hd hc : Addr) (Oe : List Addr) (ds : List D) (w : W) (d : D) (w' : W),
  hd ∈ Oe ∧ hc ∉ Oe ∧ (∀ b ∈ Oe, H b ≠ none) ∧ HandIs hd hc w H ∧ RepAll K hd Oe H vs ds ∧ ds.length = n ∧ g ds w = some (d, w') ∧ ∀ v H', Ext hd H H' → HandIs hd hc w' H' → Rep K hd Oe H' v d → Q v H'
theorem spD.len {n : Nat} {g : List D → W → Option (D × W)} {vs : List V} {H : Hp} {Q : VK} {E : XK} (h : spD K n g vs H Q E) : vs.length = n := by
  obtain ⟨hd, hc, Oe, ds, w, d, w', _, _, _, _, r, l, _⟩ := h
  rw [r.len, l]
theorem sn_call {n : Nat} {ms : List Mode} {t : TA} {f : F1 (List D)} {g : List D → W → Option (D × W)} {E : XK} (ht : SndA K ms t f) (h1 : ms.all (fun m => m != .bo) = true := by rfl) (h2 : ms.length = n := by rfl) :
    SndE K .sh (tCall (spD K n g) [] E t) (eCall g f) := ⟨fun {hd hc H0 Oe O w env σ H} S d w' e Q q => by
  obtain ⟨⟨x, w1⟩, h3, e⟩ := bindS e
  exact ht.go S h3 _ fun vs H1 as O2 x1 hh n1 r1 => by
    have ra := r1.all n1 h1 S.onn
    refine ⟨hd, hc, O, x, w1, d, w', S.hdO, S.hcO, (S.step x1 hh).onn, hh, by rw [List.append_nil]; exact ra, by rw [r1.len2, h2], e, fun v H' x2 h2 r2 => q v H' (x1.trans x2) h2 r2⟩⟩

/-! ### tests -/
theorem sn_tst (h : SndE K m ta fa) : SndT K (tTest ta) (bV fa) := ⟨fun {hd hc H0 Oe O w env σ H} S d w' e Q q => by
  obtain ⟨⟨x, w1⟩, h1, e⟩ := bindS e
  obtain ⟨b, h2, e⟩ := mapS e
  cases e
  refine h.go S h1 _ fun v H' x1 hh r => ?_
  cases x with
  | bool b' =>
    cases h2
    exact ⟨_, (r.b S.onn).bl, q H' x1 hh⟩
  | _ => cases h2⟩
theorem sn_tB (h : SndE K m ta fa) : SndT K (tB ta) (bV fa) := sn_tst h
variable {tt tu : TT} {ft fu : F1 Bool}
theorem sn_and (h : SndT K tt ft) (h' : SndT K tu fu) : SndT K (tAnd tt tu) (bAnd ft fu) := ⟨fun {hd hc H0 Oe O w env σ H} S d w' e Q q => by
  obtain ⟨⟨x, w1⟩, h1, e⟩ := bindS e
  refine h.go S h1 _ fun H' x1 hh => ?_
  by_cases c : x = true
  · rw [if_pos c]; rw [if_pos (show (x, w1).1 = true from c)] at e
    exact h'.go (S.step x1 hh) e _ fun H2 x2 h2 => q H2 (x1.trans x2) h2
  · rw [if_neg c]; rw [if_neg (show ¬ (x, w1).1 = true from c)] at e
    cases e; exact q H' x1 hh⟩
theorem sn_or (h : SndT K tt ft) (h' : SndT K tu fu) : SndT K (tOr tt tu) (bOr ft fu) := ⟨fun {hd hc H0 Oe O w env σ H} S d w' e Q q => by
  obtain ⟨⟨x, w1⟩, h1, e⟩ := bindS e
  refine h.go S h1 _ fun H' x1 hh => ?_
  by_cases c : x = true
  · rw [if_pos c]; rw [if_pos (show (x, w1).1 = true from c)] at e
    cases e; exact q H' x1 hh
  · rw [if_neg c]; rw [if_neg (show ¬ (x, w1).1 = true from c)] at e
    exact h'.go (S.step x1 hh) e _ fun H2 x2 h2 => q H2 (x1.trans x2) h2⟩
theorem sn_not (h : SndT K tt ft) : SndT K (tNot tt) (bNot ft) := ⟨fun {hd hc H0 Oe O w env σ H} S d w' e Q q => by
  obtain ⟨⟨x, w1⟩, h1, e⟩ := mapS e
  cases e
  exact h.go S h1 _ fun H' x1 hh => q H' x1 hh⟩
theorem sn_andV (h : SndE K ma ta fa) (h' : SndE K m tb fb) (hm : m ≠ .fr := by decide) : SndE K m (tAndV ta tb) (eAndV fa fb) := ⟨fun {hd hc H0 Oe O w env σ H} S d w' e Q q => by
  obtain ⟨⟨x, w1⟩, h1, e⟩ := bindS e
  obtain ⟨b, h2, e⟩ := bindS e
  refine h.go S h1 _ fun v H' x1 hh r => ?_
  cases x with
  | bool b' =>
    cases h2
    refine ⟨b, (r.b S.onn).bl, ?_⟩
    by_cases c : b = true
    · rw [if_pos c]; rw [if_pos c] at e
      exact h'.go (S.step x1 hh) e _ fun v H2 x2 h2 r2 => q v H2 (x1.trans x2) h2 (r2.base x1 hh)
    · rw [if_neg c]; rw [if_neg c] at e
      cases e
      refine q _ H' x1 hh ?_
      cases m with
      | bo => exact .inl (.bl false)
      | sh => exact Rep.bl false
      | fr => exact absurd rfl hm
  | _ => cases h2⟩
theorem sn_orV (h : SndE K ma ta fa) (h' : SndE K m tb fb) (hm : m ≠ .fr := by decide) : SndE K m (tOrV ta tb) (eOrV fa fb) := ⟨fun {hd hc H0 Oe O w env σ H} S d w' e Q q => by
  obtain ⟨⟨x, w1⟩, h1, e⟩ := bindS e
  obtain ⟨b, h2, e⟩ := bindS e
  refine h.go S h1 _ fun v H' x1 hh r => ?_
  cases x with
  | bool b' =>
    cases h2
    refine ⟨b, (r.b S.onn).bl, ?_⟩
    by_cases c : b = true
    · rw [if_pos c]; rw [if_pos c] at e
      cases e
      refine q _ H' x1 hh ?_
      cases m with
      | bo => exact .inl (.bl true)
      | sh => exact Rep.bl true
      | fr => exact absurd rfl hm
    · rw [if_neg c]; rw [if_neg c] at e
      exact h'.go (S.step x1 hh) e _ fun v H2 x2 h2 r2 => q v H2 (x1.trans x2) h2 (r2.base x1 hh)
  | _ => cases h2⟩
theorem sn_notV (h : SndE K ma ta fa) : SndE K .sh (tNotV ta) (eNotV fa) := ⟨fun {hd hc H0 Oe O w env σ H} S d w' e Q q => by
  obtain ⟨⟨x, w1⟩, h1, e⟩ := bindS e
  obtain ⟨b, h2, e⟩ := mapS e
  cases e
  refine h.go S h1 _ fun v H' x1 hh r => ?_
  cases x with
  | bool b' =>
    cases h2
    exact ⟨b, (r.b S.onn).bl, q _ H' x1 hh (Rep.bl _)⟩
  | _ => cases h2⟩
theorem sn_ifx (h : SndT K tt ft) (h1 : SndE K m ta fa) (h2 : SndE K m tb fb) : SndE K m (tIf tt ta tb) (eIf ft fa fb) := ⟨fun {hd hc H0 Oe O w env σ H} S d w' e Q q => by
  obtain ⟨⟨x, w1⟩, h3, e⟩ := bindS e
  refine h.go S h3 _ fun H' x1 hh => ?_
  by_cases c : x = true
  · rw [if_pos c]; rw [if_pos (show (x, w1).1 = true from c)] at e
    exact h1.go (S.step x1 hh) e _ fun v H2 x2 h2 r2 => q v H2 (x1.trans x2) h2 (r2.base x1 hh)
  · rw [if_neg c]; rw [if_neg (show ¬ (x, w1).1 = true from c)] at e
    exact h2.go (S.step x1 hh) e _ fun v H2 x2 h2 r2 => q v H2 (x1.trans x2) h2 (r2.base x1 hh)⟩
end
end DL

set_option maxRecDepth 100000
/-! DL3: statements -/
namespace DL
open PySem L2

inductive Out where
  | nx (e : Env) | rt (d : D) | bk (e : Env) | ct (e : Env)

def PostS (K : PySem.W.Frag) (hd hc : Addr) (H0 : Hp) (Oe O : List Addr) (H : Hp) (D : Ends) : Out → W → Prop
  | .nx e, w => ∀ O' σ' H', Stt K hd hc H0 Oe O' w e σ' H' → Prog O H O' H' → D.nx σ' H'
  | .rt d, w => ∀ v H', Ext hd H0 H' → HandIs hd hc w H' → Rep K hd Oe H' v d → D.rt v H'
  | .bk e, w => ∀ O' σ' H', Stt K hd hc H0 Oe O' w e σ' H' → Prog O H O' H' → D.bk σ' H'
  | .ct e, w => ∀ O' σ' H', Stt K hd hc H0 Oe O' w e σ' H' → Prog O H O' H' → D.ct σ' H'
structure SndS (K : PySem.W.Frag) (t : TS) (f : F1 Out) : Prop where
  go : ∀ {hd hc : Addr} {H0 : Hp} {Oe O : List Addr} {w : W} {env : Env} {σ : List (Option V)} {H : Hp}, Stt K hd hc H0 Oe O w env σ H → ∀ {o : Out} {w' : W}, f env w = some (o, w') →
    ∀ (Dn : Ends), PostS K hd hc H0 Oe O H Dn o w' → t Dn σ H
/-- a target: the slots that it sets are in is -/
structure SndG (K : PySem.W.Frag) (is : List Nat) (g : TG) (f : D → Env → Option Env) : Prop where
  go : ∀ {hd hc : Addr} {H0 : Hp} {Oe O : List Addr} {w : W} {env : Env} {σ : List (Option V)} {H : Hp}, Stt K hd hc H0 Oe O w env σ H → ∀ {v : V} {d : D} {env' : Env}, Rep K hd O H v d → f d env = some env' →
    ∀ (Q : List (Option V) → Hp → Prop), (∀ σ', Stt K hd hc H0 Oe O w env' σ' H → (∀ j, j ∉ is → σ'[j]? = σ[j]?) → σ'.length = σ.length → Q σ' H) → g v σ H Q
structure SndGs (K : PySem.W.Frag) (is : List Nat) (g : TGs) (f : List D → Env → Option Env) : Prop where
  go : ∀ {hd hc : Addr} {H0 : Hp} {Oe O : List Addr} {w : W} {env : Env} {σ : List (Option V)} {H : Hp}, Stt K hd hc H0 Oe O w env σ H → ∀ {v : List V} {d : List D} {env' : Env}, RepAll K hd O H v d → f d env = some env' →
    ∀ (Q : List (Option V) → Hp → Prop), (∀ σ', Stt K hd hc H0 Oe O w env' σ' H → (∀ j, j ∉ is → σ'[j]? = σ[j]?) → σ'.length = σ.length → Q σ' H) → g v σ H Q

section
variable {K : PySem.W.Frag} {hd hc : Addr} {H0 : Hp} {Oe O O1 : List Addr} {w w' : W} {env : Env} {σ : List (Option V)} {H H' H1 : Hp} {Dn : Ends}
theorem PostS.from_ {o : Out} (p : PostS K hd hc H0 Oe O H Dn o w) (g : Prog O H O1 H1) : PostS K hd hc H0 Oe O1 H1 Dn o w := by
  cases o with
  | nx e => exact fun O' σ' H' S q => p O' σ' H' S (g.trans q)
  | rt d => exact p
  | bk e => exact fun O' σ' H' S q => p O' σ' H' S (g.trans q)
  | ct e => exact fun O' σ' H' S q => p O' σ' H' S (g.trans q)

/-! ### the state, a slot set -/
theorem setSlot {α : Type} {l : List α} {i j : Nat} {a b : α} (h : (l.set i a)[j]? = some b) : (i = j ∧ b = a ∧ i < l.length) ∨ (i ≠ j ∧ l[j]? = some b) := by
  rw [List.getElem?_set] at h
  split at h
  · rename_i e
    split at h
    · cases h; exact .inl ⟨e, rfl, by assumption⟩
    · cases h
  · rename_i e
    exact .inr ⟨e, h⟩
theorem Stt.set (S : Stt K hd hc H0 Oe O w env σ H) (i : Nat) {v : V} {d : D} (r : Rep K hd O H v d) : Stt K hd hc H0 Oe O w (env.set i (.sh d)) (σ.set i (some v)) H where
  ext := S.ext
  hd0 := S.hd0
  hc0 := S.hc0
  hdE := S.hdE
  hcO := S.hcO
  sub := S.sub
  oe := S.oe
  onn := S.onn
  hand := S.hand
  len := by simp [S.len]
  slot := fun j s hs => by
    rcases setSlot hs with ⟨rfl, rfl, hl⟩ | ⟨ne, h⟩
    · exact ⟨v, by rw [List.getElem?_set_self (by rw [← S.len]; exact hl)], r⟩
    · rw [List.getElem?_set_ne ne]; exact S.slot j s h
  dist := fun j k d' e' a h1 h2 h3 h4 => by
    rcases setSlot h1 with ⟨rfl, z, hl⟩ | ⟨n1, h1⟩
    · cases z
    · rcases setSlot h2 with ⟨rfl, z, hl⟩ | ⟨n2, h2⟩
      · cases z
      · rw [List.getElem?_set_ne n1] at h3
        rw [List.getElem?_set_ne n2] at h4
        exact S.dist j k d' e' a h1 h2 h3 h4
theorem Stt.progO {a : Addr} (S : Stt K hd hc H0 Oe O w env σ H) (e : Ext hd H H') (na : H a = none) : Prog O H (a :: O) H' := ⟨fun b o n q => ⟨fun z => by
    rcases List.mem_cons.mp z with z | z
    · rw [z, na] at q; cases q
    · exact n z, e.keep b o (fun z => n (z ▸ S.hdO)) q⟩, e.tups⟩
theorem Stt.setOw (S : Stt K hd hc H0 Oe O w env σ H) (i : Nat) {a : Addr} {xs : List V} {ds : List D} (ha : H a = some (.lst xs)) (hO : a ∈ O) (h0 : H0 a = none) (z : xs.length ≤ SZ) (r : RepAll K hd O H xs ds)
    (hn : ∀ (j : Nat) (e : D), env[j]? = some (.ow e) → σ[j]? ≠ some (some (.ref a))) : Stt K hd hc H0 Oe O w (env.set i (.ow (.list ds))) (σ.set i (some (.ref a))) H where
  ext := S.ext
  hd0 := S.hd0
  hc0 := S.hc0
  hdE := S.hdE
  hcO := S.hcO
  sub := S.sub
  oe := S.oe
  onn := S.onn
  hand := S.hand
  len := by simp [S.len]
  slot := fun j s hs => by
    rcases setSlot hs with ⟨rfl, rfl, hl⟩ | ⟨ne, h⟩
    · exact ⟨a, xs, ds, by rw [List.getElem?_set_self (by rw [← S.len]; exact hl)], rfl, ha, z, r, hO, h0⟩
    · rw [List.getElem?_set_ne ne]; exact S.slot j s h
  dist := fun j k d' e' b h1 h2 h3 h4 => by
    rcases setSlot h1 with ⟨rfl, z, hl⟩ | ⟨n1, h1⟩
    · rcases setSlot h2 with ⟨rfl, z2, hl2⟩ | ⟨n2, h2⟩
      · rfl
      · rw [List.getElem?_set_self (by rw [← S.len]; exact hl)] at h3
        cases h3
        rw [List.getElem?_set_ne n2] at h4
        exact absurd h4 (hn k e' h2)
    · rcases setSlot h2 with ⟨rfl, z2, hl2⟩ | ⟨n2, h2⟩
      · rw [List.getElem?_set_self (by rw [← S.len]; exact hl2)] at h4
        cases h4
        rw [List.getElem?_set_ne n1] at h3
        exact absurd h3 (hn j d' h1)
      · rw [List.getElem?_set_ne n1] at h3
        rw [List.getElem?_set_ne n2] at h4
        exact S.dist j k d' e' b h1 h2 h3 h4
/-- an owned list is changed -/
theorem Stt.write (S : Stt K hd hc H0 Oe O w env σ H) {i : Nat} {a : Addr} {xs' : List V} {ds ds' : List D} (hi : env[i]? = some (.ow (.list ds))) (hs : σ[i]? = some (some (.ref a))) (z : xs'.length ≤ SZ) (r : RepAll K hd O H xs' ds') :
    Stt K hd hc H0 Oe O w (env.set i (.ow (.list ds'))) σ (upd H a (.lst xs')) ∧ Prog O H O (upd H a (.lst xs')) := by
  obtain ⟨a', xs0, ds0, e1, e2, ha, z0, r0, m, n⟩ := S.slot i _ hi
  rw [hs] at e1; cases e1
  obtain ⟨n1, n2, n3⟩ := S.neh n
  have g : Prog O H O (upd H a (.lst xs')) := ⟨fun b o nb q => ⟨nb, by rw [upd_ne (fun z => nb (by rw [z]; exact m))]; exact q⟩, fun b ys q => by
    rw [upd_ne (fun z => by rw [z, ha] at q; cases q)]; exact q⟩
  refine ⟨?_, g⟩
  exact {
    ext := ⟨fun b o nb q => by rw [upd_ne (ne_of_none q n)]; exact S.ext.keep b o nb q, fun b ys q => by rw [upd_ne (ne_of_none q n)]; exact S.ext.tups b ys q⟩
    hd0 := S.hd0, hc0 := S.hc0, hdE := S.hdE, hcO := S.hcO, sub := S.sub, oe := S.oe
    onn := fun b hb q => by
      by_cases e : b = a
      · rw [e, upd_same] at q; cases q
      · rw [upd_ne e] at q; exact S.onn b hb q
    hand := S.hand.keep (upd_ne (Ne.symm n1)) (upd_ne (Ne.symm n2))
    len := by simp [S.len]
    slot := fun j s hj => by
      rcases setSlot hj with ⟨rfl, rfl, hl⟩ | ⟨ne, h⟩
      · exact ⟨a, xs', ds', hs, rfl, upd_same, z, r.prog g, m, n⟩
      · have q := S.slot j s h
        cases s with
        | no => trivial
        | sh d => obtain ⟨v, e1, r⟩ := q; exact ⟨v, e1, r.prog g⟩
        | ow d =>
          obtain ⟨b, ys, es, e1, e2, hb, z', r', m', n'⟩ := q
          refine ⟨b, ys, es, e1, e2, ?_, z', r'.prog g, m', n'⟩
          rw [upd_ne (fun e => ne (S.dist i j _ _ a hi h hs (by rw [e1, e])))]
          exact hb
    dist := fun j k d' e' b h1 h2 h3 h4 => by
      have get : ∀ {j : Nat} {d' : D}, (env.set i (.ow (.list ds')))[j]? = some (.ow d') → ∃ d'', env[j]? = some (.ow d'') := fun {j d'} h => by
        rcases setSlot h with ⟨rfl, _, _⟩ | ⟨_, h⟩
        · exact ⟨_, hi⟩
        · exact ⟨_, h⟩
      obtain ⟨_, q1⟩ := get h1
      obtain ⟨_, q2⟩ := get h2
      exact S.dist j k _ _ b q1 q2 h3 h4 }
/-- an owned list is let go: it will not change any more -/
def frz (i : Nat) (env : Env) : Env := match env[i]? with
  | some (.ow d) => env.set i (.sh d)
  | _ => env
theorem Stt.frz (S : Stt K hd hc H0 Oe O w env σ H) (i : Nat) : ∃ O', Stt K hd hc H0 Oe O' w (frz i env) σ H ∧ Prog O H O' H := by
  unfold DL.frz
  split
  · rename_i d hi
    obtain ⟨a, xs, ds, e1, e2, ha, z, r, m, n⟩ := S.slot i _ hi
    subst e2
    obtain ⟨n1, n2, n3⟩ := S.neh n
    have hsub : ∀ b ∈ O.filter (fun b => b != a), b ∈ O := fun b hb => (List.mem_filter.mp hb).1
    have g : Prog O H (O.filter (fun b => b != a)) H := .less hsub
    have hne : ∀ (b : Addr), b ∈ O → b ≠ a → b ∈ O.filter (fun b => b != a) := fun b hb e => List.mem_filter.mpr ⟨hb, by simpa using e⟩
    refine ⟨O.filter (fun b => b != a), ?_, g⟩
    exact {
      ext := S.ext, hd0 := S.hd0, hc0 := S.hc0, hdE := S.hdE, hcO := fun z => S.hcO (hsub _ z)
      sub := fun b hb => hne b (S.sub b hb) fun e => n3 (e ▸ hb)
      oe := S.oe
      onn := fun b hb => S.onn b (hsub b hb)
      hand := S.hand
      len := by simp [S.len]
      slot := fun j s hj => by
        rcases setSlot hj with ⟨rfl, rfl, hl⟩ | ⟨ne, h⟩
        · exact ⟨.ref a, e1, .lst ha (fun q => by have := (List.mem_filter.mp q).2; simp at this) z (r.prog g)⟩
        · have q := S.slot j s h
          cases s with
          | no => trivial
          | sh d => obtain ⟨v, e1, r⟩ := q; exact ⟨v, e1, r.prog g⟩
          | ow d =>
            obtain ⟨b, ys, es, f1, f2, hb, z', r', m', n'⟩ := q
            exact ⟨b, ys, es, f1, f2, hb, z', r'.prog g, hne b m' fun e => ne (S.dist i j _ _ a hi h e1 (by rw [f1, e])), n'⟩
      dist := fun j k d' e' b h1 h2 h3 h4 => by
        rcases setSlot h1 with ⟨rfl, z, hl⟩ | ⟨x1, h1⟩
        · cases z
        · rcases setSlot h2 with ⟨rfl, z, hl⟩ | ⟨x2, h2⟩
          · cases z
          · exact S.dist j k d' e' b h1 h2 h3 h4 }
  · exact ⟨O, S, .refl⟩
end

/-! ### what is denoted -/
def sSeq (f g : F1 Out) : F1 Out := fun env w => (f env w).bind fun p => match p.1 with
  | .nx e => g e p.2
  | o => some (o, p.2)
def sNext : F1 Out := fun env w => some (.nx env, w)
def sBreak : F1 Out := fun env w => some (.bk env, w)
def sCont : F1 Out := fun env w => some (.ct env, w)
def sNever : F1 Out := fun _ _ => none
def sDrop (f : F1 D) : F1 Out := fun env w => (f env w).map fun p => (.nx env, p.2)
def sRet (f : F1 D) : F1 Out := fun env w => (f env w).map fun p => (.rt p.1, p.2)
def sRetN : F1 Out := fun _ w => some (.rt .none, w)
def sIf (t : F1 Bool) (f g : F1 Out) : F1 Out := fun env w => (t env w).bind fun p => if p.1 = true then f env p.2 else g env p.2
def sSet (i : Nat) (f : F1 D) : F1 Out := fun env w => (f env w).map fun p => (.nx (env.set i (.sh p.1)), p.2)
def sSetO (i : Nat) (f : F1 D) : F1 Out := fun env w => (f env w).map fun p => (.nx (env.set i (.ow p.1)), p.2)
def sAsg (f : F1 D) (g : D → Env → Option Env) : F1 Out := fun env w => (f env w).bind fun p => (g p.1 env).map fun e => (.nx e, p.2)
def sFrz (i : Nat) (f : F1 Out) : F1 Out := fun env w => f (frz i env) w
def slotOf (o : Bool) (d : D) : Slot := if o = true then .ow d else .sh d
def sPar (i j : Nat) (o1 o2 : Bool) (f : F1 (List D)) : F1 Out := fun env w => (f env w).bind fun p => match p.1 with
  | [a, b] => some (.nx ((env.set i (slotOf o1 a)).set j (slotOf o2 b)), p.2)
  | _ => none
def sAug (i : Nat) (g : D → D → Option D) (f : F1 D) : F1 Out := fun env w => (eVar i env w).bind fun p => (f env p.2).bind fun q => (g p.1 q.1).map fun d => (.nx (env.set i (.sh d)), q.2)
def sApp (i : Nat) (f : F1 D) : F1 Out := fun env w => match env[i]? with
  | some (.ow (.list ds)) => (f env w).bind fun p => if ds.length < SZ then some (.nx (env.set i (.ow (.list (ds ++ [p.1])))), p.2) else none
  | _ => none
def gSet (i : Nat) : D → Env → Option Env := fun d env => some (env.set i (.sh d))
def gsNil : List D → Env → Option Env := fun ds env => match ds with
  | [] => some env
  | _ => none
def gsCons (g : D → Env → Option Env) (gs : List D → Env → Option Env) : List D → Env → Option Env := fun ds env => match ds with
  | d :: r => (g d env).bind fun e => gs r e
  | _ => none
def gTupD (n : Nat) (gs : List D → Env → Option Env) : D → Env → Option Env := fun d env => match d with
  | .tuple ds => if ds.length = n then gs ds env else none
  | _ => none
def loopD (gs : D → Env → Option Env) (body : F1 Out) : List D → Env → W → Option (Out × W)
  | [], env, w => some (.nx env, w)
  | d :: ds, env, w => (gs d env).bind fun e1 => (body e1 w).bind fun q => match q.1 with
    | .nx e => loopD gs body ds e q.2
    | .ct e => loopD gs body ds e q.2
    | .bk e => some (.nx e, q.2)
    | .rt d => some (.rt d, q.2)
def sFor (fi : F1 (List D)) (gs : D → Env → Option Env) (body : F1 Out) : F1 Out := fun env w => (fi env w).bind fun p => loopD gs body p.1 env p.2
def whD (fc : F1 Bool) (body : F1 Out) : Nat → Env → W → Option (Out × W)
  | 0, _, _ => none
  | n + 1, env, w => (fc env w).bind fun p => if p.1 = true then (body env p.2).bind fun q => match q.1 with
      | .nx e => whD fc body n e q.2
      | .ct e => whD fc body n e q.2
      | .bk e => some (.nx e, q.2)
      | .rt d => some (.rt d, q.2)
    else some (.nx env, p.2)
def sWhile (n : Nat) (fc : F1 Bool) (body : F1 Out) : F1 Out := whD fc body n

section
variable {K : PySem.W.Frag} {m : Mode} {t u : TS} {f g : F1 Out} {te : TE} {fe : F1 D}
theorem sn_seq (h1 : SndS K t f) (h2 : SndS K u g) : SndS K (tSeq t u) (sSeq f g) := ⟨fun {hd hc H0 Oe O w env σ H} S o w' e Dn p => by
  obtain ⟨⟨o1, w1⟩, e1, e⟩ := bindS e
  refine h1.go S e1 _ ?_
  cases o1 with
  | nx e2 => exact fun O' σ' H' S' q => h2.go S' e Dn (p.from_ q)
  | rt d => cases e; exact p
  | bk e2 => cases e; exact p
  | ct e2 => cases e; exact p⟩
theorem sn_next : SndS K tNext sNext := ⟨fun S o w' e Dn p => by cases e; exact p _ _ _ S .refl⟩
theorem sn_break : SndS K tBreak sBreak := ⟨fun S o w' e Dn p => by cases e; exact p _ _ _ S .refl⟩
theorem sn_cont : SndS K tCont sCont := ⟨fun S o w' e Dn p => by cases e; exact p _ _ _ S .refl⟩
theorem sn_never : SndS K tNever sNever := ⟨fun S o w' e Dn p => by cases e⟩
theorem sn_drop (h : SndE K m te fe) : SndS K (tDrop te) (sDrop fe) := ⟨fun {hd hc H0 Oe O w env σ H} S o w' e Dn p => by
  obtain ⟨⟨d, w1⟩, e1, e⟩ := mapS e
  cases e
  exact h.go S e1 _ fun v H' x hh r => p _ _ _ (S.step x hh) (x.prog S.hdO)⟩
theorem sn_ret (h : SndE K .bo te fe) : SndS K (tRet te) (sRet fe) := ⟨fun {hd hc H0 Oe O w env σ H} S o w' e Dn p => by
  obtain ⟨⟨d, w1⟩, e1, e⟩ := mapS e
  cases e
  refine h.go S e1 _ fun v H' x hh r => p v H' (S.ext.trans x) hh ?_
  rcases r with r | ⟨a, xs, ds, rfl, rfl, n, s, z, r⟩
  · exact r.less S.sub
  · exact .lst s n z (r.less S.sub)⟩
theorem sn_retN : SndS K tRetN sRetN := ⟨fun {hd hc H0 Oe O w env σ H} S o w' e Dn p => by
  cases e
  exact p _ _ S.ext S.hand .non⟩
theorem sn_if {tc : TT} {fc : F1 Bool} (hc : SndT K tc fc) (h1 : SndS K t f) (h2 : SndS K u g) : SndS K (tIfS tc t u) (sIf fc f g) := ⟨fun {hd hc' H0 Oe O w env σ H} S o w' e Dn p => by
  obtain ⟨⟨x, w1⟩, h3, e⟩ := bindS e
  refine hc.go S h3 _ fun H' x1 hh => ?_
  by_cases c : x = true
  · rw [if_pos c]; rw [if_pos (show (x, w1).1 = true from c)] at e
    exact h1.go (S.step x1 hh) e Dn (p.from_ (x1.prog S.hdO))
  · rw [if_neg c]; rw [if_neg (show ¬ (x, w1).1 = true from c)] at e
    exact h2.go (S.step x1 hh) e Dn (p.from_ (x1.prog S.hdO))⟩
theorem sn_set (i : Nat) (h : SndE K .sh te fe) : SndS K (tAsg te (gName i)) (sSet i fe) := ⟨fun {hd hc H0 Oe O w env σ H} S o w' e Dn p => by
  obtain ⟨⟨d, w1⟩, e1, e⟩ := mapS e
  cases e
  exact h.go S e1 _ fun v H' x hh r => p _ _ _ ((S.step x hh).set i r) (x.prog S.hdO)⟩
theorem Stt.setFr {K : PySem.W.Frag} {hd hc : Addr} {H0 : Hp} {Oe O : List Addr} {w w' : W} {env : Env} {σ : List (Option V)} {H H' : Hp} {v : V} {d : D} (S : Stt K hd hc H0 Oe O w env σ H) (x : Ext hd H H') (hh : HandIs hd hc w' H')
    (r : RepM .fr K hd Oe H O H' v d) (i : Nat) : ∃ O', Stt K hd hc H0 Oe O' w' (env.set i (.ow d)) (σ.set i (some v)) H' ∧ Prog O H O' H' := by
  obtain ⟨a, xs, ds, rfl, rfl, na, ha, z, r⟩ := r
  have ane : H' a ≠ none := by
    rw [ha]
    intro q
    cases q
  have S1 := S.stepL (as := [a]) (O2 := a :: O) x hh ⟨fun b hb => (by rw [List.mem_singleton.mp hb]; exact na), fun b hb => (by rw [List.mem_singleton.mp hb]; exact ane), (by simp), fun b => (by simp)⟩
  refine ⟨a :: O, S1.setOw i ha List.mem_cons_self (S.ext.old S.hand na) z r ?_, S.progO x na⟩
  intro j e hj hs
  obtain ⟨b, ys, es, f1, f2, hb, _⟩ := S.slot j _ hj
  rw [hs] at f1; cases f1
  rw [na] at hb; cases hb
theorem sn_setO (i : Nat) (h : SndE K .fr te fe) : SndS K (tAsg te (gName i)) (sSetO i fe) := ⟨fun {hd hc H0 Oe O w env σ H} S o w' e Dn p => by
  obtain ⟨⟨d, w1⟩, e1, e⟩ := mapS e
  cases e
  refine h.go S e1 _ fun v H' x hh r => ?_
  obtain ⟨O', S', g⟩ := S.setFr x hh r i
  exact p _ _ _ S' g⟩
theorem sn_asg {is : List Nat} {tg : TG} {gs : D → Env → Option Env} (h : SndE K .sh te fe) (hg : SndG K is tg gs) : SndS K (tAsg te tg) (sAsg fe gs) := ⟨fun {hd hc H0 Oe O w env σ H} S o w' e Dn p => by
  obtain ⟨⟨d, w1⟩, e1, e⟩ := bindS e
  obtain ⟨e2, e3, e⟩ := mapS e
  cases e
  exact h.go S e1 _ fun v H' x hh r => hg.go (S.step x hh) r e3 _ fun σ' S' _ _ => p _ _ _ S' (x.prog S.hdO)⟩
theorem sn_frz (i : Nat) (h : SndS K t f) : SndS K t (sFrz i f) := ⟨fun {hd hc H0 Oe O w env σ H} S o w' e Dn p => by
  obtain ⟨O', S', g⟩ := S.frz i
  exact h.go S' e Dn (p.from_ g)⟩

/-! ### targets -/
theorem sg_name (i : Nat) : SndG K [i] (gName i) (gSet i) := ⟨fun S v d env' r e Q q => by
  cases e
  exact q _ (S.set i r) (fun j hj => List.getElem?_set_ne (fun z => hj (by simp [z]))) (List.length_set ..)⟩
theorem sgs_nil : SndGs K [] gNil gsNil := ⟨fun {hd hc H0 Oe O w env σ H} S v d env' r e Q q => by
  cases r with
  | nil => cases e; exact ⟨rfl, q _ S (fun _ _ => rfl) rfl⟩
  | cons => cases e⟩
theorem sgs_cons {is js : List Nat} {tg : TG} {gs : D → Env → Option Env} {tgs : TGs} {gss : List D → Env → Option Env} (h : SndG K is tg gs) (h' : SndGs K js tgs gss) : SndGs K (is ++ js) (gCons tg tgs) (gsCons gs gss) := ⟨fun {hd hc H0 Oe O w env σ H} S v d env' r e Q q => by
  cases r with
  | nil => cases e
  | cons r rr =>
    obtain ⟨e1, h1, e⟩ := bindS e
    exact ⟨_, _, rfl, h.go S r h1 _ fun σ' S' k l => h'.go S' rr e _ fun σ2 S2 k2 l2 => q σ2 S2 (fun j hj => by
      rw [k2 j (fun z => hj (List.mem_append_right _ z)), k j (fun z => hj (List.mem_append_left _ z))]) (l2.trans l)⟩⟩
theorem sg_tup {n : Nat} {is : List Nat} {tgs : TGs} {gss : List D → Env → Option Env} (h : SndGs K is tgs gss) : SndG K is (gTup K n tgs) (gTupD n gss) := ⟨fun {hd hc H0 Oe O w env σ H} S v d env' r e Q q => by
  cases r with
  | tup ht z r =>
    unfold gTupD at e
    simp only at e
    split at e
    · rename_i hn
      exact ⟨_, _, rfl, ht.sqt, by rw [r.len, hn], h.go S r e Q q⟩
    · cases e
  | _ => cases e⟩

/-! ### a, b = x, y -/

theorem sn_par {i j : Nat} {ta : TA} {fa : F1 (List D)} {m1 m2 : Mode} (o1 o2 : Bool) (h : SndA K [m1, m2] ta fa) (c1 : (o1 = false ∧ m1 = .sh ∨ o1 = true ∧ m1 = .fr) := by first | exact .inl ⟨rfl, rfl⟩ | exact .inr ⟨rfl, rfl⟩)
    (c2 : (o2 = false ∧ m2 = .sh ∨ o2 = true ∧ m2 = .fr) := by first | exact .inl ⟨rfl, rfl⟩ | exact .inr ⟨rfl, rfl⟩) : SndS K (tPar i j ta) (sPar i j o1 o2 fa) := ⟨fun {hd hc H0 Oe O w env σ H} S o w' e Dn p => by
  obtain ⟨⟨ds, w1⟩, e1, e⟩ := bindS e
  refine h.go S e1 _ fun vs H' as O2 x hh n r => ?_
  have S1 := S.stepL x hh n
  have g := n.prog x S.hdO
  have fresh : ∀ a ∈ as, ∀ (j : Nat) (e : D), env[j]? = some (.ow e) → σ[j]? ≠ some (some (.ref a)) := fun a ha j e hj hs => by
    obtain ⟨b, ys, es, f1, f2, hb, _⟩ := S.slot j _ hj
    rw [hs] at f1; cases f1
    rw [n.new a ha] at hb; cases hb
  have mo : ∀ a ∈ as, a ∈ O2 := fun a ha => (n.mem a).mpr (.inl ha)
  have h0 : ∀ a ∈ as, H0 a = none := fun a ha => S.ext.old S.hand (n.new a ha)
  rcases c1 with ⟨rfl, rfl⟩ | ⟨rfl, rfl⟩
  · cases r with
    | sh r1 r =>
      rcases c2 with ⟨rfl, rfl⟩ | ⟨rfl, rfl⟩
      · cases r with
        | sh r2 r =>
          cases r
          cases e
          exact ⟨_, _, rfl, p _ _ _ ((S1.set i r1).set j r2) g⟩
      · cases r with
        | fr ha z r2 r =>
          cases r
          cases e
          refine ⟨_, _, rfl, p _ _ _ ((S1.set i r1).setOw j ha (mo _ List.mem_cons_self) (h0 _ List.mem_cons_self) z r2 fun k e hk hs => ?_) g⟩
          rcases setSlot hk with ⟨_, q, _⟩ | ⟨ne, hk⟩
          · cases q
          · rw [List.getElem?_set_ne ne] at hs
            exact fresh _ List.mem_cons_self k e hk hs
  · cases r with
    | fr ha z r1 r =>
      have S2 := S1.setOw i ha (mo _ List.mem_cons_self) (h0 _ List.mem_cons_self) z r1 (fresh _ List.mem_cons_self)
      rcases c2 with ⟨rfl, rfl⟩ | ⟨rfl, rfl⟩
      · cases r with
        | sh r2 r =>
          cases r
          cases e
          exact ⟨_, _, rfl, p _ _ _ (S2.set j r2) g⟩
      · cases r with
        | fr ha2 z2 r2 r =>
          cases r
          cases e
          refine ⟨_, _, rfl, p _ _ _ (S2.setOw j ha2 (mo _ (List.mem_cons_of_mem _ List.mem_cons_self)) (h0 _ (List.mem_cons_of_mem _ List.mem_cons_self)) z2 r2 fun k e hk hs => ?_) g⟩
          rcases setSlot hk with ⟨rfl, q, hl⟩ | ⟨ne, hk⟩
          · rw [List.getElem?_set_self (by rw [← S.len]; exact hl)] at hs
            cases hs
            have := n.nd
            simp at this
          · rw [List.getElem?_set_ne ne] at hs
            exact fresh _ (List.mem_cons_of_mem _ List.mem_cons_self) k e hk hs⟩
end
end DL

set_option maxRecDepth 100000
/-! DL4: what changes a list, loops, comprehensions, defs -/
namespace DL
open PySem L2
section
variable {K : PySem.W.Frag} {m : Mode} {t u : TS} {f g : F1 Out} {te : TE} {fe : F1 D}

theorem sn_aug {ti : TIp} {g2 : D → D → Option D} (i : Nat) (ho : Op2 K .sh ti g2) (h : SndE K m te fe) : SndS K (tAug i te ti) (sAug i g2 fe) := ⟨fun {hd hc H0 Oe O w env σ H} S o w' e Dn p => by
  obtain ⟨⟨x, w1⟩, e1, e⟩ := bindS e
  obtain ⟨⟨y, w2⟩, e2, e⟩ := bindS e
  obtain ⟨z, e3, e⟩ := mapS e
  cases e
  refine (sn_var (K := K) i).go S e1 (fun v H1 => te σ H1 fun y H1 => ti v y H1 fun z H2 => Dn.nx (σ.set i (some z)) H2) fun v H1 x1 h1 r1 => ?_
  refine h.go (S.step x1 h1) e2 _ fun u H2 x2 h2 r2 => ?_
  have S2 := S.step (x1.trans x2) h2
  refine ho S.hdE S.sub S2.onn h2 (.inl (Rep.ext r1 S.hdO x2)) (r2.b (S.step x1 h1).onn) e3 fun z H3 x3 h3 r3 => ?_
  exact p _ _ _ ((S2.step x3 h3).set i r3) (((x1.trans x2).trans x3).prog S.hdO)⟩

/-- xs.append(e), xs owned -/
theorem sn_app (i : Nat) (h : SndE K .sh te fe) : SndS K (tDrop (tBM K "list" rAppend (tVar i) (tCons te tNil))) (sApp i fe) := ⟨fun {hd hc H0 Oe O w env σ H} S o w' e Dn p => by
  unfold sApp at e
  split at e
  · rename_i ds hi
    obtain ⟨⟨d, w1⟩, e1, e⟩ := bindS e
    split at e
    · rename_i hz
      cases e
      obtain ⟨a, xs, ds', f1, f2, ha, z, r, hm, hn⟩ := S.slot i _ hi
      cases f2
      refine ⟨_, f1, .inl ⟨rfl, _, SqL.of ha⟩, ?_⟩
      refine h.go S e1 (fun y H1 => rAppend (.ref a) [y] H1 fun _ H2 => Dn.nx σ H2) fun y H1 x1 h1 r1 => ?_
      have S1 := S.step x1 h1
      obtain ⟨a2, xs2, ds2, g1, g2, ha2, z2, r2, _⟩ := S1.slot i _ hi
      rw [f1] at g1; cases g1; cases g2
      have lz : xs2.length < SZ := by rw [r2.len]; exact hz
      obtain ⟨S2, g⟩ := S1.write (xs' := xs2 ++ [y]) (ds' := ds ++ [d]) hi f1 (by simp; omega) (r2.append (.cons r1 .nil))
      exact ⟨a, xs2, y, rfl, rfl, ha2, lz, p _ _ _ S2 ((x1.prog S.hdO).trans g)⟩
    · cases e
  · cases e⟩

/-- xs[k] = e, xs owned -/
def sPut (i : Nat) (fk fe : F1 D) : F1 Out := fun env w => (fe env w).bind fun p => (fk env p.2).bind fun q => match env[i]?, q.1 with
  | some (.ow (.list ds)), .int k => (ixN ds.length k).map fun j => (.nx (env.set i (.ow (.list (ds.set j p.1)))), q.2)
  | _, _ => none
theorem sn_put (i : Nat) {tk : TE} {fk : F1 D} {mk : Mode} (h : SndE K .sh te fe) (hk : SndE K mk tk fk) : SndS K (tAsg te (gSub (tVar i) tk rSetL)) (sPut i fk fe) := ⟨fun {hd hc H0 Oe O w env σ H} S o w' e Dn p => by
  obtain ⟨⟨d, w1⟩, e1, e⟩ := bindS e
  obtain ⟨⟨k, w2⟩, e2, e⟩ := bindS e
  simp only at e
  split at e
  · rename_i ds kk hi
    obtain ⟨j, e3, e⟩ := mapS e
    cases e
    refine h.go S e1 _ fun v H1 x1 h1 r1 => ?_
    have S1 := S.step x1 h1
    obtain ⟨a, xs, ds', f1, f2, ha, z, r, hm, hn⟩ := S1.slot i _ hi
    cases f2
    refine ⟨_, f1, hk.go S1 e2 _ fun kv H2 x2 h2 r2 => ?_⟩
    have S2 := S1.step x2 h2
    obtain ⟨a2, xs2, ds2, g1, g2, ha2, z2, r3, _⟩ := S2.slot i _ hi
    rw [f1] at g1; cases g1; cases g2
    obtain ⟨S3, g⟩ := S2.write (xs' := xs2.set j v) (ds' := ds.set j d) hi f1 (by simp; exact z2) (r3.set j (Rep.ext r1 S.hdO x2))
    exact ⟨a, xs2, kk, j, rfl, (r2.b S1.onn).int, ha2, by rw [r3.len]; exact e3, p _ _ _ S3 (((x1.trans x2).prog S.hdO).trans g)⟩
  · cases e⟩

/-! ### what is walked -/
structure W1 (K : PySem.W.Frag) (hd : Addr) (O2 : List Addr) (J : It) (ds : List D) (H2 : Hp) : Prop where
  stop : ∀ i, ds.length ≤ i → J.stop i H2
  go : ∀ (i : Nat) (d : D), ds[i]? = some d → J.go i H2 ∧ ∀ x H', J.yld i H2 x H' → Ext hd H2 H' ∧ (∀ hc w, HandIs hd hc w H2 → HandIs hd hc w H') ∧ Rep K hd O2 H' x d
def WalkS (K : PySem.W.Frag) (hd : Addr) (O : List Addr) (H1 : Hp) (J : It) (ds : List D) : Prop := ∀ O2 H2, Prog O H1 O2 H2 → hd ∈ O2 → W1 K hd O2 J ds H2
def WalkB (K : PySem.W.Frag) (hd : Addr) (O : List Addr) (H1 : Hp) (J : It) (ds : List D) : Prop := ∀ O2 H2, Ext hd H1 H2 → (∀ b ∈ O2, b ∈ O ∨ H1 b = none) → hd ∈ O2 → W1 K hd O2 J ds H2
theorem WalkS.b {hd : Addr} {O : List Addr} {H1 : Hp} {J : It} {ds : List D} (h : WalkS K hd O H1 J ds) (hO : hd ∈ O) : WalkB K hd O H1 J ds := fun O2 H2 e hb hn =>
  h O2 H2 ⟨fun b o nb q => ⟨fun z => (by
    rcases hb b z with z | z
    · exact nb z
    · exact absurd (z.symm.trans q) (by intro z; cases z)), e.keep b o (fun z => nb (z ▸ hO)) q⟩, e.tups⟩ hn
structure SndI (K : PySem.W.Frag) (m : Mode) (wi : TI) (fi : F1 (List D)) : Prop where
  go : ∀ {hd hc : Addr} {H0 : Hp} {Oe O : List Addr} {w : W} {env : Env} {σ : List (Option V)} {H : Hp}, Stt K hd hc H0 Oe O w env σ H → ∀ {ds : List D} {w' : W}, fi env w = some (ds, w') →
    ∀ (R : It → Hp → Prop), (∀ J H1, Ext hd H H1 → HandIs hd hc w' H1 → (match m with | .bo => WalkB K hd O H1 J ds | _ => WalkS K hd O H1 J ds) → ds.length ≤ SZ → R J H1) → wi σ H R
theorem SndI.bo {wi : TI} {fi : F1 (List D)} (h : SndI K .sh wi fi) : SndI K .bo wi fi := ⟨fun S _ _ e R q => h.go S e R fun J H1 x hh wk z => q J H1 x hh (WalkS.b wk S.hdO) z⟩

/-! ### for -/
theorem sn_for {is : List Nat} {wi : TI} {fi : F1 (List D)} {tg : TG} {gs : D → Env → Option Env} {tb : TS} {body : F1 Out} (hi : SndI K .sh wi fi) (hg : SndG K is tg gs) (hb : SndS K tb body) : SndS K (tFor wi tg tb) (sFor fi gs body) := ⟨fun {hd hc H0 Oe O w env σ H} S o w' e Dn p => by
  obtain ⟨⟨ds, w1⟩, e1, e⟩ := bindS e
  refine hi.go S e1 _ fun J H1 x1 h1 wk _ => ?_
  have g0 := x1.prog S.hdO
  refine ⟨fun i n σ' H' => n = ds.length - i ∧ i ≤ ds.length ∧ ∃ O' w2 env', Stt K hd hc H0 Oe O' w2 env' σ' H' ∧ Prog O H1 O' H' ∧ loopD gs body (ds.drop i) env' w2 = some (o, w'),
    ⟨ds.length, rfl, Nat.zero_le _, O, w1, env, S.step x1 h1, .refl, by simpa using e⟩, ?_⟩
  rintro i n σ' H' ⟨rfl, hl, O', w2, env', S', g', e'⟩
  have wk' := wk O' H' g' S'.hdO
  by_cases hlt : i < ds.length
  · have hd' : ds[i]? = some ds[i] := by simp [hlt]
    obtain ⟨go, yl⟩ := wk'.go i _ hd'
    rw [List.drop_eq_getElem_cons hlt] at e'
    obtain ⟨ev, e2, e'⟩ := bindS (show (gs ds[i] env').bind _ = some (o, w') from e')
    obtain ⟨⟨o3, w3⟩, e3, e'⟩ := bindS e'
    have run : ∀ (N : List (Option V) → Hp → Prop), (PostS K hd hc H0 Oe O' H' { Dn with nx := N, ct := N, bk := Dn.nx } o3 w3) → ∀ x H2, J.yld i H' x H2 → tg x σ' H2 fun σ2 H2 => tb { Dn with nx := N, ct := N, bk := Dn.nx } σ2 H2 := fun N hN x H2 hy => by
      obtain ⟨x2, hh2, r2⟩ := yl x H2 hy
      refine hg.go (S'.step x2 (hh2 _ _ S'.hand)) r2 e2 _ fun σ2 S2 _ _ => ?_
      exact hb.go S2 e3 _ (hN.from_ (x2.prog S'.hdO))
    cases o3 with
    | nx e4 =>
      refine .inr ⟨go, fun σ2 H2 => ∃ O2, Stt K hd hc H0 Oe O2 w3 e4 σ2 H2 ∧ Prog O H1 O2 H2, fun σ2 H2 ⟨O2, S2, g2⟩ => ⟨_, by omega, rfl, hlt, O2, w3, e4, S2, g2, e'⟩, run _ fun O2 σ2 H2 S2 g2 => ⟨O2, S2, g'.trans g2⟩⟩
    | ct e4 =>
      refine .inr ⟨go, fun σ2 H2 => ∃ O2, Stt K hd hc H0 Oe O2 w3 e4 σ2 H2 ∧ Prog O H1 O2 H2, fun σ2 H2 ⟨O2, S2, g2⟩ => ⟨_, by omega, rfl, hlt, O2, w3, e4, S2, g2, e'⟩, run _ fun O2 σ2 H2 S2 g2 => ⟨O2, S2, g'.trans g2⟩⟩
    | bk e4 =>
      cases e'
      exact .inr ⟨go, fun _ _ => False, fun _ _ z => z.elim, run _ fun O2 σ2 H2 S2 g2 => p _ _ _ S2 ((g0.trans g').trans g2)⟩
    | rt d =>
      cases e'
      exact .inr ⟨go, fun _ _ => False, fun _ _ z => z.elim, run _ p⟩
  · have hl' : i = ds.length := by omega
    subst hl'
    rw [List.drop_length] at e'
    cases e'
    exact .inl ⟨wk'.stop _ (Nat.le_refl _), p _ _ _ S' (g0.trans g')⟩⟩
theorem sn_while (n : Nat) {tc : TT} {fc : F1 Bool} {tb : TS} {body : F1 Out} (hc : SndT K tc fc) (hb : SndS K tb body) : SndS K (tWhile tc tb) (sWhile n fc body) := ⟨fun {hd hc' H0 Oe O w env σ H} S o w' e Dn p => by
  refine ⟨fun n σ' H' => ∃ O' w2 env', Stt K hd hc' H0 Oe O' w2 env' σ' H' ∧ Prog O H O' H' ∧ whD fc body n env' w2 = some (o, w'), ⟨n, O, w, env, S, .refl, e⟩, ?_⟩
  rintro n σ' H' ⟨O', w2, env', S', g', e'⟩
  cases n with
  | zero => cases e'
  | succ n =>
    obtain ⟨⟨b, w3⟩, e1, e'⟩ := bindS (show (fc env' w2).bind _ = some (o, w') from e')
    refine hc.go S' e1 _ fun H2 x2 h2 => ?_
    by_cases c : b = true
    · rw [if_pos c]; rw [if_pos (show (b, w3).1 = true from c)] at e'
      obtain ⟨⟨o3, w4⟩, e3, e'⟩ := bindS e'
      have S2 := S'.step x2 h2
      have g2 := g'.trans (x2.prog S'.hdO)
      cases o3 with
      | nx e4 => exact ⟨fun σ2 H3 => ∃ O2, Stt K hd hc' H0 Oe O2 w4 e4 σ2 H3 ∧ Prog O H O2 H3, fun σ2 H3 ⟨O2, S3, g3⟩ => ⟨n, Nat.lt_succ_self _, O2, w4, e4, S3, g3, e'⟩, hb.go S2 e3 _ fun O2 σ2 H3 S3 g3 => ⟨O2, S3, g2.trans g3⟩⟩
      | ct e4 => exact ⟨fun σ2 H3 => ∃ O2, Stt K hd hc' H0 Oe O2 w4 e4 σ2 H3 ∧ Prog O H O2 H3, fun σ2 H3 ⟨O2, S3, g3⟩ => ⟨n, Nat.lt_succ_self _, O2, w4, e4, S3, g3, e'⟩, hb.go S2 e3 _ fun O2 σ2 H3 S3 g3 => ⟨O2, S3, g2.trans g3⟩⟩
      | bk e4 =>
        cases e'
        exact ⟨fun _ _ => False, fun _ _ z => z.elim, hb.go S2 e3 _ fun O2 σ2 H3 S3 g3 => p _ _ _ S3 (g2.trans g3)⟩
      | rt d =>
        cases e'
        exact ⟨fun _ _ => False, fun _ _ z => z.elim, hb.go S2 e3 _ p⟩
    · rw [if_neg c]; rw [if_neg (show ¬ (b, w3).1 = true from c)] at e'
      cases e'
      exact p _ _ _ (S'.step x2 h2) (g'.trans (x2.prog S'.hdO))⟩

/-! ### comprehensions -/
def wipeE (env : Env) : List Nat → Env
  | [] => env
  | v :: vs => (wipeE env vs).set v .no
theorem wipe_get : ∀ {σ : List (Option V)} {vs : List Nat} {j : Nat}, (wipe σ vs)[j]? = if j ∈ vs then (if j < σ.length then some none else none) else σ[j]?
  | σ, [], j => by simp [wipe]
  | σ, v :: vs, j => by
    have hl := wipe_length σ vs
    show ((wipe σ vs).set v none)[j]? = _
    rw [List.getElem?_set, hl, wipe_get]
    by_cases h : v = j
    · subst h; simp
    · simp [h, Ne.symm h, List.mem_cons]
theorem wipe_eq {σ σ' : List (Option V)} {is vs : List Nat} (h : ∀ j, j ∉ is → σ'[j]? = (wipe σ vs)[j]?) (hl : σ'.length = (wipe σ vs).length) (hs : ∀ j ∈ is, j ∈ vs) : wipe σ' vs = wipe σ vs := by
  apply List.ext_getElem?
  intro j
  rw [wipe_get, wipe_get]
  by_cases hj : j ∈ vs
  · rw [if_pos hj, if_pos hj, hl, wipe_length]
  · rw [if_neg hj, if_neg hj, h j (fun z => hj (hs j z)), wipe_get, if_neg hj]
theorem Stt.wipe1 {hd hc : Addr} {H0 : Hp} {Oe O : List Addr} {w : W} {env : Env} {σ : List (Option V)} {H : Hp} (S : Stt K hd hc H0 Oe O w env σ H) (v : Nat) : Stt K hd hc H0 Oe O w (env.set v .no) (σ.set v none) H where
  ext := S.ext
  hd0 := S.hd0
  hc0 := S.hc0
  hdE := S.hdE
  hcO := S.hcO
  sub := S.sub
  oe := S.oe
  onn := S.onn
  hand := S.hand
  len := by simp [S.len]
  slot := fun j s hs => by
    rcases setSlot hs with ⟨rfl, rfl, hl⟩ | ⟨ne, h⟩
    · trivial
    · rw [List.getElem?_set_ne ne]; exact S.slot j s h
  dist := fun j k d' e' a h1 h2 h3 h4 => by
    rcases setSlot h1 with ⟨rfl, z, hl⟩ | ⟨n1, h1⟩
    · cases z
    · rcases setSlot h2 with ⟨rfl, z, hl⟩ | ⟨n2, h2⟩
      · cases z
      · rw [List.getElem?_set_ne n1] at h3
        rw [List.getElem?_set_ne n2] at h4
        exact S.dist j k d' e' a h1 h2 h3 h4
theorem Stt.wipe {hd hc : Addr} {H0 : Hp} {Oe O : List Addr} {w : W} {env : Env} {σ : List (Option V)} {H : Hp} (S : Stt K hd hc H0 Oe O w env σ H) : ∀ vs : List Nat, Stt K hd hc H0 Oe O w (wipeE env vs) (L2.wipe σ vs) H
  | [] => S
  | v :: vs => (S.wipe vs).wipe1 v
def bYes : F1 Bool := fun _ w => some (true, w)
theorem sn_yes : SndT K tYes bYes := ⟨fun S _ _ e Q q => by cases e; exact q _ .refl S.hand⟩
/-- the turns of a comprehension -/
def lcD (gs : D → Env → Option Env) (ft : F1 Bool) (fe : F1 D) (env : Env) : List D → W → Option (List D × W)
  | [], w => some ([], w)
  | d :: ds, w => (gs d env).bind fun e1 => (ft e1 w).bind fun q => if q.1 = true then (fe e1 q.2).bind fun r => (lcD gs ft fe env ds r.2).map fun s => (r.1 :: s.1, s.2) else lcD gs ft fe env ds q.2
def eLc (vs : List Nat) (fi : F1 (List D)) (gs : D → Env → Option Env) (ft : F1 Bool) (fe : F1 D) : F1 D := fun env w => (fi env w).bind fun p => (lcD gs ft fe (wipeE env vs) p.1 p.2).map fun q => (.list q.1, q.2)
theorem sn_lc {is vs : List Nat} {wi : TI} {fi : F1 (List D)} {tg : TG} {gs : D → Env → Option Env} {tt : TT} {ft : F1 Bool} (hi : SndI K .bo wi fi) (hg : SndG K is tg gs) (ht : SndT K tt ft) (he : SndE K .sh te fe)
    (hs : is.all (fun j => vs.contains j) = true := by rfl) : SndE K .fr (tLc wi tg tt te vs) (eLc vs fi gs ft fe) := ⟨fun {hd hc H0 Oe O w env σ H} S d w' e Q q => by
  obtain ⟨⟨ds, w1⟩, e1, e⟩ := bindS e
  obtain ⟨⟨out, w2⟩, e2, e⟩ := mapS e
  cases e
  refine hi.go S e1 _ fun J H1 x1 h1 wk hz => ?_
  intro D hD
  have wk : WalkB K hd O H1 J ds := wk
  have S1 := S.step x1 h1
  refine ⟨fun i n H' => n = ds.length - i ∧ i ≤ ds.length ∧ ∃ (w3 : W) (accV : List V) (acc rest : List PyData), Ext hd H1 H' ∧ HandIs hd hc w3 H' ∧ H' D = some (.lst accV) ∧ RepAll K hd (D :: O) H' accV acc ∧ accV.length ≤ i ∧
      lcD gs ft fe (wipeE env vs) (ds.drop i) w3 = some (rest, w2) ∧ acc ++ rest = out,
    ⟨ds.length, rfl, Nat.zero_le _, w1, [], [], out, .new hD, h1.new hD, upd_same, .nil, Nat.le_refl _, by simpa using e2, rfl⟩, ?_⟩
  rintro i n H' ⟨rfl, hl, w3, accV, acc, rest, x2, h2, hA, rA, hlen, e', ho⟩
  have hDne : H' D ≠ none := by
    rw [hA]
    intro z
    cases z
  have nw : News H1 H' O (D :: O) [D] := ⟨fun b hb => (by rw [List.mem_singleton.mp hb]; exact hD), fun b hb => (by rw [List.mem_singleton.mp hb]; exact hDne), (by simp), fun b => (by simp)⟩
  have S2 := S1.stepL x2 h2 nw
  have wk' := wk (D :: O) H' x2 (fun b hb => by
    rcases List.mem_cons.mp hb with z | z
    · exact .inr (z ▸ hD)
    · exact .inl z) S2.hdO
  by_cases hlt : i < ds.length
  · obtain ⟨go, yl⟩ := wk'.go i ds[i] (by simp [hlt])
    rw [List.drop_eq_getElem_cons hlt] at e'
    obtain ⟨ev, f1, e'⟩ := bindS (show (gs ds[i] (wipeE env vs)).bind _ = some (rest, w2) from e')
    obtain ⟨⟨b, w4⟩, f2, e'⟩ := bindS e'
    refine .inr ⟨go, fun H3 => ∃ m', m' < ds.length - i ∧ (m' = ds.length - (i + 1) ∧ i + 1 ≤ ds.length ∧ ∃ (w3 : W) (accV : List V) (acc rest : List PyData), Ext hd H1 H3 ∧ HandIs hd hc w3 H3 ∧ H3 D = some (.lst accV) ∧ RepAll K hd (D :: O) H3 accV acc ∧ accV.length ≤ i + 1 ∧
      lcD gs ft fe (wipeE env vs) (ds.drop (i + 1)) w3 = some (rest, w2) ∧ acc ++ rest = out), fun H3 h => h, fun x H3 hy => ?_⟩
    obtain ⟨x3, hh3, r3⟩ := yl x H3 hy
    have S3 := (S2.step x3 (hh3 _ _ S2.hand)).wipe vs
    refine hg.go S3 r3 f1 _ fun σ4 S4 k4 l4 => ⟨wipe_eq k4 l4 (fun j hj => by simpa using List.all_eq_true.mp hs j hj), ?_⟩
    refine ht.go S4 f2 _ fun H5 x5 h5 => ?_
    have hA5 : H5 D = some (.lst accV) := x5.keep _ _ (fun z => S1.hdn (z ▸ hD)) (x3.keep _ _ (fun z => S1.hdn (z ▸ hD)) hA)
    have rA5 : RepAll K hd (D :: O) H5 accV acc := rA.ext (List.mem_cons_of_mem _ S.hdO) (x3.trans x5)
    by_cases c : b = true
    · rw [if_pos c]; rw [if_pos (show (b, w4).1 = true from c)] at e'
      obtain ⟨⟨y, w5⟩, f3, e'⟩ := bindS e'
      obtain ⟨⟨out', w6⟩, f4, e'⟩ := mapS e'
      cases e'
      refine he.go (S4.step x5 h5) f3 _ fun v H6 x6 h6 r6 => ?_
      have hA6 : H6 D = some (.lst accV) := x6.keep _ _ (fun z => S1.hdn (z ▸ hD)) hA5
      have rA6 : RepAll K hd (D :: O) H6 accV acc := rA5.ext (List.mem_cons_of_mem _ S.hdO) x6
      have x6' : Ext hd H1 H6 := ((x2.trans x3).trans x5).trans x6
      have gp : Prog (D :: O) H6 (D :: O) (upd H6 D (.lst (accV ++ [v]))) := ⟨fun b o nb z => ⟨nb, by rw [upd_ne (fun z => nb (by rw [z]; exact List.mem_cons_self))]; exact z⟩, fun b ys z => by
        rw [upd_ne (fun z' => by rw [z', hA6] at z; cases z)]; exact z⟩
      refine ⟨accV, hA6, Nat.lt_of_le_of_lt hlen (Nat.lt_of_lt_of_le hlt hz), ds.length - (i + 1), by omega, rfl, hlt, w5, accV ++ [v], acc ++ [y], out', ⟨fun b o nb z => ?_, fun b ys z => ?_⟩, ?_, upd_same, (rA6.append (.cons r6 .nil)).prog gp, by simp; omega, f4, by simpa using ho⟩
      · rw [upd_ne (ne_of_none z hD)]; exact x6'.keep b o nb z
      · rw [upd_ne (ne_of_none z hD)]; exact x6'.tups b ys z
      · exact h6.keep (upd_ne (fun z => S1.hdn (z ▸ hD))) (upd_ne (fun z => by have := S1.hand.cells; rw [z, hD] at this; cases this))
    · rw [if_neg c]; rw [if_neg (show ¬ (b, w4).1 = true from c)] at e'
      exact ⟨_, by omega, rfl, hlt, w4, accV, acc, rest, (x2.trans x3).trans x5, h5, hA5, rA5, by omega, e', ho⟩
  · have hl' : i = ds.length := by omega
    subst hl'
    rw [List.drop_length] at e'
    cases e'
    rw [List.append_nil] at ho
    subst ho
    exact .inl ⟨wk'.stop _ (Nat.le_refl _), q _ H' (x1.trans x2) h2 ⟨D, accV, acc, rfl, rfl, x1.old h1 hD, hA, Nat.le_trans hlen hz, rA⟩⟩⟩

/-! ### defs -/
def fnD (n : Nat) (f : F1 Out) : List D → W → Option (D × W) := fun ds w => (f (ds.map Slot.sh ++ List.replicate (n - ds.length) Slot.no) w).bind fun p => match p.1 with
  | .rt d => some (d, p.2)
  | .nx _ => some (.none, p.2)
  | _ => none
theorem body_ok {N : List Str} {n : Nat} {vs : List V} {H : Hp} {Q : VK} {E : XK} (h : SndS K t f) (q : spD K n (fnD N.length f) vs H Q E) : t { nx := fun _ H' => Q .non H', rt := Q } (L2.start N vs) H := by
  obtain ⟨hd, hc, Oe, ds, w, d, w', hE, hcE, hn, hh, r, hl, e, k⟩ := q
  obtain ⟨⟨o, w1⟩, e1, e⟩ := bindS e
  have S : Stt K hd hc H Oe Oe w (ds.map Slot.sh ++ List.replicate (N.length - ds.length) Slot.no) (L2.start N vs) H := {
    ext := .refl
    hd0 := by rw [hh.at_]; intro z; cases z
    hc0 := by rw [hh.cells]; intro z; cases z
    hdE := hE, hcO := hcE, sub := fun _ q => q, oe := hn, onn := hn, hand := hh
    len := by simp [L2.start, r.len]
    slot := fun i s hs => by
      by_cases hi : i < ds.length
      · rw [List.getElem?_append_left (by simpa using hi), List.getElem?_map] at hs
        have hd' : ds[i]? = some ds[i] := by simp [hi]
        rw [hd'] at hs
        cases hs
        obtain ⟨v, e2, rv⟩ := r.get hd'
        refine ⟨v, ?_, rv⟩
        unfold L2.start
        rw [List.getElem?_append_left (by simp [r.len, hi]), List.getElem?_map, e2]; rfl
      · rw [List.getElem?_append_right (by simpa using hi)] at hs
        have := List.mem_of_getElem? hs
        rw [(List.mem_replicate.mp this).2]
        trivial
    dist := fun i j d' e' a h1 h2 h3 h4 => by
      have no : ∀ (i : Nat) (d' : D), (ds.map Slot.sh ++ List.replicate (N.length - ds.length) Slot.no)[i]? = some (.ow d') → False := fun i d' hs => by
        have := List.mem_of_getElem? hs
        rcases List.mem_append.mp this with z | z
        · obtain ⟨_, _, z⟩ := List.mem_map.mp z; cases z
        · have := (List.mem_replicate.mp z).2; cases this
      exact (no i d' h1).elim }
  refine h.go S e1 _ ?_
  cases o with
  | nx e2 =>
    cases e
    exact fun O' σ' H' S' g' => k _ _ S'.ext S'.hand .non
  | rt d2 =>
    cases e
    exact fun v H' x hh r => k v H' x hh r
  | bk e2 => cases e
  | ct e2 => cases e
end
end DL

set_option maxRecDepth 100000
/-! DL5: operators, built-ins by values -/
namespace DL
open PySem L2
section
variable {K : PySem.W.Frag}
theorem RepM.ofInt {m : Mode} {hd : Addr} {Oe O : List Addr} {H0 H : Hp} (hm : m ≠ .fr) (i : Int) : RepM m K hd Oe H0 O H (.int i) (.int i) := by
  cases m with
  | bo => exact .inl (.int i)
  | sh => exact Rep.int i
  | fr => exact absurd rfl hm
/-- a new list of items that stand -/
theorem newList {hd hc : Addr} {w : W} {Oe O : List Addr} {H : Hp} {xs : List V} {ds : List D} {p : Addr} (hh : HandIs hd hc w H) (np : H p = none) (r : RepAll K hd O H xs ds) (z : xs.length ≤ SZ) :
    Ext hd H (upd H p (.lst xs)) ∧ HandIs hd hc w (upd H p (.lst xs)) ∧ RepM .fr K hd Oe H O (upd H p (.lst xs)) (.ref p) (.list ds) :=
  ⟨.new np, hh.new np, p, xs, ds, rfl, rfl, np, upd_same, z, r.prog (.new np)⟩
theorem newTup {hd hc : Addr} {w : W} {O : List Addr} {H : Hp} {xs : List V} {ds : List D} {p : Addr} (hO : hd ∈ O) (hh : HandIs hd hc w H) (np : H p = none) (r : RepAll K hd O H xs ds) (z : xs.length ≤ SZ) :
    Ext hd H (upd H p (.tup xs)) ∧ HandIs hd hc w (upd H p (.tup xs)) ∧ Rep K hd O (upd H p (.tup xs)) (.ref p) (.tuple ds) :=
  ⟨.new np, hh.new np, .tup (.inl upd_same) z (r.ext hO (.new np))⟩

/-! ### + -/
def rAddA (K : PySem.W.Frag) : R2 := fun x y H Q => rI0 (fun i j => .int (i + j)) x y H Q ∨ (∃ i j, x = .str i ∧ y = .str j ∧ i.length + j.length ≤ sizeLine ∧ Q (.str (i ++ j)) H) ∨ rCat x y H Q ∨ rCatA K x y H Q
theorem opAdd {X : Cx} : OpR X (binaryOp .Add) (rAddA X.K) := op_add.or (op_add_str.or (op_cat.or op_catA))
def gAdd : D → D → Option D
  | .int i, .int j => some (.int (i + j))
  | .str x, .str y => if x.length + y.length ≤ SZ then some (.str (x ++ y)) else none
  | .list a, .list b => if a.length + b.length ≤ SZ then some (.list (a ++ b)) else none
  | .tuple a, .tuple b => if a.length + b.length ≤ SZ then some (.tuple (a ++ b)) else none
  | _, _ => none
theorem o_add : Op2 K .sh (rAddA K) gAdd := by
  intro hd hc Oe O w H x y dx dy d Q hE hs hn hh rx ry e q
  unfold gAdd at e
  split at e
  · cases e
    exact .inl ⟨_, _, rx.int, ry.int, q _ _ .refl hh (Rep.int _)⟩
  · split at e
    · rename_i hz
      cases e
      exact .inr (.inl ⟨_, _, rx.str, ry.str, hz, q _ _ .refl hh (Rep.str _)⟩)
    · cases e
  · split at e
    · rename_i hz
      cases e
      obtain ⟨a, xs, rfl, n1, h1, z1, r1⟩ := rx.lst hs
      obtain ⟨b, ys, rfl, n2, h2, z2, r2⟩ := ry.lst hs
      have hl : xs.length + ys.length ≤ SZ := by rw [r1.len, r2.len]; exact hz
      refine .inr (.inr (.inl ⟨a, b, xs, ys, rfl, rfl, h1, h2, hl, fun p np => ?_⟩))
      obtain ⟨x1, h3, r3⟩ := newList (K := K) (Oe := Oe) hh np (r1.append r2) (by simpa using hl)
      exact q _ _ x1 h3 (RepM.shr (by decide) r3 hn)
    · cases e
  · split at e
    · rename_i hz
      cases e
      obtain ⟨a, xs, rfl, h1, z1, r1⟩ := rx.tup
      obtain ⟨b, ys, rfl, h2, z2, r2⟩ := ry.tup
      have hl : xs.length + ys.length ≤ SZ := by rw [r1.len, r2.len]; exact hz
      refine .inr (.inr (.inr ⟨a, b, xs, ys, rfl, rfl, h1.sqt, h2.sqt, hl, fun e1 => ?_, fun e1 e2 => ?_, fun _ _ p np => ?_⟩))
      · subst e1
        cases r1
        exact q _ _ .refl hh (Rep.tup h2 z2 r2)
      · subst e2
        cases r2
        rw [List.append_nil] at q
        exact q _ _ .refl hh (Rep.tup h1 z1 r1)
      · obtain ⟨x1, h3, r3⟩ := newTup (K := K) (hs _ hE) hh np (r1.append r2) (by simpa using hl)
        exact q _ _ x1 h3 r3
    · cases e
  · cases e
def gCat : D → D → Option D
  | .list a, .list b => if a.length + b.length ≤ SZ then some (.list (a ++ b)) else none
  | _, _ => none
theorem o_cat : Op2 K .fr rCat gCat := by
  intro hd hc Oe O w H x y dx dy d Q hE hs hn hh rx ry e q
  unfold gCat at e
  split at e
  · split at e
    · rename_i hz
      cases e
      obtain ⟨a, xs, rfl, n1, h1, z1, r1⟩ := rx.lst hs
      obtain ⟨b, ys, rfl, n2, h2, z2, r2⟩ := ry.lst hs
      have hl : xs.length + ys.length ≤ SZ := by rw [r1.len, r2.len]; exact hz
      refine ⟨a, b, xs, ys, rfl, rfl, h1, h2, hl, fun p np => ?_⟩
      obtain ⟨x1, h3, r3⟩ := newList (K := K) (Oe := Oe) hh np (r1.append r2) (by simpa using hl)
      exact q _ _ x1 h3 r3
    · cases e
  · cases e
/-! ### -, *, //, %, **, unary - -/
def gInt2 (p : Int → Int → Bool) (f : Int → Int → Int) : D → D → Option D
  | .int i, .int j => if p i j = true then some (.int (f i j)) else none
  | _, _ => none
theorem o_int2 {C : Int → Int → Prop} {p : Int → Int → Bool} {f : Int → Int → Int} (h : ∀ i j, p i j = true → C i j) : Op2 K .sh (rI C fun i j => .int (f i j)) (gInt2 p f) := by
  intro hd hc Oe O w H x y dx dy d Q hE hs hn hh rx ry e q
  unfold gInt2 at e
  split at e
  · split at e
    · rename_i hz
      cases e
      exact ⟨_, _, rx.int, ry.int, h _ _ hz, q _ _ .refl hh (Rep.int _)⟩
    · cases e
  · cases e
def gSub : D → D → Option D
  | .int i, .int j => some (.int (i - j))
  | _, _ => none
theorem o_sub : Op2 K .sh (rI0 fun i j => .int (i - j)) gSub := by
  intro hd hc Oe O w H x y dx dy d Q hE hs hn hh rx ry e q
  unfold gSub at e
  split at e
  · cases e
    exact ⟨_, _, rx.int, ry.int, q _ _ .refl hh (Rep.int _)⟩
  · cases e
/-- the total of ints for an augmented assignment -/
def gAddI : D → D → Option D
  | .int i, .int j => some (.int (i + j))
  | _, _ => none
theorem o_addI : Op2 K .sh (rI0 fun i j => .int (i + j)) gAddI := by
  intro hd hc Oe O w H x y dx dy d Q hE hs hn hh rx ry e q
  unfold gAddI at e
  split at e
  · cases e
    exact ⟨_, _, rx.int, ry.int, q _ _ .refl hh (Rep.int _)⟩
  · cases e
def small (i : Int) : Bool := decide (-18446744073709551616 < i) && decide (i < 18446744073709551616)
def mulOk (i j : Int) : Bool := small i || small j
theorem mulOk_C {i j : Int} (h : mulOk i j = true) : CMul i j := by
  simp only [mulOk, small, Bool.or_eq_true, Bool.and_eq_true, decide_eq_true_eq] at h
  have e : (2 : Int) ^ 64 = 18446744073709551616 := by decide
  unfold CMul
  rw [e]
  exact h
def repOk (n : Nat) (k : Int) : Bool := decide (-9223372036854775808 ≤ k) && decide (k < 9223372036854775808) && decide (n * k.toNat ≤ SZ)
def gMul : D → D → Option D
  | .int i, .int j => if mulOk i j = true then some (.int (i * j)) else none
  | .list a, .int k => if repOk a.length k = true then some (.list (List.replicate k.toNat a).flatten) else none
  | _, _ => none
def rMulA : R2 := fun x y H Q => rI CMul (fun i j => .int (i * j)) x y H Q ∨ rRep x y H Q
theorem opMul {X : Cx} : OpR X (binaryOp .Mult) rMulA := op_mul.or op_rep
theorem RepAll.rep {hd : Addr} {O : List Addr} {H : Hp} {vs : List V} {ds : List D} (r : RepAll K hd O H vs ds) : ∀ n : Nat, RepAll K hd O H (List.replicate n vs).flatten (List.replicate n ds).flatten
  | 0 => .nil
  | n + 1 => by
    rw [List.replicate_succ, List.replicate_succ, List.flatten_cons, List.flatten_cons]
    exact r.append (r.rep n)
theorem repOk_ {n : Nat} {k : Int} (h : repOk n k = true) : -(2 ^ 63) ≤ k ∧ k < 2 ^ 63 ∧ n * k.toNat ≤ SZ := by
  simp only [repOk, Bool.and_eq_true, decide_eq_true_eq] at h
  have e : (2 : Int) ^ 63 = 9223372036854775808 := by decide
  rw [e]
  exact ⟨h.1.1, h.1.2, h.2⟩
theorem o_mul : Op2 K .sh rMulA gMul := by
  intro hd hc Oe O w H x y dx dy d Q hE hs hn hh rx ry e q
  unfold gMul at e
  split at e
  · split at e
    · rename_i hz
      cases e
      exact .inl ⟨_, _, rx.int, ry.int, mulOk_C hz, q _ _ .refl hh (Rep.int _)⟩
    · cases e
  · split at e
    · rename_i hz
      cases e
      obtain ⟨a, xs, rfl, n1, h1, z1, r1⟩ := rx.lst hs
      obtain ⟨k1, k2, k3⟩ := repOk_ hz
      rw [← r1.len] at k3
      refine .inr ⟨a, _, xs, rfl, ry.int, h1, k1, k2, k3, fun p np => ?_⟩
      obtain ⟨x1, h3, r3⟩ := newList (K := K) (Oe := Oe) hh np (r1.rep _) (by rw [List.length_flatten, List.map_replicate, List.sum_replicate_nat, Nat.mul_comm]; exact k3)
      exact q _ _ x1 h3 (RepM.shr (by decide) r3 hn)
    · cases e
  · cases e
def gRep : D → D → Option D
  | .list a, .int k => if repOk a.length k = true then some (.list (List.replicate k.toNat a).flatten) else none
  | _, _ => none
theorem o_rep : Op2 K .fr rRep gRep := by
  intro hd hc Oe O w H x y dx dy d Q hE hs hn hh rx ry e q
  unfold gRep at e
  split at e
  · split at e
    · rename_i hz
      cases e
      obtain ⟨a, xs, rfl, n1, h1, z1, r1⟩ := rx.lst hs
      obtain ⟨k1, k2, k3⟩ := repOk_ hz
      rw [← r1.len] at k3
      refine ⟨a, _, xs, rfl, ry.int, h1, k1, k2, k3, fun p np => ?_⟩
      obtain ⟨x1, h3, r3⟩ := newList (K := K) (Oe := Oe) hh np (r1.rep _) (by rw [List.length_flatten, List.map_replicate, List.sum_replicate_nat, Nat.mul_comm]; exact k3)
      exact q _ _ x1 h3 r3
    · cases e
  · cases e
def modOk (_ j : Int) : Bool := decide (j ≠ 0)
theorem o_mod : Op2 K .sh (rI (fun _ j => j ≠ 0) fun i j => .int (i.fmod j)) (gInt2 modOk fun i j => i.fmod j) := o_int2 fun i j h => by simpa [modOk] using h
def divOk (_ j : Int) : Bool := decide (j ≠ 0) && decide (-1073741824 < j) && decide (j < 1073741824)
theorem o_fdiv : Op2 K .sh (rI CDivN fun i j => .int (i.fdiv j)) (gInt2 divOk fun i j => i.fdiv j) := o_int2 fun i j h => by
  simp only [divOk, Bool.and_eq_true, decide_eq_true_eq] at h
  exact ⟨h.1.1, by omega⟩
def powOk (i j : Int) : Bool := decide (0 ≤ j) && decide (j ≤ 1000000) && small i
theorem o_pow : Op2 K .sh (rI CPow fun i j => .int (i ^ j.toNat)) (gInt2 powOk fun i j => i ^ j.toNat) := o_int2 fun i j h => by
  simp only [powOk, small, Bool.and_eq_true, decide_eq_true_eq] at h
  exact ⟨h.1.1, h.1.2, by have e : (2 : Nat) ^ 64 = 18446744073709551616 := by decide
                          rw [e]; omega⟩
def gNeg : D → Option D
  | .int i => some (.int (-i))
  | _ => none
theorem o_neg : Op1 K .sh (rU fun i => .int (-i)) gNeg := by
  intro hd hc Oe O w H x dx d Q hE hs hn hh rx e q
  unfold gNeg at e
  split at e
  · cases e
    exact ⟨_, rx.int, q _ _ .refl hh (Rep.int _)⟩
  · cases e

/-! ### comparisons -/
def gCmp (p : Int → Int → Bool) : D → D → Option D
  | .int i, .int j => some (.bool (p i j))
  | _, _ => none
theorem o_cmp {p : Int → Int → Bool} : Op2 K .sh (rI0 fun i j => .bl (p i j)) (gCmp p) := by
  intro hd hc Oe O w H x y dx dy d Q hE hs hn hh rx ry e q
  unfold gCmp at e
  split at e
  · cases e
    exact ⟨_, _, rx.int, ry.int, q _ _ .refl hh (Rep.bl _)⟩
  · cases e
abbrev gLt := gCmp fun i j => decide (i < j)
abbrev gLe := gCmp fun i j => decide (i ≤ j)
abbrev gGt := gCmp fun i j => decide (j < i)
abbrev gGe := gCmp fun i j => decide (j ≤ i)
mutual
theorem Rep.dp {hd : Addr} {O : List Addr} {H : Hp} : ∀ {v : V} {d : D}, Rep K hd O H v d → d.plain = true → Dp K H v d
  | _, _, .non, _ => .non
  | _, _, .bl b, _ => .bl b
  | _, _, .int b, _ => .int b
  | _, _, .str b, _ => .str b
  | _, _, .lst h n z r, p => .lst (SqL.of h) (RepAll.dp r (by simpa [PyData.plain] using p))
  | _, _, .tup h z r, p => .tup h.sqt (RepAll.dp r (by simpa [PyData.plain] using p))
  | _, _, .hand, p => by simp [hnd, PyData.plain] at p
theorem RepAll.dp {hd : Addr} {O : List Addr} {H : Hp} : ∀ {v : List V} {d : List D}, RepAll K hd O H v d → PyData.plainAll d = true → DpAll K H v d
  | _, _, .nil, _ => .nil
  | _, _, .cons r t, p => by
    simp only [PyData.plainAll, Bool.and_eq_true] at p
    exact .cons (r.dp p.1) (t.dp p.2)
end
theorem RepB.dp {hd : Addr} {Oe O : List Addr} {H : Hp} {v : V} {d : D} (r : RepB K hd Oe O H v d) (p : d.plain = true) : Dp K H v d := by
  rcases r with r | ⟨a, xs, ds, rfl, rfl, n, h, z, r⟩
  · exact r.dp p
  · exact .lst (SqL.of h) (r.dp (by simpa [PyData.plain] using p))
def okD (d : D) : Bool := d.plain && decide (d.depth ≤ 64)
def rEqP (K : PySem.W.Frag) : R2 := fun x y H Q => ∃ d e, Dp K H x d ∧ Dp K H y e ∧ okD d = true ∧ okD e = true ∧ Q (.bl (PyData.eqv d e)) H
def rNeP (K : PySem.W.Frag) : R2 := fun x y H Q => ∃ d e, Dp K H x d ∧ Dp K H y e ∧ okD d = true ∧ okD e = true ∧ Q (.bl (!PyData.eqv d e)) H
theorem okD_ {d : D} (h : okD d = true) : d.plain = true ∧ d.depth ≤ 64 := by simpa [okD] using h
theorem opEq {X : Cx} (hu : X.A.units + 64 < cLine) : OpR X (compareOp .Eq) (rEqP X.K) := by
  intro pins s σ H x y v u Q I rx ry h
  obtain ⟨d, e, hd, he, sd, se, q⟩ := h
  obtain ⟨as, r1⟩ := Dp.reads I d x v hd rx
  obtain ⟨bs, r2⟩ := Dp.reads I e y u he ry
  have k := (okD_ sd).2
  exact SeqAt.eq_plain r1 r2 (okD_ sd).1 (okD_ se).1 (by omega) ⟨.bl _, H, I, rfl, q⟩
theorem opNe {X : Cx} (hu : X.A.units + 64 < cLine) : OpR X (compareOp .NotEq) (rNeP X.K) := by
  intro pins s σ H x y v u Q I rx ry h
  obtain ⟨d, e, hd, he, sd, se, q⟩ := h
  obtain ⟨as, r1⟩ := Dp.reads I d x v hd rx
  obtain ⟨bs, r2⟩ := Dp.reads I e y u he ry
  have k := (okD_ sd).2
  exact SeqAt.ne_plain r1 r2 (okD_ sd).1 (okD_ se).1 (by omega) ⟨.bl _, H, I, rfl, q⟩
def gEq (d e : D) : Option D := if (okD d && okD e) = true then some (.bool (PyData.eqv d e)) else none
def gNe (d e : D) : Option D := if (okD d && okD e) = true then some (.bool (!PyData.eqv d e)) else none
theorem o_eq : Op2 K .sh (rEqP K) gEq := by
  intro hd hc Oe O w H x y dx dy d Q hE hs hn hh rx ry e q
  unfold gEq at e
  split at e
  · rename_i h
    cases e
    rw [Bool.and_eq_true] at h
    exact ⟨dx, dy, rx.dp (okD_ h.1).1, ry.dp (okD_ h.2).1, h.1, h.2, q _ _ .refl hh (Rep.bl _)⟩
  · cases e
theorem o_ne : Op2 K .sh (rNeP K) gNe := by
  intro hd hc Oe O w H x y dx dy d Q hE hs hn hh rx ry e q
  unfold gNe at e
  split at e
  · rename_i h
    cases e
    rw [Bool.and_eq_true] at h
    exact ⟨dx, dy, rx.dp (okD_ h.1).1, ry.dp (okD_ h.2).1, h.1, h.2, q _ _ .refl hh (Rep.bl _)⟩
  · cases e
/-- a op1 b op2 c, of ints -/
def asI : D → Option Int
  | .int i => some i
  | _ => none
theorem asI_ {d : D} {i : Int} (h : asI d = some i) : d = .int i := by
  cases d <;> simp [asI] at h
  rw [h]
def eChn (p q : Int → Int → Bool) (fa fb fc : F1 D) : F1 D := fun env w => (fa env w).bind fun x => (fb env x.2).bind fun y => (asI x.1).bind fun i => (asI y.1).bind fun j =>
  if p i j = true then (fc env y.2).bind fun z => (asI z.1).map fun k => (.bool (q j k), z.2) else some (.bool false, y.2)
theorem sn_chn {ma mb mc : Mode} {ta tb tc : TE} {fa fb fc : F1 D} {p q : Int → Int → Bool} (ha : SndE K ma ta fa) (hb : SndE K mb tb fb) (hc : SndE K mc tc fc) :
    SndE K .sh (tChain (rI0 fun i j => .bl (p i j)) (rI0 fun i j => .bl (q i j)) ta tb tc) (eChn p q fa fb fc) := ⟨fun {hd hc' H0 Oe O w env σ H} S d w' e Q k => by
  obtain ⟨⟨x, w1⟩, e1, e⟩ := bindS e
  obtain ⟨⟨y, w2⟩, e2, e⟩ := bindS e
  obtain ⟨i, ei, f1⟩ := bindS e
  obtain ⟨j, ej, f2⟩ := bindS f1
  have hx := asI_ ei
  have hy := asI_ ej
  simp only at hx hy
  clear e f1
  subst hx hy
  refine two ha hb S e1 e2 fun v u H2 x2 S2 r1 r2 => ?_
  refine ⟨i, j, (r1.b S.onn).int, (r2.b S.onn).int, p i j, rfl, ?_⟩
  by_cases c : p i j = true
  · rw [if_pos c] at f2 ⊢
    obtain ⟨⟨z, w3⟩, e3, f3⟩ := bindS f2
    obtain ⟨l, el, f4⟩ := mapS f3
    have hz := asI_ el
    simp only at hz
    clear f3
    subst hz
    cases f4
    refine hc.go S2 e3 _ fun z H3 x3 h3 r3 => ?_
    exact ⟨j, l, (r2.b S.onn).int, (r3.b S2.onn).int, k _ _ (x2.trans x3) h3 (Rep.bl _)⟩
  · rw [if_neg c] at f2 ⊢
    cases f2
    exact k _ _ x2 S2.hand (Rep.bl _)⟩
end
end DL

set_option maxRecDepth 100000
/-! DL6: built-ins, subscripts, slices, what is walked -/
namespace DL
open PySem L2
theorem _root_.L2.Room.u {k : Nat} {A : Around} (r : Room k A) : A.units + 128 < cLine := by have := r.un; omega
section
variable {K : PySem.W.Frag}
theorem Dp.toReads {X : Cx} {pins : List (Addr × Obj)} {σ : List (Option V)} {H : Hp} {s : Shared} (I : Inv X pins σ H s) {xs : List V} {ds : List D} {us : List Value} (h : DpAll X.K H xs ds) (r : Vals xs us) : ∃ as, ReadsAll s.heap us ds as := Dp.readsAll I ds xs us h r

/-! ### subscripts -/
def gIx : D → D → Option D
  | .list ds, .int i => atI ds i
  | .tuple ds, .int i => atI ds i
  | .str z, .int i => if z.length ≤ SZ then (atI z.cps.toList i).map fun c => .str ⟨#[c]⟩ else none
  | _, _ => none
theorem RepAll.atI {hd : Addr} {O : List Addr} {H : Hp} {xs : List V} {ds : List D} {i : Int} {d : D} (r : RepAll K hd O H xs ds) (h : L2.atI ds i = some d) : ∃ v, L2.atI xs i = some v ∧ Rep K hd O H v d := by
  unfold L2.atI at h ⊢
  obtain ⟨j, h1, h2⟩ := bindS h
  obtain ⟨v, h3, h4⟩ := r.get h2
  rw [r.len, h1]
  exact ⟨v, h3, h4⟩
theorem o_ix : Op2 K .sh (rIx K) gIx := by
  intro hd hc Oe O w H x y dx dy d Q hE hs hn hh rx ry e q
  unfold gIx at e
  split at e
  · obtain ⟨a, xs, rfl, n1, h1, z1, r1⟩ := rx.lst hs
    obtain ⟨v, h2, r2⟩ := r1.atI e
    exact .inl ⟨a, xs, _, v, rfl, ry.int, SqL.of h1, h2, q _ _ .refl hh r2⟩
  · obtain ⟨a, xs, rfl, h1, z1, r1⟩ := rx.tup
    obtain ⟨v, h2, r2⟩ := r1.atI e
    exact .inr (.inl ⟨a, xs, _, v, rfl, ry.int, h1.sqt, h2, q _ _ .refl hh r2⟩)
  · split at e
    · rename_i hz
      obtain ⟨c, h1, rfl⟩ := mapS e
      exact .inr (.inr ⟨_, _, c, rx.str, ry.int, hz, h1, q _ _ .refl hh (Rep.str _)⟩)
    · cases e
  · cases e

/-! ### slices -/
structure SndO (K : PySem.W.Frag) (t : TO) (f : F1 (Option Int)) : Prop where
  go : ∀ {hd hc : Addr} {H0 : Hp} {Oe O : List Addr} {w : W} {env : Env} {σ : List (Option V)} {H : Hp}, Stt K hd hc H0 Oe O w env σ H → ∀ {d : Option Int} {w' : W}, f env w = some (d, w') →
    ∀ (Q : Option Int → Hp → Prop), (∀ H', Ext hd H H' → HandIs hd hc w' H' → Q d H') → t σ H Q
def oNone : F1 (Option Int) := fun _ w => some (none, w)
def oSome (f : F1 D) : F1 (Option Int) := fun env w => (f env w).bind fun p => (asI p.1).map fun i => (some i, p.2)
theorem so_none : SndO K tNoPart oNone := ⟨fun S _ _ e Q q => by cases e; exact q _ .refl S.hand⟩
theorem so_some {m : Mode} {t : TE} {f : F1 D} (h : SndE K m t f) : SndO K (tPart t) (oSome f) := ⟨fun {hd hc H0 Oe O w env σ H} S d w' e Q q => by
  obtain ⟨⟨x, w1⟩, e1, e2⟩ := bindS e
  obtain ⟨i, e3, e4⟩ := mapS e2
  have hx := asI_ e3
  simp only at hx
  clear e e2
  subst hx
  cases e4
  exact h.go S e1 _ fun v H' x hh r => ⟨i, (r.b S.onn).int, q H' x hh⟩⟩
def cutD {α : Type} (xs : List α) (lo hi : Option Int) : List α := (xs.drop (HT.sIx xs.length 0 lo)).take (HT.sIx xs.length xs.length hi - HT.sIx xs.length 0 lo)
def gSl : D → Option Int → Option Int → Option D
  | .list ds, lo, hi => some (.list (cutD ds lo hi))
  | .tuple ds, lo, hi => some (.tuple (cutD ds lo hi))
  | .str z, lo, hi => if z.length ≤ SZ then some (.str (cutS z lo hi)) else none
  | _, _, _ => none
def rSlX (K : PySem.W.Frag) : V → Option Int → Option Int → Hp → VK → Prop := fun x lo hi H Q => rSlL K x lo hi H Q ∨ (rSlA K x lo hi H Q ∨ rSlS x lo hi H Q)
theorem slX {X : Cx} : SlR X (rSlX X.K) := sl_list.or (sl_tupA.or sl_str)
def eSl (g : D → Option Int → Option Int → Option D) (f : F1 D) (fl fh : F1 (Option Int)) : F1 D := fun env w => (f env w).bind fun x => (fl env x.2).bind fun l => (fh env l.2).bind fun h => (g x.1 l.1 h.1).map fun d => (d, h.2)
def SlOp (K : PySem.W.Frag) (m : Mode) (r : V → Option Int → Option Int → Hp → VK → Prop) (g : D → Option Int → Option Int → Option D) : Prop :=
  ∀ {hd hc : Addr} {Oe O : List Addr} {w : W} {H : Hp} {x : V} {lo hi : Option Int} {dx d : D} {Q : VK}, hd ∈ Oe → (∀ b ∈ Oe, b ∈ O) → (∀ b ∈ O, H b ≠ none) → HandIs hd hc w H → RepB K hd Oe O H x dx → g dx lo hi = some d →
    (∀ v H', Ext hd H H' → HandIs hd hc w H' → RepM m K hd Oe H O H' v d → Q v H') → r x lo hi H Q
theorem RepAll.cut {hd : Addr} {O : List Addr} {H : Hp} {xs : List V} {ds : List D} (r : RepAll K hd O H xs ds) (lo hi : Option Int) : RepAll K hd O H (cutV xs lo hi) (cutD ds lo hi) := by
  unfold cutV cutD
  rw [r.len]
  exact (r.drop _).take _
theorem cutD_whole {α : Type} {xs : List α} {lo hi : Option Int} (h : HT.sIx xs.length 0 lo = 0 ∧ HT.sIx xs.length xs.length hi = xs.length) : cutD xs lo hi = xs := by
  unfold cutD
  rw [h.1, h.2]
  simp
theorem o_sl : SlOp K .sh (rSlX K) gSl := by
  intro hd hc Oe O w H x lo hi dx d Q hE hs hn hh rx e q
  unfold gSl at e
  split at e
  · cases e
    obtain ⟨a, xs, rfl, n1, h1, z1, r1⟩ := rx.lst hs
    refine .inl ⟨a, xs, rfl, SqL.of h1, fun p np => ?_⟩
    obtain ⟨x1, h3, r3⟩ := newList (K := K) (Oe := Oe) hh np (r1.cut lo hi) (Nat.le_trans (cutV_length _ _ _) z1)
    exact q _ _ x1 h3 (RepM.shr (by decide) r3 hn)
  · cases e
    obtain ⟨a, xs, rfl, h1, z1, r1⟩ := rx.tup
    refine .inr (.inl ⟨a, xs, rfl, h1.sqt, fun hw => ?_, fun _ p np => ?_⟩)
    · rw [r1.len] at hw
      rw [cutD_whole hw] at q
      exact q _ _ .refl hh (Rep.tup h1 z1 r1)
    · obtain ⟨x1, h3, r3⟩ := newTup (K := K) (hs _ hE) hh np (r1.cut lo hi) (Nat.le_trans (cutV_length _ _ _) z1)
      exact q _ _ x1 h3 r3
  · split at e
    · rename_i hz
      cases e
      exact .inr (.inr ⟨_, rx.str, hz, q _ _ .refl hh (Rep.str _)⟩)
    · cases e
  · cases e
theorem sn_sl {m m' : Mode} {r : V → Option Int → Option Int → Hp → VK → Prop} {g : D → Option Int → Option Int → Option D} {te : TE} {tl th : TO} {f : F1 D} {fl fh : F1 (Option Int)} (ho : SlOp K m r g) (h : SndE K m' te f) (hl : SndO K tl fl) (hh : SndO K th fh) :
    SndE K m (tSl r te tl th) (eSl g f fl fh) := ⟨fun {hd hc H0 Oe O w env σ H} S d w' e Q q => by
  obtain ⟨⟨x, w1⟩, e1, e⟩ := bindS e
  obtain ⟨⟨l, w2⟩, e2, e⟩ := bindS e
  obtain ⟨⟨u, w3⟩, e3, e⟩ := bindS e
  obtain ⟨z, e4, e⟩ := mapS e
  cases e
  refine h.go S e1 _ fun v H1 x1 h1 r1 => hl.go (S.step x1 h1) e2 _ fun H2 x2 h2 => hh.go (S.step (x1.trans x2) h2) e3 _ fun H3 x3 h3 => ?_
  have S3 := S.step ((x1.trans x2).trans x3) h3
  exact ho S.hdE S.sub S3.onn h3 (RepB.ext (r1.b S.onn) S.hdE S.hdO (x2.trans x3)) e4 fun z H' x4 h4 r4 => q z H' (((x1.trans x2).trans x3).trans x4) h4 (r4.base ((x1.trans x2).trans x3) h3)⟩

/-! ### len, int, abs, max, min of two -/
def gLen : D → Option D
  | .list ds => some (.int ds.length)
  | .tuple ds => some (.int ds.length)
  | .str x => if x.length ≤ SZ then some (.int x.length) else none
  | _ => none
theorem o_len : Cl1 K .sh (fun xs H Q => ∃ x n, xs = [x] ∧ LenV K x H n ∧ Q (.int (n : Nat)) H) gLen := by
  intro hd hc Oe O w H x dx d Q hE hs hn hh rx e q
  unfold gLen at e
  split at e
  · cases e
    obtain ⟨a, xs, rfl, n1, h1, z1, r1⟩ := rx.lst hs
    exact ⟨_, xs.length, rfl, .inl ⟨xs, SqL.of h1, rfl⟩, by rw [r1.len]; exact q _ _ .refl hh (Rep.int _)⟩
  · cases e
    obtain ⟨a, xs, rfl, h1, z1, r1⟩ := rx.tup
    exact ⟨_, xs.length, rfl, .inr ⟨xs, h1.sqt, rfl⟩, by rw [r1.len]; exact q _ _ .refl hh (Rep.int _)⟩
  · split at e
    · rename_i x' hz
      cases e
      have := rx.str
      subst this
      exact ⟨_, x'.length, rfl, ⟨hz, rfl⟩, q _ _ .refl hh (Rep.int _)⟩
    · cases e
  · cases e
def gToInt : D → Option D
  | .int i => some (.int i)
  | .bool b => some (.int (if b then 1 else 0))
  | _ => none
theorem o_toInt : Cl1 K .sh (fun xs H Q => (∃ i, xs = [.int i] ∧ Q (.int i) H) ∨ ∃ k, xs = [.bl k] ∧ Q (.int (if k then 1 else 0)) H) gToInt := by
  intro hd hc Oe O w H x dx d Q hE hs hn hh rx e q
  unfold gToInt at e
  split at e
  · cases e
    exact .inl ⟨_, by rw [rx.int], q _ _ .refl hh (Rep.int _)⟩
  · cases e
    exact .inr ⟨_, by rw [rx.bl], q _ _ .refl hh (Rep.int _)⟩
  · cases e
def gAbs : D → Option D
  | .int i => some (.int (if i < 0 then -i else i))
  | _ => none
theorem o_abs : Cl1 K .sh (fun xs H Q => ∃ i, xs = [.int i] ∧ Q (.int (if i < 0 then -i else i)) H) gAbs := by
  intro hd hc Oe O w H x dx d Q hE hs hn hh rx e q
  unfold gAbs at e
  split at e
  · cases e
    exact ⟨_, by rw [rx.int], q _ _ .refl hh (Rep.int _)⟩
  · cases e
def gMax2 : D → D → Option D
  | .int i, .int j => some (.int (if j > i then j else i))
  | _, _ => none
def gMin2 : D → D → Option D
  | .int i, .int j => some (.int (if j < i then j else i))
  | _, _ => none
theorem o_max2 : Cl2 K .sh (fun xs H Q => ∃ i j, xs = [.int i, .int j] ∧ Q (.int (if j > i then j else i)) H) gMax2 := by
  intro hd hc Oe O w H x y dx dy d Q hE hs hn hh rx ry e q
  unfold gMax2 at e
  split at e
  · cases e
    exact ⟨_, _, by rw [rx.int, ry.int], q _ _ .refl hh (Rep.int _)⟩
  · cases e
theorem o_min2 : Cl2 K .sh (fun xs H Q => ∃ i j, xs = [.int i, .int j] ∧ Q (.int (if j < i then j else i)) H) gMin2 := by
  intro hd hc Oe O w H x y dx dy d Q hE hs hn hh rx ry e q
  unfold gMin2 at e
  split at e
  · cases e
    exact ⟨_, _, by rw [rx.int, ry.int], q _ _ .refl hh (Rep.int _)⟩
  · cases e

/-! ### sum, all, any -/
def gSum : D → Option D
  | .list ds => (intsOf ds).map fun ns => .int ns.sum
  | .tuple ds => (intsOf ds).map fun ns => .int ns.sum
  | _ => none
def rSumA (K : PySem.W.Frag) : List V → Hp → VK → Prop := fun vs H Q => rSum K vs H Q ∨ ∃ (a : Addr) (ns : List Int), vs = [V.ref a] ∧ SqT K H a (ns.map V.int) ∧ Q (.int ns.sum) H
theorem clSum {X : Cx} (hc : X.calm = true) : CallR X (.builtin "sum") (rSumA X.K) := (cr_sum hc).or (by
  intro pins s σ H vs us Q I r h
  obtain ⟨a, ns, rfl, hs, q⟩ := h
  obtain ⟨its, rv, ht, _⟩ := I.tuple hs
  rw [Vals.ref1 r]
  have hi := rv.ints
  obtain ⟨xs, e⟩ := hi.allInts.items
  have hn : numsOf (intItems xs).toList = ns := by rw [← e]; exact hi.numsOf
  rw [nums_intItems] at hn
  rw [e] at ht
  have ht' : s.heap.IsTuple a (intItems xs) := ht
  refine call_sum_walkAnyS (PySem.W.iter_tupleW (A := X.A.in1) (I.ok.hd hc) ht' fun s₂ e2 W st hfp hw hk => ?_)
  refine ⟨_, _, _, _, _, _, _, numAt xs, rfl, W, st, hfp, (fun _ _ => intItems_at), fun s' t' m => ?_⟩
  obtain ⟨h', tk, rfl, hk'⟩ := PySem.W.moved_old e2 rfl m
  refine ⟨.int ns.sum, H, I.kept hk', ⟨t', ?_⟩, q⟩
  have hsz : (intItems xs).size = xs.size := by simp [intItems]
  rw [hsz, preSum_eq, List.take_of_length_le (by simp), hn])
theorem o_sum : Cl1 K .sh (rSumA K) gSum := by
  intro hd hc Oe O w H x dx d Q hE hs hn hh rx e q
  unfold gSum at e
  split at e
  · obtain ⟨ns, h1, rfl⟩ := mapS e
    obtain ⟨a, xs, rfl, n1, h2, z1, r1⟩ := rx.lst hs
    rw [intsOf_some h1] at r1
    have := r1.toInts
    subst this
    exact .inl ⟨a, ns, rfl, SqL.of h2, q _ _ .refl hh (Rep.int _)⟩
  · obtain ⟨ns, h1, rfl⟩ := mapS e
    obtain ⟨a, xs, rfl, h2, z1, r1⟩ := rx.tup
    rw [intsOf_some h1] at r1
    have := r1.toInts
    subst this
    exact .inr ⟨a, ns, rfl, h2.sqt, q _ _ .refl hh (Rep.int _)⟩
  · cases e
def gAll : D → Option D
  | .list ds => (boolsOf ds).map fun ns => .bool (ns.all id)
  | _ => none
def gAny : D → Option D
  | .list ds => (boolsOf ds).map fun ns => .bool (ns.any id)
  | _ => none
theorem o_all : Cl1 K .sh (rAll K) gAll := by
  intro hd hc Oe O w H x dx d Q hE hs hn hh rx e q
  unfold gAll at e
  split at e
  · obtain ⟨ns, h1, rfl⟩ := mapS e
    obtain ⟨a, xs, rfl, n1, h2, z1, r1⟩ := rx.lst hs
    rw [boolsOf_some h1] at r1
    have := r1.toBools
    subst this
    exact ⟨a, ns, rfl, SqL.of h2, q _ _ .refl hh (Rep.bl _)⟩
  · cases e
theorem o_any : Cl1 K .sh (rAny K) gAny := by
  intro hd hc Oe O w H x dx d Q hE hs hn hh rx e q
  unfold gAny at e
  split at e
  · obtain ⟨ns, h1, rfl⟩ := mapS e
    obtain ⟨a, xs, rfl, n1, h2, z1, r1⟩ := rx.lst hs
    rw [boolsOf_some h1] at r1
    have := r1.toBools
    subst this
    exact ⟨a, ns, rfl, SqL.of h2, q _ _ .refl hh (Rep.bl _)⟩
  · cases e

/-! ### tuple(x), list(x) -/
def gTuple : D → Option D
  | .list ds => some (.tuple ds)
  | .tuple ds => some (.tuple ds)
  | _ => none
theorem o_tuple : Cl1 K .sh (fun xs H Q => ∃ p ys, xs = [.ref p] ∧ ((SqL K H p ys ∧ ∀ l, H l = none → Q (.ref l) (upd H l (.tup ys))) ∨ (SqT K H p ys ∧ Q (.ref p) H))) gTuple := by
  intro hd hc Oe O w H x dx d Q hE hs hn hh rx e q
  unfold gTuple at e
  split at e
  · cases e
    obtain ⟨a, xs, rfl, n1, h2, z1, r1⟩ := rx.lst hs
    refine ⟨a, xs, rfl, .inl ⟨SqL.of h2, fun p np => ?_⟩⟩
    obtain ⟨x1, h3, r3⟩ := newTup (K := K) (hs _ hE) hh np r1 z1
    exact q _ _ x1 h3 r3
  · cases e
    obtain ⟨a, xs, rfl, h2, z1, r1⟩ := rx.tup
    exact ⟨a, xs, rfl, .inr ⟨h2.sqt, q _ _ .refl hh (Rep.tup h2 z1 r1)⟩⟩
  · cases e
def gList : D → Option D
  | .list ds => some (.list ds)
  | .tuple ds => some (.list ds)
  | _ => none
theorem o_list : Cl1 K .fr (fun xs H Q => ∃ p ys, xs = [.ref p] ∧ (SqL K H p ys ∨ SqT K H p ys) ∧ ∀ l, H l = none → Q (.ref l) (upd H l (.lst ys))) gList := by
  intro hd hc Oe O w H x dx d Q hE hs hn hh rx e q
  unfold gList at e
  split at e
  · cases e
    obtain ⟨a, xs, rfl, n1, h2, z1, r1⟩ := rx.lst hs
    refine ⟨a, xs, rfl, .inl (SqL.of h2), fun p np => ?_⟩
    obtain ⟨x1, h3, r3⟩ := newList (K := K) (Oe := Oe) hh np r1 z1
    exact q _ _ x1 h3 r3
  · cases e
    obtain ⟨a, xs, rfl, h2, z1, r1⟩ := rx.tup
    refine ⟨a, xs, rfl, .inr h2.sqt, fun p np => ?_⟩
    obtain ⟨x1, h3, r3⟩ := newList (K := K) (Oe := Oe) hh np r1 z1
    exact q _ _ x1 h3 r3
  · cases e

/-! ### isinstance of data -/
def tyName : D → Option String
  | .none => some "NoneType"
  | .bool _ => some "bool"
  | .int _ => some "int"
  | .str _ => some "str"
  | .list _ => some "list"
  | .tuple _ => some "tuple"
  | .dict _ => none
def gIsi (T : String) (d : D) : Option D := (tyName d).bind fun t => (kitB t T).map fun b => .bool b
theorem RepB.ty {hd : Addr} {Oe O : List Addr} {H : Hp} {v : V} {d : D} {t : String} (r : RepB K hd Oe O H v d) (hs : ∀ b ∈ Oe, b ∈ O) (h : tyName d = some t) : TyX K H v (.type t) := by
  unfold tyName at h
  split at h <;> cases h
  · rw [r.non]; exact .base .non
  · rw [r.bl]; exact .base (.bl _)
  · rw [r.int]; exact .base (.int _)
  · rw [r.str]; exact .base (.str _)
  · obtain ⟨a, xs, rfl, n1, h2, z1, r1⟩ := r.lst hs
    exact .base (.lst h2)
  · obtain ⟨a, xs, rfl, h2, z1, r1⟩ := r.tup
    rcases h2 with h2 | ⟨o, its, n, hk, hc, _⟩
    · exact .base (.tup h2)
    · exact .kTuple hk hc
theorem sn_isi {m : Mode} {te : TE} {f : F1 D} (T : String) (h : SndE K m te f) : SndE K .sh (tCB (rIsi K) (tCons te (tCons (tC (.ty T)) tNil))) (e1 (gIsi T) f) :=
  sn_un (r := fun x H Q => rIsi K [x, .ty T] H Q) (g := gIsi T) (by
    intro hd hc Oe O w H x dx d Q hE hs hn hh rx e q
    obtain ⟨t, h1, e⟩ := bindS e
    obtain ⟨b, h2, rfl⟩ := mapS e
    exact ⟨x, _, _, _, b, rfl, .ty T, rx.ty hs h1, kit_ty h2, q _ _ .refl hh (Rep.bl _)⟩) h
end
end DL

set_option maxRecDepth 100000
/-! DL7: min, max, sorted, in, what is walked -/
namespace DL
open PySem L2
section
variable {K : PySem.W.Frag}

/-! ### min, max of a list or tuple of alike data -/
def okMin (ds : List D) : Bool := PyData.plainAll ds && decide (PyData.depthAll ds ≤ 64) && ds.all (fun x => ds.all fun y => W.alike x y) && ds.all fun x => match x with | .none => false | _ => true
theorem okMin_ {ds : List D} (h : okMin ds = true) : PyData.plainAll ds = true ∧ PyData.depthAll ds ≤ 64 ∧ W.AlikeAll ds := by
  simp only [okMin, Bool.and_eq_true, decide_eq_true_eq, List.all_eq_true] at h
  refine ⟨h.1.1.1, h.1.1.2, fun x hx y hy => h.1.2 x hx y hy, fun x hx e => ?_⟩
  have := h.2 x hx
  rw [e] at this
  cases this
def rPick (K : PySem.W.Frag) (f : D → List D → D) : List V → Hp → VK → Prop := fun vs H Q => ∃ (a : Addr) (xs : List V) (d : D) (ds : List D), vs = [V.ref a] ∧ (SqL K H a xs ∨ SqT K H a xs) ∧ DpAll K H xs (d :: ds) ∧ okMin (d :: ds) = true ∧
  ∀ (i : Nat) (x : V), xs[i]? = some x → (d :: ds)[i]? = some (f d ds) → Q x H
theorem readsAll_at' {h : Heap} : ∀ {vs : List Value} {ds : List D} {as : List Addr}, ReadsAll h vs ds as → ∀ {i : Nat} {v : Value}, vs[i]? = some v → ∃ d bs, ds[i]? = some d ∧ Reads h v d bs
  | _, _, _, .nil, _, _, e => by simp at e
  | _, _, _, .cons r1 r2, 0, _, e => by simp at e; subst e; exact ⟨_, _, rfl, r1⟩
  | _, _, _, .cons r1 r2, i + 1, _, e => readsAll_at' r2 (i := i) (by simpa using e)
theorem depth_le {ds : List D} {d : D} (hd : d ∈ ds) : d.depth ≤ PyData.depthAll ds := by
  induction ds with
  | nil => cases hd
  | cons x xs ih =>
    simp only [PyData.depthAll]
    rcases List.mem_cons.mp hd with rfl | hd
    · exact Nat.le_max_left _ _
    · exact Nat.le_trans (ih hd) (Nat.le_max_right _ _)
theorem plain_at {ds : List D} {i : Nat} {d : D} (h : PyData.plainAll ds = true) (e : ds[i]? = some d) : d.plain = true := by
  induction ds generalizing i with
  | nil => simp at e
  | cons x xs ih =>
    simp only [PyData.plainAll, Bool.and_eq_true] at h
    cases i with
    | zero => simp at e; subst e; exact h.1
    | succ i => exact ih h.2 (by simpa using e)
theorem pick_done {X : Cx} {pins : List (Addr × Obj)} {s : Shared} {σ : List (Option V)} {H : Hp} {Q : VK} {f : D → List D → D} {xs : List V} {d : D} {ds : List D} {its : List Value} {as : List Addr} (I : Inv X pins σ H s) (rv : Vals xs its) (hr : ReadsAll s.heap its (d :: ds) as)
    (hp : PyData.plainAll (d :: ds) = true) (q : ∀ (i : Nat) (x : V), xs[i]? = some x → (d :: ds)[i]? = some (f d ds) → Q x H)
    (i : Nat) (v : Value) (h' : Heap) (tk : Nat) (bs : List Addr) (hi : its[i]? = some v) (r : Reads h' v (f d ds) bs) (hk : ∀ b o, s.heap.get? b = some o → h'.get? b = some o) : EP X pins σ Q v { s with heap := h', toks := tk } := by
  obtain ⟨e, cs, e1, r1⟩ := readsAll_at' hr hi
  have pl := plain_at hp e1
  have e2 : e = f d ds := SeqAt.plain_unique e _ v cs bs pl (PyProof.Rows.Reads.keeps hk r1) r
  have hx : ∃ x, xs[i]? = some x ∧ RelV x v := by
    cases hx : xs[i]? with
    | none => rw [Vals.none_of rv hx] at hi; cases hi
    | some x =>
      obtain ⟨u, hu, ru⟩ := rv.get hx
      rw [hi] at hu; cases hu
      exact ⟨x, rfl, ru⟩
  obtain ⟨x, hx, rx⟩ := hx
  exact ⟨x, H, I.kept hk, rx, q i x hx (by rw [e1, e2])⟩
theorem clMin {X : Cx} (hc : X.calm = true) (hu : X.A.units + 128 < cLine) : CallR X (.builtin "min") (rPick X.K W.minD) := by
  intro pins s σ H vs us Q I r h
  obtain ⟨a, xs, d, ds, rfl, hs, hD, ok, q⟩ := h
  obtain ⟨p1, p2, p3⟩ := okMin_ ok
  rw [Vals.ref1 r]
  rcases hs with hs | hs
  · obtain ⟨its, rv, hl, _⟩ := I.list hs
    obtain ⟨as, hr⟩ := Dp.toReads I hD rv
    exact W.min_list_data (I.ok.hd hc) hl.isList hr p3 (by omega) fun i v h' tk bs hi r hk => pick_done I rv hr p1 q i v h' tk bs (by simpa using hi) r hk
  · obtain ⟨its, rv, ht, _⟩ := I.tuple hs
    obtain ⟨as, hr⟩ := Dp.toReads I hD rv
    exact W.min_tuple_data (I.ok.hd hc) (show s.heap.IsTuple a its.toArray from ht) hr p3 (by omega) fun i v h' tk bs hi r hk => pick_done I rv hr p1 q i v h' tk bs (by simpa using hi) r hk
theorem clMax {X : Cx} (hc : X.calm = true) (hu : X.A.units + 128 < cLine) : CallR X (.builtin "max") (rPick X.K W.maxD) := by
  intro pins s σ H vs us Q I r h
  obtain ⟨a, xs, d, ds, rfl, hs, hD, ok, q⟩ := h
  obtain ⟨p1, p2, p3⟩ := okMin_ ok
  rw [Vals.ref1 r]
  rcases hs with hs | hs
  · obtain ⟨its, rv, hl, _⟩ := I.list hs
    obtain ⟨as, hr⟩ := Dp.toReads I hD rv
    exact W.max_list_data (I.ok.hd hc) hl.isList hr p3 (by omega) fun i v h' tk bs hi r hk => pick_done I rv hr p1 q i v h' tk bs (by simpa using hi) r hk
  · obtain ⟨its, rv, ht, _⟩ := I.tuple hs
    obtain ⟨as, hr⟩ := Dp.toReads I hD rv
    exact W.max_tuple_data (I.ok.hd hc) (show s.heap.IsTuple a its.toArray from ht) hr p3 (by omega) fun i v h' tk bs hi r hk => pick_done I rv hr p1 q i v h' tk bs (by simpa using hi) r hk
def gPick (f : D → List D → D) : D → Option D
  | .list (d :: ds) => if okMin (d :: ds) = true then some (f d ds) else none
  | .tuple (d :: ds) => if okMin (d :: ds) = true then some (f d ds) else none
  | _ => none
abbrev gMin := gPick W.minD
abbrev gMax := gPick W.maxD
theorem pick_rep {f : D → List D → D} {hd hc : Addr} {Oe O : List Addr} {w : W} {H : Hp} {xs : List V} {d : D} {ds : List D} {Q : VK} (r : RepAll K hd O H xs (d :: ds)) (hh : HandIs hd hc w H)
    (q : ∀ v H', Ext hd H H' → HandIs hd hc w H' → RepM .sh K hd Oe H O H' v (f d ds) → Q v H') (i : Nat) (x : V) (h1 : xs[i]? = some x) (h2 : (d :: ds)[i]? = some (f d ds)) : Q x H := by
  obtain ⟨v, h3, r3⟩ := r.get h2
  rw [h1] at h3
  cases h3
  exact q _ _ .refl hh r3
theorem o_pick {f : D → List D → D} : Cl1 K .sh (rPick K f) (gPick f) := by
  intro hd hc Oe O w H x dx d Q hE hs hn hh rx e q
  unfold gPick at e
  split at e
  · split at e
    · rename_i ok
      cases e
      obtain ⟨a, xs, rfl, n1, h2, z1, r1⟩ := rx.lst hs
      exact ⟨a, xs, _, _, rfl, .inl (SqL.of h2), r1.dp (okMin_ ok).1, ok, pick_rep (f := f) (Oe := Oe) r1 hh q⟩
    · cases e
  · split at e
    · rename_i ok
      cases e
      obtain ⟨a, xs, rfl, h2, z1, r1⟩ := rx.tup
      exact ⟨a, xs, _, _, rfl, .inr h2.sqt, r1.dp (okMin_ ok).1, ok, pick_rep (f := f) (Oe := Oe) r1 hh q⟩
    · cases e
  · cases e

/-! ### sorted -/
def okSort (ds : List D) : Bool := PyData.plainAll ds && decide (PyData.depthAll ds ≤ 64) && ds.all (fun x => ds.all fun y => W.alike x y) &&
  (ds.all (fun x => match x with | .tuple (_ :: _) => true | _ => false) || ds.all fun x => match x with | .none => false | .tuple _ => false | _ => true)
theorem okSort_ {ds : List D} (h : okSort ds = true) : PyData.plainAll ds = true ∧ PyData.depthAll ds ≤ 64 ∧ W.AllAlike ds ∧ W.Sortable ds := by
  simp only [okSort, Bool.and_eq_true, decide_eq_true_eq, Bool.or_eq_true, List.all_eq_true] at h
  refine ⟨h.1.1.1, h.1.1.2, fun x hx y hy => h.1.2 x hx y hy, ?_⟩
  rcases h.2 with h | h
  · refine .inl fun d hd => ?_
    have := h d hd
    split at this
    · exact ⟨_, _, rfl⟩
    · cases this
  · refine .inr fun d hd => ⟨fun e => ?_, fun xs e => ?_⟩
    · have := h d hd
      rw [e] at this
      cases this
    · have := h d hd
      rw [e] at this
      cases this
def srt (ds : List D) : List D := ds.mergeSort (W.dataLe false id)
def rSrt (K : PySem.W.Frag) : List V → Hp → VK → Prop := fun vs H Q => ∃ (a : Addr) (xs : List V) (ds : List D), vs = [V.ref a] ∧ SqL K H a xs ∧ xs.length ≤ SZ ∧ DpAll K H xs ds ∧ okSort ds = true ∧
  ∀ (ys : List V) (p : Addr), W.EachIs (fun y d => (y, d) ∈ xs.zip ds) ys (srt ds) → H p = none → Q (.ref p) (upd H p (.lst ys))
theorem each_zip {h : Heap} : ∀ {xs : List V} {us : List Value} {ds : List D} {as : List Addr}, Vals xs us → ReadsAll h us ds as → W.EachIs (fun v d => ∃ x, RelV x v ∧ (x, d) ∈ xs.zip ds) us ds ∧ W.EachIs (fun v d => ∃ as, Reads h v d as) us ds
  | _, _, _, _, .nil, .nil => ⟨.nil, .nil⟩
  | _, _, _, _, .cons r t, .cons r1 r2 => by
    obtain ⟨a, b⟩ := each_zip t r2
    exact ⟨.cons ⟨_, r, List.mem_cons_self⟩ (a.mono fun v d ⟨x, h1, h2⟩ => ⟨x, h1, List.mem_cons_of_mem _ h2⟩), .cons ⟨_, r1⟩ b⟩
theorem each_vals {xs : List V} {ds : List D} : ∀ {us : List Value} {es : List D}, W.EachIs (fun v d => ∃ x, RelV x v ∧ (x, d) ∈ xs.zip ds) us es → ∃ ys, Vals ys us ∧ W.EachIs (fun y d => (y, d) ∈ xs.zip ds) ys es
  | _, _, .nil => ⟨[], .nil, .nil⟩
  | _, _, .cons ⟨x, r, m⟩ t => by
    obtain ⟨ys, a, b⟩ := each_vals t
    exact ⟨x :: ys, .cons r a, .cons m b⟩
theorem clSorted {X : Cx} (hu : X.A.units + 128 < cLine) : CallR X (.builtin "sorted") (rSrt X.K) := by
  intro pins s σ H vs us Q I r h
  obtain ⟨a, xs, ds, rfl, hs, hz, hD, ok, q⟩ := h
  obtain ⟨p1, p2, p3, p4⟩ := okSort_ ok
  rw [Vals.ref1 r]
  obtain ⟨its, rv, hl, _⟩ := I.list hs
  obtain ⟨as, hr⟩ := Dp.toReads I hD rv
  obtain ⟨e1, e2⟩ := each_zip rv hr
  have hlen : ds.length ≤ sizeLine := by rw [← e1.length, ← rv.length]; exact hz
  have dep : ∀ d ∈ ds, d.depth ≤ 64 := fun d hd => Nat.le_trans (depth_le hd) p2
  refine W.sorted_data (enc := id) hl.isList e1 e2 (by rw [List.map_id]; exact p3) (by rw [List.map_id]; exact p4) hlen (fun b hb => by have := dep b hb; show X.A.units + 2 + b.depth < _; omega) fun out ho hout => ?_
  obtain ⟨ys, ry, ey⟩ := each_vals hout
  obtain ⟨ep, he'⟩ := PyProof.Rows.sortedAll_at s.heap its (List.toArray out)
  have hyl : ys.length ≤ sizeLine := by rw [ry.length, ho]; exact hlen
  exact ⟨.ref _, upd H (s.heap.objs.size + 1) (.lst ys), I.laid (t' := s.toks) (fun _ _ => PyProof.Rows.sortedAll_old) (Nat.le_succ _) ⟨hyl, out, ep, ry, he'⟩, rfl, q ys _ ey (I.hok.fresh (Nat.le_succ _))⟩
def gSorted : D → Option D
  | .list ds => if okSort ds = true then some (.list (srt ds)) else none
  | _ => none
theorem RepAll.zip {hd : Addr} {O : List Addr} {H : Hp} : ∀ {xs : List V} {ds : List D}, RepAll K hd O H xs ds → ∀ {x : V} {d : D}, (x, d) ∈ xs.zip ds → Rep K hd O H x d
  | _, _, .nil, _, _, m => by cases m
  | _, _, .cons r t, _, _, m => by
    rcases List.mem_cons.mp m with e | m
    · cases e; exact r
    · exact t.zip m
theorem RepAll.each {hd : Addr} {O : List Addr} {H : Hp} {xs : List V} {ds : List D} (r : RepAll K hd O H xs ds) : ∀ {ys : List V} {es : List D}, W.EachIs (fun y d => (y, d) ∈ xs.zip ds) ys es → RepAll K hd O H ys es
  | _, _, .nil => .nil
  | _, _, .cons m t => .cons (r.zip m) (r.each t)
theorem o_sorted : Cl1 K .fr (rSrt K) gSorted := by
  intro hd hc Oe O w H x dx d Q hE hs hn hh rx e q
  unfold gSorted at e
  split at e
  · split at e
    · rename_i ds ok
      cases e
      obtain ⟨a, xs, rfl, n1, h2, z1, r1⟩ := rx.lst hs
      refine ⟨a, xs, _, rfl, SqL.of h2, z1, r1.dp (okSort_ ok).1, ok, fun ys p ey np => ?_⟩
      have ry := r1.each ey
      obtain ⟨x1, h3, r3⟩ := newList (K := K) (Oe := Oe) hh np ry (by rw [ry.len]; unfold srt; rw [List.length_mergeSort, ← r1.len]; exact z1)
      exact q _ _ x1 h3 r3
    · cases e
  · cases e

/-! ### in, not in -/
def okIn (d : D) (ds : List D) : Bool := PyData.plainAll ds && d.plain && decide (d.depth ≤ 64)
def inD (d : D) (ds : List D) : Bool := ds.any fun y => PyData.eqv y d
def rInX (K : PySem.W.Frag) (n : Bool) : R2 := fun x y H Q => ∃ (d : D) (ds : List D), Dp K H x d ∧ (Dp K H y (.list ds) ∨ Dp K H y (.tuple ds)) ∧ okIn d ds = true ∧ Q (.bl (n ^^ inD d ds)) H
theorem opIn {X : Cx} (hu : X.A.units + 128 < cLine) : OpR X (compareOp .In) (rInX X.K false) := by
  intro pins s σ H x y v u Q I rx ry h
  obtain ⟨d, ds, hd, he, ok, q⟩ := h
  simp only [okIn, Bool.and_eq_true, decide_eq_true_eq] at ok
  obtain ⟨as, r1⟩ := Dp.reads I d x v hd rx
  rcases he with he | he
  · obtain ⟨bs, r2⟩ := Dp.reads I _ y u he ry
    exact SeqAt.in_list_data r2 r1 ok.1.1 ok.1.2 (by omega) ⟨.bl _, H, I, rfl, by simpa [inD] using q⟩
  · obtain ⟨bs, r2⟩ := Dp.reads I _ y u he ry
    exact SeqAt.in_tuple_data r2 r1 ok.1.1 ok.1.2 (by omega) ⟨.bl _, H, I, rfl, by simpa [inD] using q⟩
theorem opNotIn {X : Cx} (hu : X.A.units + 128 < cLine) : OpR X (compareOp .NotIn) (rInX X.K true) := by
  intro pins s σ H x y v u Q I rx ry h
  obtain ⟨d, ds, hd, he, ok, q⟩ := h
  simp only [okIn, Bool.and_eq_true, decide_eq_true_eq] at ok
  obtain ⟨as, r1⟩ := Dp.reads I d x v hd rx
  rcases he with he | he
  · obtain ⟨bs, r2⟩ := Dp.reads I _ y u he ry
    exact SeqAt.notIn_list_data r2 r1 ok.1.1 ok.1.2 (by omega) ⟨.bl _, H, I, rfl, by simpa [inD] using q⟩
  · obtain ⟨bs, r2⟩ := Dp.reads I _ y u he ry
    exact SeqAt.notIn_tuple_data r2 r1 ok.1.1 ok.1.2 (by omega) ⟨.bl _, H, I, rfl, by simpa [inD] using q⟩
def gIn (n : Bool) (d : D) : D → Option D
  | .list ds => if okIn d ds = true then some (.bool (n ^^ inD d ds)) else none
  | .tuple ds => if okIn d ds = true then some (.bool (n ^^ inD d ds)) else none
  | _ => none
theorem o_in {n : Bool} : Op2 K .sh (rInX K n) (gIn n) := by
  intro hd hc Oe O w H x y dx dy d Q hE hs hn hh rx ry e q
  unfold gIn at e
  split at e
  · split at e
    · rename_i ok
      cases e
      have ok' := ok
      simp only [okIn, Bool.and_eq_true, decide_eq_true_eq] at ok'
      exact ⟨dx, _, rx.dp ok'.1.2, .inl (ry.dp (by simpa [PyData.plain] using ok'.1.1)), ok, q _ _ .refl hh (Rep.bl _)⟩
    · cases e
  · split at e
    · rename_i ok
      cases e
      have ok' := ok
      simp only [okIn, Bool.and_eq_true, decide_eq_true_eq] at ok'
      exact ⟨dx, _, rx.dp ok'.1.2, .inr (ry.dp (by simpa [PyData.plain] using ok'.1.1)), ok, q _ _ .refl hh (Rep.bl _)⟩
    · cases e
  · cases e

/-! ### what is walked -/
/-- a list or a tuple -/
def iSeq (K : PySem.W.Frag) (tl : TE) : TI := fun σ H R => tl σ H fun x H1 => ∃ a, x = .ref a ∧ (((∃ xs, SqL K H1 a xs) ∧ R (Itl K a) H1) ∨ ((∃ xs, SqT K H1 a xs) ∧ R (Itt K a) H1))
theorem pi_seq {X : Cx} {tg l : Expr} {tl : TE} (hl : PE X l tl) : PI X tg l (iSeq X.K tl) := by
  refine ⟨fun pins s σ H R I h => ?_⟩
  refine thn (hl.run pins s σ H _ I h) fun v s1 ⟨x, H1, I1, r1, q1⟩ => ?_
  obtain ⟨a, e, q⟩ := q1
  subst e
  cases r1
  rcases q with ⟨⟨xs, hq⟩, q⟩ | ⟨⟨xs, hq⟩, q⟩
  · obtain ⟨its, rv, p, hz⟩ := I1.list hq
    refine wpAny_pyIter_list p.isList ?_
    refine ⟨s1.heap.objs.size, [s1.heap.objs.size], _, _, H1, rfl, I1.kept (t' := s1.toks) fun b o e => Heap.get?_push_of_some _ e, turn_list a _, ⟨_, Heap.get?_push_size _ rfl, rfl, rfl⟩, fun b hb => ?_, q⟩
    have e : b = s1.heap.objs.size := by simpa using hb
    subst e
    exact I1.fpOk (Nat.le_refl _) (I1.hok.fresh (Nat.le_refl _))
  · obtain ⟨its, rv, p, hz⟩ := I1.tuple hq
    refine wpAny_pyIter_tuple (show s1.heap.IsTuple a its.toArray from p) ?_
    refine ⟨s1.heap.objs.size, [s1.heap.objs.size], _, _, H1, rfl, I1.kept (t' := s1.toks) fun b o e => Heap.get?_push_of_some _ e, turn_tuple a _, ⟨_, Heap.get?_push_size _ rfl, rfl, rfl⟩, fun b hb => ?_, q⟩
    have e : b = s1.heap.objs.size := by simpa using hb
    subst e
    exact I1.fpOk (Nat.le_refl _) (I1.hok.fresh (Nat.le_refl _))
def itemsOf : D → Option (List D)
  | .list ds => some ds
  | .tuple ds => some ds
  | _ => none
def iItems (f : F1 D) : F1 (List D) := fun env w => (f env w).bind fun p => (itemsOf p.1).map fun ds => (ds, p.2)
theorem TupAt.prog {O O2 : List Addr} {H H2 : Hp} {a : Addr} {xs : List V} (h : TupAt K H a xs) (ht : ∀ b xs, H b = some (.tup xs) → H2 b = some (.tup xs)) : TupAt K H2 a xs := by
  rcases h with h | h
  · exact .inl (ht _ _ h)
  · exact .inr h
theorem w1_list {hd : Addr} {O2 : List Addr} {H2 : Hp} {a : Addr} {xs : List V} {ds : List D} (h : H2 a = some (.lst xs)) (r : RepAll K hd O2 H2 xs ds) : W1 K hd O2 (Itl K a) ds H2 where
  stop := fun i hi => ⟨xs, SqL.of h, by rw [r.len]; exact hi⟩
  go := fun i d hd => by
    obtain ⟨v, hv, rv⟩ := r.get hd
    refine ⟨⟨xs, v, SqL.of h, hv⟩, fun x H' hy => ?_⟩
    obtain ⟨e, y⟩ := hy
    subst e
    have := y xs (SqL.of h)
    rw [hv] at this
    cases this
    exact ⟨.refl, fun _ _ h => h, rv⟩
theorem w1_tup {hd : Addr} {O2 : List Addr} {H2 : Hp} {a : Addr} {xs : List V} {ds : List D} (h : TupAt K H2 a xs) (r : RepAll K hd O2 H2 xs ds) : W1 K hd O2 (Itt K a) ds H2 where
  stop := fun i hi => ⟨xs, h.sqt, by rw [r.len]; exact hi⟩
  go := fun i d hd => by
    obtain ⟨v, hv, rv⟩ := r.get hd
    refine ⟨⟨xs, v, h.sqt, hv⟩, fun x H' hy => ?_⟩
    obtain ⟨e, y⟩ := hy
    subst e
    have := y xs h.sqt
    rw [hv] at this
    cases this
    exact ⟨.refl, fun _ _ h => h, rv⟩
theorem mkProg {hd : Addr} {O O2 : List Addr} {H1 H2 : Hp} (e : Ext hd H1 H2) (hO : hd ∈ O) (hb : ∀ b ∈ O2, b ∈ O ∨ H1 b = none) : Prog O H1 O2 H2 :=
  ⟨fun b o nb q => ⟨fun z => (by
    rcases hb b z with z | z
    · exact nb z
    · exact absurd (z.symm.trans q) (by intro z; cases z)), e.keep b o (fun z => nb (z ▸ hO)) q⟩, e.tups⟩
theorem si_seqS {te : TE} {f : F1 D} (h : SndE K .sh te f) : SndI K .sh (iSeq K te) (iItems f) := ⟨fun {hd hc H0 Oe O w env σ H} S ds w' e R q => by
  obtain ⟨⟨d, w1⟩, e1, e⟩ := bindS e
  obtain ⟨ds', e2, e⟩ := mapS e
  cases e
  refine h.go S e1 _ fun v H1 x1 h1 r1 => ?_
  have r1 : Rep K hd O H1 v d := r1
  cases d with
  | list ds =>
    cases e2
    cases r1 with
    | lst ha hn z r => exact ⟨_, rfl, .inl ⟨⟨_, SqL.of ha⟩, q _ _ x1 h1 (fun O2 H2 g _ => w1_list (g.keep _ _ hn ha).2 (r.prog g)) (by rw [← r.len]; exact z)⟩⟩
  | tuple ds =>
    cases e2
    cases r1 with
    | tup ht z r => exact ⟨_, rfl, .inr ⟨⟨_, ht.sqt⟩, q _ _ x1 h1 (fun O2 H2 g _ => w1_tup (TupAt.prog (O := O) (O2 := O2) ht g.tups) (r.prog g)) (by rw [← r.len]; exact z)⟩⟩
  | _ => cases e2⟩
theorem si_seqB {m : Mode} {te : TE} {f : F1 D} (h : SndE K m te f) : SndI K .bo (iSeq K te) (iItems f) := ⟨fun {hd hc H0 Oe O w env σ H} S ds w' e R q => by
  obtain ⟨⟨d, w1⟩, e1, e⟩ := bindS e
  obtain ⟨ds', e2, e⟩ := mapS e
  cases e
  refine h.go S e1 _ fun v H1 x1 h1 r1 => ?_
  have r1 : RepB K hd Oe O H1 v d := r1.b S.onn
  cases d with
  | list ds =>
    cases e2
    obtain ⟨a, xs, rfl, hn, ha, z, r⟩ := r1.lst S.sub
    exact ⟨_, rfl, .inl ⟨⟨_, SqL.of ha⟩, q _ _ x1 h1 (fun O2 H2 x2 hb _ => w1_list (x2.keep _ _ (fun z => hn (z ▸ S.hdE)) ha) (r.prog (mkProg x2 S.hdO hb))) (by rw [← r.len]; exact z)⟩⟩
  | tuple ds =>
    cases e2
    obtain ⟨a, xs, rfl, ht, z, r⟩ := r1.tup
    exact ⟨_, rfl, .inr ⟨⟨_, ht.sqt⟩, q _ _ x1 h1 (fun O2 H2 x2 hb _ => w1_tup (TupAt.prog (O := O) (O2 := O2) ht x2.tups) (r.prog (mkProg x2 S.hdO hb))) (by rw [← r.len]; exact z)⟩⟩
  | _ => cases e2⟩

/-! ### ranges -/
def rangeD (lo : Int) : Nat → List D
  | 0 => []
  | n + 1 => .int lo :: rangeD (lo + 1) n
theorem rangeD_len : ∀ (n : Nat) (lo : Int), (rangeD lo n).length = n
  | 0, _ => rfl
  | n + 1, lo => by simp [rangeD, rangeD_len n]
theorem rangeD_get : ∀ (n : Nat) (lo : Int) (i : Nat), i < n → (rangeD lo n)[i]? = some (.int (lo + i))
  | n + 1, lo, 0, _ => by simp [rangeD]
  | n + 1, lo, i + 1, h => by
    rw [rangeD, List.getElem?_cons_succ, rangeD_get n _ i (by omega)]
    congr 2
    omega
def rgOk (i : Int) : Bool := decide (-4611686018427387904 ≤ i) && decide (i < 4611686018427387904)
theorem rgOk_ {i : Int} (h : rgOk i = true) : -(2 ^ 62) ≤ i ∧ i < 2 ^ 62 := by
  simp only [rgOk, Bool.and_eq_true, decide_eq_true_eq] at h
  have e : (2 : Int) ^ 62 = 4611686018427387904 := by decide
  rw [e]
  exact h
def iRange1 (f : F1 D) : F1 (List D) := fun env w => (f env w).bind fun p => (asI p.1).bind fun j => if (rgOk j && decide (j.toNat ≤ SZ)) = true then some (rangeD 0 j.toNat, p.2) else none
def iRange2 (f g : F1 D) : F1 (List D) := fun env w => (f env w).bind fun p => (g env p.2).bind fun q => (asI p.1).bind fun i => (asI q.1).bind fun j => if (rgOk i && rgOk j && decide ((j - i).toNat ≤ SZ)) = true then some (rangeD i (j - i).toNat, q.2) else none
theorem w1_range {hd : Addr} {O2 : List Addr} {H2 : Hp} (lo : Int) (n : Nat) : W1 K hd O2 (Itr lo n) (rangeD lo n) H2 where
  stop := fun i hi => by rw [rangeD_len] at hi; exact hi
  go := fun i d hd => by
    have hi : i < n := by
      have := (List.getElem?_eq_some_iff.mp hd).1
      rw [rangeD_len] at this
      exact this
    rw [rangeD_get n lo i hi] at hd
    cases hd
    refine ⟨hi, fun x H' hy => ?_⟩
    obtain ⟨e, rfl⟩ := hy
    subst e
    exact ⟨.refl, fun _ _ h => h, .int _⟩
theorem si_range1 {m : Mode} {te : TE} {f : F1 D} (h : SndE K m te f) : SndI K .sh (iRng1 (tCons te tNil)) (iRange1 f) := ⟨fun {hd hc H0 Oe O w env σ H} S ds w' e R q => by
  obtain ⟨⟨d, w1⟩, e1, e2⟩ := bindS e
  obtain ⟨j, e3, e4⟩ := bindS e2
  have hx := asI_ e3
  simp only at hx
  clear e e2
  subst hx
  split at e4
  · rename_i ok
    cases e4
    rw [Bool.and_eq_true, decide_eq_true_eq] at ok
    obtain ⟨b1, b2⟩ := rgOk_ ok.1
    refine h.go S e1 _ fun v H1 x1 h1 r1 => ⟨j, by rw [(r1.b S.onn).int], b1, b2, q _ _ x1 h1 (fun O2 H2 _ _ => w1_range 0 _) (by rw [rangeD_len]; exact ok.2)⟩
  · cases e4⟩
theorem si_range2 {m m' : Mode} {te tu : TE} {f g : F1 D} (h : SndE K m te f) (h' : SndE K m' tu g) : SndI K .sh (iRng2 (tCons te (tCons tu tNil))) (iRange2 f g) := ⟨fun {hd hc H0 Oe O w env σ H} S ds w' e R q => by
  obtain ⟨⟨d, w1⟩, e1, e2⟩ := bindS e
  obtain ⟨⟨d2, w2⟩, f1, f2⟩ := bindS e2
  obtain ⟨i, g1, g2⟩ := bindS f2
  obtain ⟨j, e3, e4⟩ := bindS g2
  have hx := asI_ g1
  have hy := asI_ e3
  simp only at hx hy
  clear e e2 f2 g2
  subst hx hy
  split at e4
  · rename_i ok
    cases e4
    rw [Bool.and_eq_true, Bool.and_eq_true, decide_eq_true_eq] at ok
    obtain ⟨b1, b2⟩ := rgOk_ ok.1.1
    obtain ⟨b3, b4⟩ := rgOk_ ok.1.2
    refine two h h' S e1 f1 fun v u H2 x2 S2 r1 r2 => ⟨i, j, by rw [(r1.b S.onn).int, (r2.b S.onn).int], ⟨b1, b2, b3, b4⟩, q _ _ x2 S2.hand (fun O2 H2 _ _ => w1_range i _) (by rw [rangeD_len]; exact ok.2)⟩
  · cases e4⟩

/-! ### zip of two lists, of two tuples -/
def zipD (xs ys : List D) : List D := List.zipWith (fun x y => PyData.tuple [x, y]) xs ys
theorem zipD_get {xs ys : List D} {i : Nat} {d : D} (h : (zipD xs ys)[i]? = some d) : ∃ x y, xs[i]? = some x ∧ ys[i]? = some y ∧ d = .tuple [x, y] := by
  unfold zipD at h
  rw [List.getElem?_zipWith] at h
  split at h
  · rename_i x y h1 h2
    cases h
    exact ⟨x, y, h1, h2, rfl⟩
  · cases h
def zip2 : D → D → Option (List D)
  | .list xs, .list ys => some (zipD xs ys)
  | .tuple xs, .tuple ys => some (zipD xs ys)
  | _, _ => none
def iZipD (f g : F1 D) : F1 (List D) := fun env w => (f env w).bind fun p => (g env p.2).bind fun q => (zip2 p.1 q.1).map fun ds => (ds, q.2)
theorem zip_step {hd : Addr} {O2 : List Addr} {H2 : Hp} {x y : V} {dx dy : D} {T : Addr} (hO : hd ∈ O2) (r1 : Rep K hd O2 H2 x dx) (r2 : Rep K hd O2 H2 y dy) (hT : H2 T = none) :
    Ext hd H2 (upd H2 T (.tup [x, y])) ∧ (∀ hc w, HandIs hd hc w H2 → HandIs hd hc w (upd H2 T (.tup [x, y]))) ∧ Rep K hd O2 (upd H2 T (.tup [x, y])) (.ref T) (.tuple [dx, dy]) :=
  ⟨.new hT, fun hc w h => h.new hT, .tup (.inl upd_same) (by show 2 ≤ sizeLine; decide) (.cons (r1.ext hO (.new hT)) (.cons (r2.ext hO (.new hT)) .nil))⟩
theorem w1_zipL {hd : Addr} {O2 : List Addr} {H2 : Hp} {a b : Addr} {xs ys : List V} {ds es : List D} (hO : hd ∈ O2) (h : H2 a = some (.lst xs)) (h' : H2 b = some (.lst ys)) (r : RepAll K hd O2 H2 xs ds) (r' : RepAll K hd O2 H2 ys es) : W1 K hd O2 (Itz K a b) (zipD ds es) H2 where
  stop := fun i hi => ⟨xs, ys, SqL.of h, SqL.of h', by
    rw [r.len, r'.len]
    simp only [zipD, List.length_zipWith] at hi
    omega⟩
  go := fun i d hd => by
    obtain ⟨x, y, h1, h2, rfl⟩ := zipD_get hd
    obtain ⟨v, h3, r3⟩ := r.get h1
    obtain ⟨u, h4, r4⟩ := r'.get h2
    refine ⟨⟨xs, ys, v, u, SqL.of h, SqL.of h', h3, h4⟩, fun z H' hy => ?_⟩
    obtain ⟨T, v', u', rfl, hT, e, k1, k2⟩ := hy
    have q1 := k1 xs (SqL.of h)
    have q2 := k2 ys (SqL.of h')
    rw [h3] at q1; cases q1
    rw [h4] at q2; cases q2
    subst e
    exact zip_step hO r3 r4 hT
theorem w1_zipT {hd : Addr} {O2 : List Addr} {H2 : Hp} {a b : Addr} {xs ys : List V} {ds es : List D} (hO : hd ∈ O2) (h : TupAt K H2 a xs) (h' : TupAt K H2 b ys) (r : RepAll K hd O2 H2 xs ds) (r' : RepAll K hd O2 H2 ys es) : W1 K hd O2 (RZ.ItzT K a b) (zipD ds es) H2 where
  stop := fun i hi => ⟨xs, ys, h.sqt, h'.sqt, by
    rw [r.len, r'.len]
    simp only [zipD, List.length_zipWith] at hi
    omega⟩
  go := fun i d hd => by
    obtain ⟨x, y, h1, h2, rfl⟩ := zipD_get hd
    obtain ⟨v, h3, r3⟩ := r.get h1
    obtain ⟨u, h4, r4⟩ := r'.get h2
    refine ⟨⟨xs, ys, v, u, h.sqt, h'.sqt, h3, h4⟩, fun z H' hy => ?_⟩
    obtain ⟨T, v', u', rfl, hT, e, k1, k2⟩ := hy
    have q1 := k1 xs h.sqt
    have q2 := k2 ys h'.sqt
    rw [h3] at q1; cases q1
    rw [h4] at q2; cases q2
    subst e
    exact zip_step hO r3 r4 hT

theorem zipD_len (xs ys : List D) : (zipD xs ys).length ≤ xs.length := by
  simp only [zipD, List.length_zipWith]
  omega
theorem Rep.lst' {hd : Addr} {O : List Addr} {H : Hp} {v : V} {ds : List D} (r : Rep K hd O H v (.list ds)) : ∃ a xs, v = .ref a ∧ H a = some (.lst xs) ∧ a ∉ O ∧ xs.length ≤ SZ ∧ RepAll K hd O H xs ds := by
  cases r with
  | lst h n z r => exact ⟨_, _, rfl, h, n, z, r⟩
theorem Rep.tup' {hd : Addr} {O : List Addr} {H : Hp} {v : V} {ds : List D} (r : Rep K hd O H v (.tuple ds)) : ∃ a xs, v = .ref a ∧ TupAt K H a xs ∧ xs.length ≤ SZ ∧ RepAll K hd O H xs ds := by
  cases r with
  | tup h z r => exact ⟨_, _, rfl, h, z, r⟩
theorem si_zipS {te tu : TE} {f g : F1 D} (h : SndE K .sh te f) (h' : SndE K .sh tu g) : SndI K .sh (RZ.iZipA K (tCons te (tCons tu tNil))) (iZipD f g) := ⟨fun {hd hc H0 Oe O w env σ H} S ds w' e R q => by
  obtain ⟨⟨d, w1⟩, e1, e2⟩ := bindS e
  obtain ⟨⟨d2, w2⟩, f1, f2⟩ := bindS e2
  obtain ⟨zs, f3, f4⟩ := mapS f2
  cases f4
  refine two h h' S e1 f1 fun v u H2 x2 S2 r1 r2 => ?_
  have r1 : Rep K hd O H2 v d := r1
  have r2 : Rep K hd O H2 u d2 := r2
  change zip2 d d2 = some _ at f3
  unfold zip2 at f3
  split at f3
  · cases f3
    obtain ⟨a, xs, rfl, ha, hn, z, r⟩ := r1.lst'
    obtain ⟨b, ys, rfl, hb, hm, z', r'⟩ := r2.lst'
    refine ⟨_, _, _, _, rfl, .inl ⟨SqL.of ha, SqL.of hb, q _ _ x2 S2.hand (fun O2 H3 g3 h3 => w1_zipL h3 (g3.keep _ _ hn ha).2 (g3.keep _ _ hm hb).2 (r.prog g3) (r'.prog g3)) ?_⟩⟩
    exact Nat.le_trans (zipD_len _ _) (by rw [← r.len]; exact z)
  · cases f3
    obtain ⟨a, xs, rfl, ha, z, r⟩ := r1.tup'
    obtain ⟨b, ys, rfl, hb, z', r'⟩ := r2.tup'
    refine ⟨_, _, _, _, rfl, .inr ⟨ha.sqt, hb.sqt, q _ _ x2 S2.hand (fun O2 H3 g3 h3 => w1_zipT h3 (TupAt.prog (O := O) (O2 := O2) ha g3.tups) (TupAt.prog (O := O) (O2 := O2) hb g3.tups) (r.prog g3) (r'.prog g3)) ?_⟩⟩
    exact Nat.le_trans (zipD_len _ _) (by rw [← r.len]; exact z)
  · cases f3⟩
theorem si_zipB {m m' : Mode} {te tu : TE} {f g : F1 D} (h : SndE K m te f) (h' : SndE K m' tu g) : SndI K .bo (RZ.iZipA K (tCons te (tCons tu tNil))) (iZipD f g) := ⟨fun {hd hc H0 Oe O w env σ H} S ds w' e R q => by
  obtain ⟨⟨d, w1⟩, e1, e2⟩ := bindS e
  obtain ⟨⟨d2, w2⟩, f1, f2⟩ := bindS e2
  obtain ⟨zs, f3, f4⟩ := mapS f2
  cases f4
  refine two h h' S e1 f1 fun v u H2 x2 S2 r1 r2 => ?_
  have r1 : RepB K hd Oe O H2 v d := r1.b S.onn
  have r2 : RepB K hd Oe O H2 u d2 := r2.b S.onn
  change zip2 d d2 = some _ at f3
  unfold zip2 at f3
  split at f3
  · cases f3
    obtain ⟨a, xs, rfl, hn, ha, z, r⟩ := r1.lst S.sub
    obtain ⟨b, ys, rfl, hm, hb, z', r'⟩ := r2.lst S.sub
    refine ⟨_, _, _, _, rfl, .inl ⟨SqL.of ha, SqL.of hb, q _ _ x2 S2.hand (fun O2 H3 x3 hb' h3 => w1_zipL h3 (x3.keep _ _ (fun z => hn (z ▸ S.hdE)) ha) (x3.keep _ _ (fun z => hm (z ▸ S.hdE)) hb) (r.prog (mkProg x3 S.hdO hb')) (r'.prog (mkProg x3 S.hdO hb'))) ?_⟩⟩
    exact Nat.le_trans (zipD_len _ _) (by rw [← r.len]; exact z)
  · cases f3
    obtain ⟨a, xs, rfl, ha, z, r⟩ := r1.tup
    obtain ⟨b, ys, rfl, hb, z', r'⟩ := r2.tup
    refine ⟨_, _, _, _, rfl, .inr ⟨ha.sqt, hb.sqt, q _ _ x2 S2.hand (fun O2 H3 x3 hb' h3 => w1_zipT h3 (TupAt.prog (O := O) (O2 := O2) ha x3.tups) (TupAt.prog (O := O) (O2 := O2) hb x3.tups) (r.prog (mkProg x3 S.hdO hb')) (r'.prog (mkProg x3 S.hdO hb'))) ?_⟩⟩
    exact Nat.le_trans (zipD_len _ _) (by rw [← r.len]; exact z)
  · cases f3⟩
end
end DL

set_option maxRecDepth 100000
/-! DL8: names for the printer -/
namespace DL
open PySem L2
abbrev gMod := gInt2 modOk fun i j => i.fmod j
abbrev gDiv := gInt2 divOk fun i j => i.fdiv j
abbrev gPow := gInt2 powOk fun i j => i ^ j.toNat
abbrev pLt : Int → Int → Bool := fun i j => decide (i < j)
abbrev pLe : Int → Int → Bool := fun i j => decide (i ≤ j)
abbrev pGt : Int → Int → Bool := fun i j => decide (j < i)
abbrev pGe : Int → Int → Bool := fun i j => decide (j ≤ i)
theorem bb_len : bootBuiltins "len" = some (.builtin "len") := by decide +kernel
theorem bb_abs : bootBuiltins "abs" = some (.builtin "abs") := by decide +kernel
theorem bb_sum : bootBuiltins "sum" = some (.builtin "sum") := by decide +kernel
theorem bb_all : bootBuiltins "all" = some (.builtin "all") := by decide +kernel
theorem bb_any : bootBuiltins "any" = some (.builtin "any") := by decide +kernel
theorem bb_min : bootBuiltins "min" = some (.builtin "min") := by decide +kernel
theorem bb_max : bootBuiltins "max" = some (.builtin "max") := by decide +kernel
theorem bb_sorted : bootBuiltins "sorted" = some (.builtin "sorted") := by decide +kernel
theorem bb_repr : bootBuiltins "repr" = some (.builtin "repr") := by decide +kernel
theorem bb_isinstance : bootBuiltins "isinstance" = some (.builtin "isinstance") := by decide +kernel
theorem bb_int : bootBuiltins "int" = some (.type "int") := by decide +kernel
theorem bb_bool : bootBuiltins "bool" = some (.type "bool") := by decide +kernel
theorem bb_str : bootBuiltins "str" = some (.type "str") := by decide +kernel
theorem bb_tuple : bootBuiltins "tuple" = some (.type "tuple") := by decide +kernel
theorem bb_list : bootBuiltins "list" = some (.type "list") := by decide +kernel
theorem kb_NoneType_int : kitB "NoneType" "int" = some false := by decide +kernel
theorem kb_bool_int : kitB "bool" "int" = some true := by decide +kernel
theorem kb_int_int : kitB "int" "int" = some true := by decide +kernel
theorem kb_str_int : kitB "str" "int" = some false := by decide +kernel
theorem kb_list_int : kitB "list" "int" = some false := by decide +kernel
theorem kb_tuple_int : kitB "tuple" "int" = some false := by decide +kernel
theorem kb_NoneType_bool : kitB "NoneType" "bool" = some false := by decide +kernel
theorem kb_bool_bool : kitB "bool" "bool" = some true := by decide +kernel
theorem kb_int_bool : kitB "int" "bool" = some false := by decide +kernel
theorem kb_str_bool : kitB "str" "bool" = some false := by decide +kernel
theorem kb_list_bool : kitB "list" "bool" = some false := by decide +kernel
theorem kb_tuple_bool : kitB "tuple" "bool" = some false := by decide +kernel
theorem kb_NoneType_tuple : kitB "NoneType" "tuple" = some false := by decide +kernel
theorem kb_bool_tuple : kitB "bool" "tuple" = some false := by decide +kernel
theorem kb_int_tuple : kitB "int" "tuple" = some false := by decide +kernel
theorem kb_str_tuple : kitB "str" "tuple" = some false := by decide +kernel
theorem kb_list_tuple : kitB "list" "tuple" = some false := by decide +kernel
theorem kb_tuple_tuple : kitB "tuple" "tuple" = some true := by decide +kernel
theorem kb_NoneType_str : kitB "NoneType" "str" = some false := by decide +kernel
theorem kb_bool_str : kitB "bool" "str" = some false := by decide +kernel
theorem kb_int_str : kitB "int" "str" = some false := by decide +kernel
theorem kb_str_str : kitB "str" "str" = some true := by decide +kernel
theorem kb_list_str : kitB "list" "str" = some false := by decide +kernel
theorem kb_tuple_str : kitB "tuple" "str" = some false := by decide +kernel
theorem kb_NoneType_list : kitB "NoneType" "list" = some false := by decide +kernel
theorem kb_bool_list : kitB "bool" "list" = some false := by decide +kernel
theorem kb_int_list : kitB "int" "list" = some false := by decide +kernel
theorem kb_str_list : kitB "str" "list" = some false := by decide +kernel
theorem kb_list_list : kitB "list" "list" = some true := by decide +kernel
theorem kb_tuple_list : kitB "tuple" "list" = some false := by decide +kernel
def isTy : String → D → Bool
  | "int", .int _ => true
  | "int", .bool _ => true
  | "bool", .bool _ => true
  | "tuple", .tuple _ => true
  | "str", .str _ => true
  | "list", .list _ => true
  | _, _ => false
section
variable {K : PySem.W.Frag}
def gSlL : D → Option Int → Option Int → Option D
  | .list ds, lo, hi => some (.list (cutD ds lo hi))
  | _, _, _ => none
theorem o_slL : SlOp K .fr (rSlL K) gSlL := by
  intro hd hc Oe O w H x lo hi dx d Q hE hs hn hh rx e q
  unfold gSlL at e
  split at e
  · cases e
    obtain ⟨a, xs, rfl, n1, h1, z1, r1⟩ := rx.lst hs
    refine ⟨a, xs, rfl, SqL.of h1, fun p np => ?_⟩
    obtain ⟨x1, h3, r3⟩ := newList (K := K) (Oe := Oe) hh np (r1.cut lo hi) (Nat.le_trans (cutV_length _ _ _) z1)
    exact q _ _ x1 h3 r3
  · cases e
def isNon : D → Bool
  | .none => true
  | _ => false
def gIsN (d : D) : D → Option D
  | .none => some (.bool (isNon d))
  | _ => none
def gNotN (d : D) : D → Option D
  | .none => some (.bool (!isNon d))
  | _ => none
theorem rep_non {hd : Addr} {Oe O : List Addr} {H : Hp} {v : V} {d : D} (r : RepB K hd Oe O H v d) : decide (v = V.non) = isNon d := by
  rcases r with r | ⟨a, xs, ds, rfl, rfl, _⟩
  · cases r <;> rfl
  · rfl
theorem o_isN : Op2 K .sh (fun x y H Q => y = .non ∧ Q (.bl (decide (x = .non))) H) gIsN := by
  intro hd hc Oe O w H x y dx dy d Q hE hs hn hh rx ry e q
  unfold gIsN at e
  split at e
  · cases e
    exact ⟨ry.non, by rw [rep_non rx]; exact q _ _ .refl hh (Rep.bl _)⟩
  · cases e
theorem o_notN : Op2 K .sh (fun x y H Q => y = .non ∧ Q (.bl (!decide (x = .non))) H) gNotN := by
  intro hd hc Oe O w H x y dx dy d Q hE hs hn hh rx ry e q
  unfold gNotN at e
  split at e
  · cases e
    refine ⟨ry.non, ?_⟩
    rw [rep_non rx]
    exact q _ _ .refl hh (Rep.bl _)
  · cases e
theorem pe_cI {X : Cx} {x : Str} {n : Int} {pos : Pos} (hg : Gl X x) (h : ∃ t, X.mg x = some (.int n t)) (hd : (x == ("__debug__" : Str)) = false := by decide) : PE X (.Name x pos) (tC (.int n)) :=
  let ⟨t, e⟩ := h; pe_glob hg e ⟨t, rfl⟩ hd
theorem pe_cS {X : Cx} {x : Str} {n : Str} {pos : Pos} (hg : Gl X x) (h : ∃ t, X.mg x = some (.str n t)) (hd : (x == ("__debug__" : Str)) = false := by decide) : PE X (.Name x pos) (tC (.str n)) :=
  let ⟨t, e⟩ := h; pe_glob hg e ⟨t, rfl⟩ hd

/-! ### the hand, read and written by its own defs -/
def isHnd : D → Bool
  | .dict [(.none, .none)] => true
  | _ => false
theorem isHnd_ {d : D} (h : isHnd d = true) : d = hnd := by
  unfold isHnd at h
  split at h
  · rfl
  · cases h
def hGet (w : W) : Nat → Option D
  | 0 => some (.list (w.cells.map PyData.int))
  | 1 => some (.int w.i)
  | 2 => some (.int w.rest)
  | 3 => some (.int w.mix)
  | 4 => some (.int w.cnt)
  | _ => none
def hPut (w : W) (x : Int) : Nat → Option W
  | 1 => some { w with i := x }
  | 2 => some { w with rest := x }
  | 3 => some { w with mix := x }
  | 4 => some { w with cnt := x }
  | _ => none
def slotSh : Option Slot → Option D
  | some (.sh d) => some d
  | _ => none
theorem slotSh_ {o : Option Slot} {d : D} (h : slotSh o = some d) : o = some (.sh d) := by
  unfold slotSh at h
  split at h
  · cases h; rfl
  · cases h
def eHix (i k : Nat) : F1 D := fun env w => (slotSh env[i]?).bind fun d => if isHnd d = true then (hGet w k).map fun x => (x, w) else none
theorem sn_hix (i k : Nat) : SndE K .sh (tOp (rIx K) (tVar i) (tC (.int k))) (eHix i k) := ⟨fun {hd hc H0 Oe O w env σ H} S d w' e Q q => by
  obtain ⟨d0, h0, e⟩ := bindS e
  split at e
  · rename_i hh
    have hs := slotSh_ h0
    rw [isHnd_ hh] at hs
    obtain ⟨v, e1, r⟩ := S.slot i _ hs
    cases r
    obtain ⟨x, hx, e⟩ := mapS e
    cases e
    unfold hGet at hx
    split at hx
    · cases hx
      exact ⟨_, e1, .inl ⟨hd, _, _, _, rfl, rfl, SqL.of S.hand.at_, atI_nat rfl, q _ _ .refl S.hand (Rep.lst S.hand.cells S.hcO (by rw [List.length_map]; exact S.hand.sz) (RepAll.ints _))⟩⟩
    · cases hx
      exact ⟨_, e1, .inl ⟨hd, _, _, _, rfl, rfl, SqL.of S.hand.at_, atI_nat rfl, q _ _ .refl S.hand (Rep.int _)⟩⟩
    · cases hx
      exact ⟨_, e1, .inl ⟨hd, _, _, _, rfl, rfl, SqL.of S.hand.at_, atI_nat rfl, q _ _ .refl S.hand (Rep.int _)⟩⟩
    · cases hx
      exact ⟨_, e1, .inl ⟨hd, _, _, _, rfl, rfl, SqL.of S.hand.at_, atI_nat rfl, q _ _ .refl S.hand (Rep.int _)⟩⟩
    · cases hx
      exact ⟨_, e1, .inl ⟨hd, _, _, _, rfl, rfl, SqL.of S.hand.at_, atI_nat rfl, q _ _ .refl S.hand (Rep.int _)⟩⟩
    · cases hx
  · cases e⟩
def sHput (i k : Nat) (f : F1 D) : F1 Out := fun env w => (slotSh env[i]?).bind fun d => if isHnd d = true then (f env w).bind fun p => (asI p.1).bind fun x => (hPut p.2 x k).map fun w' => (.nx env, w') else none
theorem hput_step {hd hc : Addr} {H0 : Hp} {Oe O : List Addr} {w w' : W} {env : Env} {σ : List (Option V)} {H : Hp} (S : Stt K hd hc H0 Oe O w env σ H) (hc' : w'.cells = w.cells) :
    Stt K hd hc H0 Oe O w' env σ (upd H hd (.lst [.ref hc, .int w'.i, .int w'.rest, .int w'.mix, .int w'.cnt])) ∧ Prog O H O (upd H hd (.lst [.ref hc, .int w'.i, .int w'.rest, .int w'.mix, .int w'.cnt])) := by
  have x : Ext hd H (upd H hd (.lst [.ref hc, .int w'.i, .int w'.rest, .int w'.mix, .int w'.cnt])) := ⟨fun b o n q => by rw [upd_ne n]; exact q, fun b xs q => by
    rw [upd_ne (fun z => by rw [z, S.hand.at_] at q; cases q)]; exact q⟩
  exact ⟨S.step x ⟨upd_same, by rw [upd_ne S.hand.ne, hc']; exact S.hand.cells, S.hand.ne, by rw [hc']; exact S.hand.sz⟩, x.prog S.hdO⟩
theorem sn_hput {m : Mode} {te : TE} {f : F1 D} (i k : Nat) (h : SndE K m te f) : SndS K (tAsg te (L2.gSub (tVar i) (tC (.int k)) rSetL)) (sHput i k f) := ⟨fun {hd hc H0 Oe O w env σ H} S o w' e Dn p => by
  obtain ⟨d0, h0, e0⟩ := bindS e
  split at e0
  · rename_i hh
    obtain ⟨⟨d, w1⟩, e1, e2⟩ := bindS e0
    obtain ⟨x, e3, e4⟩ := bindS e2
    obtain ⟨w2, e5, e6⟩ := mapS e4
    have hx := asI_ e3
    simp only at hx
    clear e e0 e2 e4
    subst hx
    cases e6
    refine h.go S e1 _ fun v H1 x1 h1 r1 => ?_
    have S1 := S.step x1 h1
    have hs := slotSh_ h0
    rw [isHnd_ hh] at hs
    obtain ⟨v', f1, r⟩ := S1.slot i _ hs
    cases r
    cases (r1.b S.onn).int
    have g1 := x1.prog S.hdO
    unfold hPut at e5
    split at e5
    · cases e5
      obtain ⟨S2, g2⟩ := hput_step (w' := { w1 with i := x }) S1 rfl
      exact ⟨_, f1, hd, _, _, _, rfl, rfl, S1.hand.at_, rfl, p _ _ _ S2 (g1.trans g2)⟩
    · cases e5
      obtain ⟨S2, g2⟩ := hput_step (w' := { w1 with rest := x }) S1 rfl
      exact ⟨_, f1, hd, _, _, _, rfl, rfl, S1.hand.at_, rfl, p _ _ _ S2 (g1.trans g2)⟩
    · cases e5
      obtain ⟨S2, g2⟩ := hput_step (w' := { w1 with mix := x }) S1 rfl
      exact ⟨_, f1, hd, _, _, _, rfl, rfl, S1.hand.at_, rfl, p _ _ _ S2 (g1.trans g2)⟩
    · cases e5
      obtain ⟨S2, g2⟩ := hput_step (w' := { w1 with cnt := x }) S1 rfl
      exact ⟨_, f1, hd, _, _, _, rfl, rfl, S1.hand.at_, rfl, p _ _ _ S2 (g1.trans g2)⟩
    · cases e5
  · cases e0⟩
end
end DL

set_option maxRecDepth 100000
/-! DL9: the hand is made, the law begins -/
namespace DL
open PySem L2
section
variable {K : PySem.W.Frag}
/-- the promise of a def that makes the hand of the script: hw says which -/
def spHand (K : PySem.W.Frag) (hw : List Int → W) : Sp := fun vs H Q _ => ∃ (a : Addr) (ns : List Int), vs = [.ref a] ∧ SqL K H a (ns.map V.int) ∧ ns.length ≤ 63 ∧
  ∀ (p c : Addr) (H' : Hp), H p = none → H c = none → HandIs p c (hw ns) H' → Q (.ref p) H'
def spLaw (K : PySem.W.Frag) : Sp := fun vs H Q _ => ∃ (a : Addr) (ns : List Int), vs = [.ref a] ∧ SqL K H a (ns.map V.int) ∧ ns.length ≤ 63 ∧ ∀ H', Q (.bl true) H'
/-- behind the hand's making: the rest of the law gives True -/
theorem law_go {N : List Str} {t : TS} {f : F1 Out} {a p c : Addr} {w w' : W} {H : Hp} {Q : VK} {σ : List (Option V)} (h : SndS K t f) (hσ : σ = (L2.start N [.ref a]).set 1 (some (.ref p))) (h2 : 2 ≤ N.length) (hh : HandIs p c w H)
    (e : f (Slot.no :: Slot.sh hnd :: List.replicate (N.length - 2) Slot.no) w = some (.rt (.bool true), w')) (k : ∀ H', Q (.bl true) H') : t { nx := fun _ H' => Q .non H', rt := Q } σ H := by
  have S : Stt K p c H [p] [p] w (Slot.no :: Slot.sh hnd :: List.replicate (N.length - 2) Slot.no) σ H := {
    ext := .refl
    hd0 := by rw [hh.at_]; intro z; cases z
    hc0 := by rw [hh.cells]; intro z; cases z
    hdE := List.mem_cons_self
    hcO := fun z => hh.ne (List.mem_singleton.mp z)
    sub := fun _ q => q
    oe := fun b hb => by rw [List.mem_singleton.mp hb, hh.at_]; intro z; cases z
    onn := fun b hb => by rw [List.mem_singleton.mp hb, hh.at_]; intro z; cases z
    hand := hh
    len := by rw [hσ]; simp [L2.start]; omega
    slot := fun i s hs => by
      match i, hs with
      | 0, hs => cases hs; trivial
      | 1, hs =>
        cases hs
        refine ⟨.ref p, ?_, .hand⟩
        rw [hσ]
        apply List.getElem?_set_self
        simp [L2.start]
        omega
      | i + 2, hs =>
        have := List.mem_of_getElem? hs
        have hs' : (List.replicate (N.length - 2) Slot.no)[i]? = some s := hs
        rw [(List.mem_replicate.mp (List.mem_of_getElem? hs')).2]
        trivial
    dist := fun i j d' e' b h1 h2 h3 h4 => by
      have no : ∀ (i : Nat) (d' : D), (Slot.no :: Slot.sh hnd :: List.replicate (N.length - 2) Slot.no)[i]? = some (.ow d') → False := fun i d' hs => by
        have := List.mem_of_getElem? hs
        rcases List.mem_cons.mp this with z | z
        · cases z
        · rcases List.mem_cons.mp z with z | z
          · cases z
          · have := (List.mem_replicate.mp z).2; cases this
      exact (no i d' h1).elim }
  refine h.go S e _ ?_
  intro v H' x h' r
  have r : Rep K p [p] H' v (.bool true) := r
  cases r
  exact k H'

/-- the cells of the script, each by f -/
theorem hand_cells {a D : Addr} {H1 : Hp} {te : TE} {Q : Hp → Prop} {σ : List (Option V)} {i : Nat} {ns : List Int} (f : Int → Int) (hi : i < σ.length) (ha : H1 a = some (.lst (ns.map V.int))) (hD : H1 D = none) (hz : ns.length ≤ SZ)
    (hte : ∀ (z : Int) (σ : List (Option V)) (H : Hp) (Q : VK), σ[i]? = some (some (.int z)) → Q (.int (f z)) H → te σ H Q)
    (q : Q (upd H1 D (.lst ((ns.map f).map V.int)))) :
    ∃ W : Nat → Nat → Hp → Prop, (∃ m, W 0 m (upd H1 D (.lst []))) ∧ ∀ k m H, W k m H →
      ((Itl K a).stop k H ∧ Q H) ∨ ((Itl K a).go k H ∧ ∃ Nx : Hp → Prop, (∀ H', Nx H' → ∃ m', m' < m ∧ W (k + 1) m' H') ∧ ∀ x H', (Itl K a).yld k H x H' → L2.gName i x (L2.wipe σ [i]) H' fun σ2 H2 => L2.wipe σ2 [i] = L2.wipe σ [i] ∧ L2.tYes σ2 H2 fun b H3 =>
        if b = true then te σ2 H3 fun y H4 => ∃ acc, H4 D = some (.lst acc) ∧ acc.length < sizeLine ∧ Nx (upd H4 D (.lst (acc ++ [y]))) else Nx H3) := by
  have nD : a ≠ D := ne_of_none ha hD
  refine lc_list (K := K) (a := a) (xs := ns.map V.int) (fun k H => H = upd H1 D (.lst (((ns.take k).map f).map V.int))) (by simp) (fun k H _ e => by rw [e]; exact SqL.of (by rw [upd_ne nD]; exact ha)) (fun k x H hx e => ?_) (fun H e => ?_)
  · rw [List.getElem?_map] at hx
    cases hk : ns[k]? with
    | none => rw [hk] at hx; cases hx
    | some z =>
      rw [hk] at hx
      cases hx
      have hlt : k < ns.length := (List.getElem?_eq_some_iff.mp hk).1
      refine ⟨?_, ?_⟩
      · show ((((σ.set i none).set i (some (V.int z))).set i none)) = σ.set i none
        simp
      · unfold L2.tYes
        dsimp only
        rw [if_pos rfl]
        refine hte z _ _ _ (List.getElem?_set_self (by show i < (σ.set i none).length; rw [List.length_set]; exact hi)) ⟨((ns.take k).map f).map V.int, by rw [e, upd_same], ?_, ?_⟩
        · rw [List.length_map, List.length_map, List.length_take]
          exact Nat.lt_of_lt_of_le (by omega : min k ns.length < ns.length) hz
        · show upd H D _ = _
          rw [e, upd_upd]
          congr 2
          rw [List.take_add_one, hk]
          simp
  · rw [List.length_map, List.take_of_length_le (Nat.le_refl _)] at e
    rw [e]
    exact q

theorem cutV_map (ns : List Int) (lo hi : Option Int) : cutV (ns.map V.int) lo hi = (cutD ns lo hi).map V.int := by
  unfold cutV cutD
  rw [List.length_map, List.map_take, List.map_drop]
theorem upd_none {H : Hp} {a b : Addr} {o : HO} (h : upd H a o b = none) : b ≠ a ∧ H b = none := by
  by_cases e : b = a
  · rw [e, upd_same] at h; cases h
  · rw [upd_ne e] at h; exact ⟨e, h⟩
/-- the hand: the first N cells by f, 0, 0, C + k * how many, 0 -/
def hwOf (f : Int → Int) (N C k : Int) (ns : List Int) : W := ⟨(cutD ns none (some N)).map f, 0, 0, C + k * ((cutD ns none (some N)).length : Int), 0⟩
theorem cutD_len {α : Type} (xs : List α) (lo hi : Option Int) : (cutD xs lo hi).length ≤ xs.length := by
  unfold cutD
  rw [List.length_take, List.length_drop]
  omega
theorem hand_read {te : TE} {f : Int → Int} {N C k : Int} {vs : List V} {H : Hp} {Q : VK} {E : XK} {Ns : List Str} (hN : Ns.length = 3) (hk : -(2 ^ 64) < k ∧ k < 2 ^ 64)
    (hte : ∀ (z : Int) (σ : List (Option V)) (H : Hp) (Q : VK), σ[2]? = some (some (.int z)) → Q (.int (f z)) H → te σ H Q) (h : spHand K (hwOf f N C k) vs H Q E) :
    (tSeq (tAsg (tLc (iList K (tSl (rSlL K) (tVar 0) tNoPart (tPart (tC (.int N))))) (L2.gName 2) tYes te [2]) (L2.gName 1))
      (tRet (tLst (tCons (tVar 1) (tCons (tC (.int 0)) (tCons (tC (.int 0)) (tCons (tOp (rI0 fun i j => .int (i + j)) (tC (.int C)) (tOp (rI CMul fun i j => .int (i * j)) (tC (.int k))
        (tCB (fun xs H Q => ∃ p ys, xs = [.ref p] ∧ (SqL K H p ys ∨ SqT K H p ys) ∧ Q (.int ys.length) H) (tCons (tVar 1) tNil)))) (tCons (tC (.int 0)) tNil)))))))) { nx := fun _ H' => Q .non H', rt := Q } (L2.start Ns vs) H := by
  obtain ⟨a, ns, rfl, hS, hl, q⟩ := h
  have hst : L2.start Ns [V.ref a] = [some (V.ref a), none, none] := by
    unfold L2.start
    rw [hN]
    rfl
  rw [hst]
  refine ⟨.ref a, rfl, N, rfl, a, _, rfl, hS, fun l nl => ⟨l, rfl, ⟨_, SqL.of upd_same⟩, fun D nD => ?_⟩⟩
  obtain ⟨n1, n2⟩ := upd_none nD
  have hz : (cutD ns none (some N)).length ≤ SZ := Nat.le_trans (cutD_len _ _ _) (Nat.le_trans hl (by decide))
  refine hand_cells (K := K) (ns := cutD ns none (some N)) (σ := [some (V.ref a), none, none]) (i := 2) f (by simp) (by rw [upd_same, cutV_map]) nD hz hte ?_
  refine ⟨_, rfl, _, rfl, D, _, rfl, .inl (SqL.of upd_same), k, _, rfl, rfl, .inl hk, C, _, rfl, rfl, by show 5 ≤ sizeLine; decide, fun p np => ?_⟩
  obtain ⟨m1, m2⟩ := upd_none np
  obtain ⟨m3, m4⟩ := upd_none m2
  refine q p D _ m4 n2 ⟨?_, ?_, Ne.symm m1, ?_⟩
  · rw [upd_same]
    simp [hwOf]
  · rw [upd_ne (Ne.symm m1), upd_same]
    rfl
  · show ((cutD ns none (some N)).map f).length ≤ SZ
    rw [List.length_map]
    exact hz
end
end DL

set_option autoImplicit false
namespace DL
open PySem L2
/-! what the data words say, as plain equations; none by rfl, so that the kernel unfolds none of them -/
@[simp high] theorem b_some {α β : Type} (a : α) (f : α → Option β) : (some a).bind f = f a := id rfl
@[simp high] theorem m_some {α β : Type} (a : α) (f : α → β) : (some a).map f = some (f a) := id rfl
@[simp] theorem v_eC (d : D) (e : Env) (w : W) : eC d e w = some (d, w) := id rfl
@[simp] theorem v_eVar0 (d : D) (e : Env) (w : W) : eVar 0 (.sh d :: e) w = some (d, w) := id rfl
@[simp] theorem v_eVarS (i : Nat) (s : Slot) (e : Env) (w : W) : eVar (i + 1) (s :: e) w = eVar i e w := id rfl
@[simp] theorem v_eBor0 (d : D) (e : Env) (w : W) : eBor 0 (.sh d :: e) w = some (d, w) := id rfl
@[simp] theorem v_eBor0o (d : D) (e : Env) (w : W) : eBor 0 (.ow d :: e) w = some (d, w) := id rfl
@[simp] theorem v_eBorS (i : Nat) (s : Slot) (e : Env) (w : W) : eBor (i + 1) (s :: e) w = eBor i e w := id rfl
@[simp] theorem v_e2 (g : D → D → Option D) (fa fb : F1 D) (e : Env) (w : W) : e2 g fa fb e w = (fa e w).bind fun p => (fb e p.2).bind fun q => (g p.1 q.1).map fun d => (d, q.2) := id rfl
@[simp] theorem v_e1 (g : D → Option D) (fa : F1 D) (e : Env) (w : W) : e1 g fa e w = (fa e w).bind fun p => (g p.1).map fun d => (d, p.2) := id rfl
@[simp] theorem v_eA0 (e : Env) (w : W) : eA0 e w = some ([], w) := id rfl
@[simp] theorem v_eA (fa : F1 D) (fr : F1 (List D)) (e : Env) (w : W) : eA fa fr e w = (fa e w).bind fun p => (fr e p.2).map fun q => (p.1 :: q.1, q.2) := id rfl
@[simp] theorem v_eTup (f : F1 (List D)) (e : Env) (w : W) : eTup f e w = (f e w).map fun p => (.tuple p.1, p.2) := id rfl
@[simp] theorem v_eLst (f : F1 (List D)) (e : Env) (w : W) : eLst f e w = (f e w).map fun p => (.list p.1, p.2) := id rfl
@[simp] theorem v_asB (b : Bool) : asB (.bool b) = some b := id rfl
@[simp] theorem v_bV (f : F1 D) (e : Env) (w : W) : bV f e w = (f e w).bind fun p => (asB p.1).map fun b => (b, p.2) := id rfl
@[simp] theorem v_bAnd (f g : F1 Bool) (e : Env) (w : W) : bAnd f g e w = (f e w).bind fun p => if p.1 = true then g e p.2 else some (false, p.2) := id rfl
@[simp] theorem v_bOr (f g : F1 Bool) (e : Env) (w : W) : bOr f g e w = (f e w).bind fun p => if p.1 = true then some (true, p.2) else g e p.2 := id rfl
@[simp] theorem v_bNot (f : F1 Bool) (e : Env) (w : W) : bNot f e w = (f e w).map fun p => (!p.1, p.2) := id rfl
@[simp] theorem v_bYes (e : Env) (w : W) : bYes e w = some (true, w) := id rfl
@[simp] theorem v_eAndV (f g : F1 D) (e : Env) (w : W) : eAndV f g e w = (f e w).bind fun p => (asB p.1).bind fun b => if b = true then g e p.2 else some (.bool false, p.2) := id rfl
@[simp] theorem v_eOrV (f g : F1 D) (e : Env) (w : W) : eOrV f g e w = (f e w).bind fun p => (asB p.1).bind fun b => if b = true then some (.bool true, p.2) else g e p.2 := id rfl
@[simp] theorem v_eNotV (f : F1 D) (e : Env) (w : W) : eNotV f e w = (f e w).bind fun p => (asB p.1).map fun b => (.bool (!b), p.2) := id rfl
@[simp] theorem v_eIf (t : F1 Bool) (f g : F1 D) (e : Env) (w : W) : eIf t f g e w = (t e w).bind fun p => if p.1 = true then f e p.2 else g e p.2 := id rfl
@[simp] theorem v_eCall (g : List D → W → Option (D × W)) (fa : F1 (List D)) (e : Env) (w : W) : eCall g fa e w = (fa e w).bind fun p => g p.1 p.2 := id rfl
@[simp] theorem v_sNext (e : Env) (w : W) : sNext e w = some (.nx e, w) := id rfl
@[simp] theorem v_sBreak (e : Env) (w : W) : sBreak e w = some (.bk e, w) := id rfl
@[simp] theorem v_sCont (e : Env) (w : W) : sCont e w = some (.ct e, w) := id rfl
@[simp] theorem v_sDrop (f : F1 D) (e : Env) (w : W) : sDrop f e w = (f e w).map fun p => (.nx e, p.2) := id rfl
@[simp] theorem v_sRet (f : F1 D) (e : Env) (w : W) : sRet f e w = (f e w).map fun p => (.rt p.1, p.2) := id rfl
@[simp] theorem v_sRetN (e : Env) (w : W) : sRetN e w = some (.rt .none, w) := id rfl
@[simp] theorem v_sIf (t : F1 Bool) (f g : F1 Out) (e : Env) (w : W) : sIf t f g e w = (t e w).bind fun p => if p.1 = true then f e p.2 else g e p.2 := id rfl
@[simp] theorem v_sSet (i : Nat) (f : F1 D) (e : Env) (w : W) : sSet i f e w = (f e w).map fun p => (.nx (e.set i (.sh p.1)), p.2) := id rfl
@[simp] theorem v_sSetO (i : Nat) (f : F1 D) (e : Env) (w : W) : sSetO i f e w = (f e w).map fun p => (.nx (e.set i (.ow p.1)), p.2) := id rfl
@[simp] theorem v_sAsg (f : F1 D) (g : D → Env → Option Env) (e : Env) (w : W) : sAsg f g e w = (f e w).bind fun p => (g p.1 e).map fun e' => (.nx e', p.2) := id rfl
@[simp] theorem v_sFrz (i : Nat) (f : F1 Out) (e : Env) (w : W) : sFrz i f e w = f (frz i e) w := id rfl
theorem frz_ow {i : Nat} {e : Env} {d : D} (h : e[i]? = some (.ow d)) : frz i e = e.set i (.sh d) := by unfold frz; rw [h]
@[simp] theorem v_frz0 (d : D) (e : Env) : frz 0 (.ow d :: e) = .sh d :: e := id rfl
@[simp] theorem v_frzS (i : Nat) (s : Slot) (e : Env) : frz (i + 1) (s :: e) = s :: frz i e := by
  unfold frz
  simp only [List.getElem?_cons_succ]
  cases h : e[i]? with
  | none => rfl
  | some x => cases x <;> simp
@[simp] theorem v_slotT (d : D) : slotOf true d = .ow d := id rfl
@[simp] theorem v_slotF (d : D) : slotOf false d = .sh d := id rfl
@[simp] theorem v_sPar (i j : Nat) (a b : Bool) (f : F1 (List D)) (e : Env) (w : W) : sPar i j a b f e w = (f e w).bind fun p => match p.1 with
  | [x, y] => some (.nx ((e.set i (slotOf a x)).set j (slotOf b y)), p.2)
  | _ => none := id rfl
@[simp] theorem v_sAug (i : Nat) (g : D → D → Option D) (f : F1 D) (e : Env) (w : W) : sAug i g f e w = (eVar i e w).bind fun p => (f e p.2).bind fun q => (g p.1 q.1).map fun d => (.nx (e.set i (.sh d)), q.2) := id rfl
theorem v_sApp (i : Nat) (f : F1 D) (e : Env) (w : W) : sApp i f e w = match e[i]? with
  | some (.ow (.list ds)) => (f e w).bind fun p => if ds.length < SZ then some (.nx (e.set i (.ow (.list (ds ++ [p.1])))), p.2) else none
  | _ => none := rfl
@[simp] theorem v_gSet (i : Nat) (d : D) (e : Env) : gSet i d e = some (e.set i (.sh d)) := id rfl
@[simp] theorem v_gsNil (e : Env) : gsNil [] e = some e := id rfl
@[simp] theorem v_gsCons (g : D → Env → Option Env) (gs : List D → Env → Option Env) (d : D) (r : List D) (e : Env) : gsCons g gs (d :: r) e = (g d e).bind fun e => gs r e := id rfl
@[simp] theorem v_gTupD (n : Nat) (gs : List D → Env → Option Env) (ds : List D) (e : Env) : gTupD n gs (.tuple ds) e = if ds.length = n then gs ds e else none := id rfl
@[simp] theorem v_sFor (fi : F1 (List D)) (gs : D → Env → Option Env) (b : F1 Out) (e : Env) (w : W) : sFor fi gs b e w = (fi e w).bind fun p => loopD gs b p.1 e p.2 := id rfl
@[simp] theorem v_sSeq (f g : F1 Out) (e : Env) (w : W) : sSeq f g e w = (f e w).bind fun p => match p.1 with
  | .nx e => g e p.2
  | o => some (o, p.2) := id rfl
@[simp] theorem v_eLc (vs : List Nat) (fi : F1 (List D)) (gs : D → Env → Option Env) (ft : F1 Bool) (fe : F1 D) (e : Env) (w : W) : eLc vs fi gs ft fe e w = (fi e w).bind fun p => (lcD gs ft fe (wipeE e vs) p.1 p.2).map fun q => (.list q.1, q.2) := id rfl
@[simp] theorem v_wipe0 (e : Env) : wipeE e [] = e := id rfl
@[simp] theorem v_wipeS (e : Env) (v : Nat) (vs : List Nat) : wipeE e (v :: vs) = (wipeE e vs).set v .no := id rfl
@[simp] theorem v_gAdd (i j : Int) : gAdd (.int i) (.int j) = some (.int (i + j)) := id rfl
theorem v_gAddT (a b : List D) (h : a.length + b.length ≤ SZ) : gAdd (.tuple a) (.tuple b) = some (.tuple (a ++ b)) := if_pos h
theorem v_gAddL (a b : List D) (h : a.length + b.length ≤ SZ) : gAdd (.list a) (.list b) = some (.list (a ++ b)) := if_pos h
@[simp] theorem v_gSub (i j : Int) : gSub (.int i) (.int j) = some (.int (i - j)) := id rfl
@[simp] theorem v_gAddI (i j : Int) : gAddI (.int i) (.int j) = some (.int (i + j)) := id rfl
theorem v_gMul {i j : Int} (h : mulOk i j = true) : gMul (.int i) (.int j) = some (.int (i * j)) := if_pos h
theorem v_gMulL {a : List D} {k : Int} (h : repOk a.length k = true) : gMul (.list a) (.int k) = some (.list (List.replicate k.toNat a).flatten) := if_pos h
theorem small_of {i : Int} (h : -18446744073709551616 < i) (h' : i < 18446744073709551616) : small i = true := by simp [small, h, h']
theorem mulOk_r {i j : Int} (h : small j = true) : mulOk i j = true := by simp [mulOk, h]
theorem mulOk_l {i j : Int} (h : small i = true) : mulOk i j = true := by simp [mulOk, h]
theorem v_gMod {i j : Int} (h : j ≠ 0) : gMod (.int i) (.int j) = some (.int (i.fmod j)) := by simp [gInt2, modOk, h]
theorem v_gDiv {i j : Int} (h : j ≠ 0) (h1 : -1073741824 < j) (h2 : j < 1073741824) : gDiv (.int i) (.int j) = some (.int (i.fdiv j)) := by simp [gInt2, divOk, h, h1, h2]
@[simp] theorem v_gNeg (i : Int) : gNeg (.int i) = some (.int (-i)) := id rfl
@[simp] theorem v_gCmp (p : Int → Int → Bool) (i j : Int) : gCmp p (.int i) (.int j) = some (.bool (p i j)) := id rfl
@[simp] theorem v_asI (i : Int) : asI (.int i) = some i := id rfl
@[simp] theorem v_eChn (p q : Int → Int → Bool) (fa fb fc : F1 D) (e : Env) (w : W) : eChn p q fa fb fc e w = (fa e w).bind fun x => (fb e x.2).bind fun y => (asI x.1).bind fun i => (asI y.1).bind fun j =>
  if p i j = true then (fc e y.2).bind fun z => (asI z.1).map fun k => (.bool (q j k), z.2) else some (.bool false, y.2) := id rfl
@[simp] theorem v_oNone (e : Env) (w : W) : oNone e w = some (none, w) := id rfl
@[simp] theorem v_oSome (f : F1 D) (e : Env) (w : W) : oSome f e w = (f e w).bind fun p => (asI p.1).map fun i => (some i, p.2) := id rfl
@[simp] theorem v_eSl (g : D → Option Int → Option Int → Option D) (f : F1 D) (fl fh : F1 (Option Int)) (e : Env) (w : W) : eSl g f fl fh e w = (f e w).bind fun x => (fl e x.2).bind fun l => (fh e l.2).bind fun h => (g x.1 l.1 h.1).map fun d => (d, h.2) := id rfl
@[simp] theorem v_gSlL (ds : List D) (a b : Option Int) : gSl (.list ds) a b = some (.list (cutD ds a b)) := id rfl
@[simp] theorem v_gSlT (ds : List D) (a b : Option Int) : gSl (.tuple ds) a b = some (.tuple (cutD ds a b)) := id rfl
@[simp] theorem v_gLenL (ds : List D) : gLen (.list ds) = some (.int ds.length) := id rfl
@[simp] theorem v_gLenT (ds : List D) : gLen (.tuple ds) = some (.int ds.length) := id rfl
@[simp] theorem v_gToInt (i : Int) : gToInt (.int i) = some (.int i) := id rfl
@[simp] theorem v_gAbs (i : Int) : gAbs (.int i) = some (.int (if i < 0 then -i else i)) := id rfl
@[simp] theorem v_gMax2 (i j : Int) : gMax2 (.int i) (.int j) = some (.int (if j > i then j else i)) := id rfl
@[simp] theorem v_gMin2 (i j : Int) : gMin2 (.int i) (.int j) = some (.int (if j < i then j else i)) := id rfl
@[simp] theorem v_gTupleL (ds : List D) : gTuple (.list ds) = some (.tuple ds) := id rfl
@[simp] theorem v_gTupleT (ds : List D) : gTuple (.tuple ds) = some (.tuple ds) := id rfl
@[simp] theorem v_gListL (ds : List D) : gList (.list ds) = some (.list ds) := id rfl
@[simp] theorem v_gListT (ds : List D) : gList (.tuple ds) = some (.list ds) := id rfl
@[simp] theorem v_iItems (f : F1 D) (e : Env) (w : W) : iItems f e w = (f e w).bind fun p => (itemsOf p.1).map fun ds => (ds, p.2) := id rfl
@[simp] theorem v_itemsL (ds : List D) : itemsOf (.list ds) = some ds := id rfl
@[simp] theorem v_itemsT (ds : List D) : itemsOf (.tuple ds) = some ds := id rfl
@[simp] theorem v_zip2L (a b : List D) : zip2 (.list a) (.list b) = some (zipD a b) := id rfl
@[simp] theorem v_zip2T (a b : List D) : zip2 (.tuple a) (.tuple b) = some (zipD a b) := id rfl
@[simp] theorem v_iZipD (f g : F1 D) (e : Env) (w : W) : iZipD f g e w = (f e w).bind fun p => (g e p.2).bind fun q => (zip2 p.1 q.1).map fun ds => (ds, q.2) := id rfl
theorem rangeD_eq : ∀ (n : Nat) (lo : Int), rangeD lo n = (List.range n).map fun (i : Nat) => PyData.int (lo + (i : Int))
  | 0, lo => rfl
  | n + 1, lo => by
    rw [List.range_succ_eq_map]
    simp only [rangeD, rangeD_eq n, List.map_cons, List.map_map]
    congr 1
    · simp
    · refine List.map_congr_left fun i _ => ?_
      show PyData.int (lo + 1 + (i : Int)) = PyData.int (lo + ((i + 1 : Nat) : Int))
      exact congrArg PyData.int (by omega)
theorem range0 (n : Nat) : rangeD 0 n = ((List.range n).map fun (i : Nat) => (i : Int)).map PyData.int := by
  rw [rangeD_eq, List.map_map]
  exact List.map_congr_left fun i _ => by simp [Function.comp]
theorem SZ_is : SZ = 16777216 := by simp [SZ, sizeLine]
theorem le_SZ {n : Nat} (h : n ≤ 1048576) : n ≤ SZ := Nat.le_trans h (by rw [SZ_is]; decide)
theorem rg_n {n : Nat} (h : n ≤ 1048576) : rgOk (n : Int) = true := by
  simp only [rgOk, Bool.and_eq_true, decide_eq_true_eq]
  omega
theorem rg_aux {f : F1 D} {e : Env} {w w' : W} {j : Int} (t : Int → Bool) (h : f e w = some (.int j, w')) (c : t j = true) :
    ((f e w).bind fun p => (asI p.1).bind fun j => if t j = true then some (rangeD 0 j.toNat, p.2) else none) = some (rangeD 0 j.toNat, w') := by
  rw [h]
  simp only [b_some, asI]
  rw [if_pos c]
theorem rg_aux2 {f g : F1 D} {e : Env} {w w1 w' : W} {i j : Int} (t : Int → Int → Bool) (h : f e w = some (.int i, w1)) (h' : g e w1 = some (.int j, w')) (c : t i j = true) :
    ((f e w).bind fun p => (g e p.2).bind fun q => (asI p.1).bind fun i => (asI q.1).bind fun j => if t i j = true then some (rangeD i (j - i).toNat, q.2) else none) = some (rangeD i (j - i).toNat, w') := by
  rw [h]
  simp only [b_some]
  rw [h']
  simp only [b_some, asI]
  rw [if_pos c]
theorem rg_c {n : Nat} (hn : n ≤ 1048576) : (rgOk (n : Int) && decide ((n : Int).toNat ≤ SZ)) = true := by
  rw [rg_n hn, Bool.true_and, Int.toNat_natCast]
  exact decide_eq_true (le_SZ hn)
theorem v_iRange1 {f : F1 D} {e : Env} {w w' : W} {n : Nat} (h : f e w = some (.int n, w')) (hn : n ≤ 1048576) : iRange1 f e w = some (((List.range n).map fun (i : Nat) => (i : Int)).map PyData.int, w') :=
  (rg_aux (fun j => rgOk j && decide (j.toNat ≤ SZ)) h (rg_c hn)).trans (by rw [Int.toNat_natCast, range0])
theorem rg_i {i : Int} (h : -1048576 ≤ i) (h' : i ≤ 1048576) : rgOk i = true := by
  simp only [rgOk, Bool.and_eq_true, decide_eq_true_eq]
  omega
theorem v_iRange2 {f g : F1 D} {e : Env} {w w1 w' : W} {i j : Int} (h : f e w = some (.int i, w1)) (h' : g e w1 = some (.int j, w')) (a : -524288 ≤ i) (b : i ≤ 524288) (c : -524288 ≤ j) (d : j ≤ 524288) :
    iRange2 f g e w = some (((List.range (j - i).toNat).map fun (k : Nat) => i + (k : Int)).map PyData.int, w') :=
  (rg_aux2 (fun i j => rgOk i && rgOk j && decide ((j - i).toNat ≤ SZ)) h h' (by
    show (rgOk i && rgOk j && decide ((j - i).toNat ≤ SZ)) = true
    rw [rg_i (by omega) (by omega), rg_i (by omega) (by omega), Bool.true_and, Bool.true_and]
    exact decide_eq_true (le_SZ (by omega)))).trans (by rw [rangeD_eq, List.map_map]; rfl)
@[simp] theorem v_intsOf : ∀ xs : List Int, intsOf (xs.map PyData.int) = some xs
  | [] => rfl
  | x :: xs => by simp [intsOf, v_intsOf xs]
@[simp] theorem v_boolsOf : ∀ xs : List Bool, boolsOf (xs.map PyData.bool) = some xs
  | [] => rfl
  | x :: xs => by simp [boolsOf, v_boolsOf xs]
@[simp] theorem v_gSumL (xs : List Int) : gSum (.list (xs.map .int)) = some (.int xs.sum) := by simp [gSum]
@[simp] theorem v_gSumT (xs : List Int) : gSum (.tuple (xs.map .int)) = some (.int xs.sum) := by simp [gSum]
@[simp] theorem v_gAll (xs : List Bool) : gAll (.list (xs.map .bool)) = some (.bool (xs.all id)) := by simp [gAll]
@[simp] theorem v_gAny (xs : List Bool) : gAny (.list (xs.map .bool)) = some (.bool (xs.any id)) := by simp [gAny]
theorem cutD_map {α β : Type} (f : α → β) (xs : List α) (a b : Option Int) : cutD (xs.map f) a b = (cutD xs a b).map f := by simp [cutD, List.map_take, List.map_drop]
theorem fnD_rt {n : Nat} {f : F1 Out} {ds : List D} {w w' : W} {d : D} (h : f (ds.map Slot.sh ++ List.replicate (n - ds.length) Slot.no) w = some (.rt d, w')) : fnD n f ds w = some (d, w') := by
  unfold fnD; rw [h]; rfl
theorem fnD_nx {n : Nat} {f : F1 Out} {ds : List D} {w w' : W} {e : Env} (h : f (ds.map Slot.sh ++ List.replicate (n - ds.length) Slot.no) w = some (.nx e, w')) : fnD n f ds w = some (.none, w') := by
  unfold fnD; rw [h]; rfl
theorem seq_nx {f g : F1 Out} {e e' : Env} {w w' : W} {r : Option (Out × W)} (h : f e w = some (.nx e', w')) (k : g e' w' = r) : sSeq f g e w = r := by
  rw [v_sSeq, h]; exact k
theorem v_app {i : Nat} {f : F1 D} {e : Env} {w w' : W} {ds : List D} {d : D} (h : e[i]? = some (.ow (.list ds))) (hf : f e w = some (d, w')) (hl : ds.length < 1048576) : sApp i f e w = some (.nx (e.set i (.ow (.list (ds ++ [d])))), w') := by
  have q : ds.length < SZ := by rw [SZ_is]; omega
  rw [v_sApp, h]
  simp only [hf, b_some]
  rw [if_pos q]
@[simp] theorem isi_ii (n : Int) : gIsi "int" (.int n) = some (.bool true) := by simp [gIsi, tyName]; decide +kernel
@[simp] theorem isi_bi (n : Int) : gIsi "bool" (.int n) = some (.bool false) := by simp [gIsi, tyName]; decide +kernel
@[simp] theorem isi_tt (n : List D) : gIsi "tuple" (.tuple n) = some (.bool true) := by simp [gIsi, tyName]; decide +kernel
@[simp] theorem isi_ll (n : List D) : gIsi "list" (.list n) = some (.bool true) := by simp [gIsi, tyName]; decide +kernel
@[simp] theorem isi_ss (n : Str) : gIsi "str" (.str n) = some (.bool true) := by simp [gIsi, tyName]; decide +kernel
theorem cut_from {α : Type} {xs : List α} {b : Nat} (h : b ≤ xs.length) : cutD xs (some (b : Int)) none = xs.drop b := by
  have q : ¬ (b : Int) < 0 := by omega
  have m : min b xs.length = b := by omega
  simp only [cutD, HT.sIx, q, if_false, Int.toNat_natCast, m]
  exact List.take_of_length_le (by simp)
theorem cut_to {α : Type} {xs : List α} {b : Nat} : cutD xs none (some (b : Int)) = xs.take b := by
  have q : ¬ (b : Int) < 0 := by omega
  simp only [cutD, HT.sIx, q, if_false, Int.toNat_natCast, List.drop_zero, Nat.sub_zero]
  by_cases h : b ≤ xs.length
  · have m : min b xs.length = b := by omega
    rw [m]
  · have m : min b xs.length = xs.length := by omega
    rw [m, List.take_of_length_le (by omega), List.take_of_length_le (by omega)]
theorem for_ok {fi : F1 (List D)} {gs : D → Env → Option Env} {b : F1 Out} {e : Env} {w w1 : W} {ds : List D} {r : Option (Out × W)} (h : fi e w = some (ds, w1)) (k : loopD gs b ds e w1 = r) : sFor fi gs b e w = r := by
  rw [v_sFor, h]; exact k
theorem lc_ok {vs : List Nat} {fi : F1 (List D)} {gs : D → Env → Option Env} {ft : F1 Bool} {fe : F1 D} {e : Env} {w w1 w2 : W} {ds rs : List D} (h : fi e w = some (ds, w1)) (k : lcD gs ft fe (wipeE e vs) ds w1 = some (rs, w2)) : eLc vs fi gs ft fe e w = some (.list rs, w2) := by
  rw [v_eLc, h]; simp only [b_some, k, m_some]
theorem set_ok {i : Nat} {f : F1 D} {e : Env} {w w' : W} {d : D} (h : f e w = some (d, w')) : sSet i f e w = some (.nx (e.set i (.sh d)), w') := by
  rw [v_sSet, h]; rfl
theorem ret_ok {f : F1 D} {e : Env} {w w' : W} {d : D} (h : f e w = some (d, w')) : sRet f e w = some (.rt d, w') := by
  rw [v_sRet, h]; rfl
theorem e1_ok {g : D → Option D} {f : F1 D} {e : Env} {w w' : W} {x d : D} (h : f e w = some (x, w')) (k : g x = some d) : e1 g f e w = some (d, w') := by
  rw [v_e1, h]; simp [k]
theorem tup_ok {f : F1 D} {e : Env} {w w' : W} {ds : List D} (h : f e w = some (.list ds, w')) : e1 gTuple f e w = some (.tuple ds, w') := e1_ok h rfl
@[simp] theorem v_gIx0 (d : D) (ds : List D) : gIx (.list (d :: ds)) (.int 0) = some d := by
  have q : (0 : Int) < ((d :: ds).length : Int) := by rw [List.length_cons]; omega
  show atI (d :: ds) 0 = some d
  unfold atI ixN
  rw [if_pos (by decide), if_pos q]
  rfl
@[simp] theorem v_gIx0T (d : D) (ds : List D) : gIx (.tuple (d :: ds)) (.int 0) = some d := v_gIx0 d ds
theorem par_ok {i j : Nat} {o1 o2 : Bool} {f : F1 (List D)} {e : Env} {w w' : W} {a b : D} (h : f e w = some ([a, b], w')) : sPar i j o1 o2 f e w = some (.nx ((e.set i (slotOf o1 a)).set j (slotOf o2 b)), w') := by
  rw [v_sPar, h]; rfl
theorem if_no {t : F1 Bool} {f g : F1 Out} {e : Env} {w w' : W} {r : Option (Out × W)} (h : t e w = some (false, w')) (k : g e w' = r) : sIf t f g e w = r := by
  rw [v_sIf, h]; exact k
theorem if_yes {t : F1 Bool} {f g : F1 Out} {e : Env} {w w' : W} {r : Option (Out × W)} (h : t e w = some (true, w')) (k : f e w' = r) : sIf t f g e w = r := by
  rw [v_sIf, h]; exact k
/-- a test that fails is passed -/
theorem pass_if {t : F1 Bool} {f : F1 Out} {e : Env} {w w' : W} (h : t e w = some (false, w')) : sIf t f sNext e w = some (.nx e, w') := if_no h rfl
theorem asg_ok {f : F1 D} {g : D → Env → Option Env} {e e' : Env} {w w' : W} {d : D} (h : f e w = some (d, w')) (k : g d e = some e') : sAsg f g e w = some (.nx e', w') := by
  rw [v_sAsg, h]; simp [k]
/-! the loops -/
theorem lc_map {gs : D → Env → Option Env} {ft : F1 Bool} {fe : F1 D} {env : Env} {w : W} {g : D → D} : ∀ {ds : List D}, (∀ d ∈ ds, ∃ e1, gs d env = some e1 ∧ ft e1 w = some (true, w) ∧ fe e1 w = some (g d, w)) → lcD gs ft fe env ds w = some (ds.map g, w)
  | [], _ => rfl
  | d :: ds, h => by
    obtain ⟨e1, a, b, c⟩ := h d List.mem_cons_self
    simp [lcD, a, b, c, lc_map fun x hx => h x (List.mem_cons_of_mem _ hx)]
theorem lc_filter {gs : D → Env → Option Env} {ft : F1 Bool} {fe : F1 D} {env : Env} {w : W} {p : D → Bool} {g : D → D} : ∀ {ds : List D}, (∀ d ∈ ds, ∃ e1, gs d env = some e1 ∧ ft e1 w = some (p d, w) ∧ (p d = true → fe e1 w = some (g d, w))) →
    lcD gs ft fe env ds w = some ((ds.filter p).map g, w)
  | [], _ => rfl
  | d :: ds, h => by
    obtain ⟨e1, a, b, c⟩ := h d List.mem_cons_self
    have i := lc_filter fun x hx => h x (List.mem_cons_of_mem _ hx)
    by_cases q : p d = true
    · simp [lcD, a, b, c q, i, q]
    · simp [lcD, a, b, i, q]
inductive All2 {α β : Type} (R : α → β → Prop) : List α → List β → Prop
  | nil : All2 R [] []
  | cons {a : α} {b : β} {as : List α} {bs : List β} : R a b → All2 R as bs → All2 R (a :: as) (b :: bs)
/-- with the world: what the items are, one by one -/
theorem lc_inv {gs : D → Env → Option Env} {ft : F1 Bool} {fe : F1 D} {env : Env} {I : W → Prop} {R : D → D → Prop} : ∀ {ds : List D} {w : W}, I w → (∀ d ∈ ds, ∀ w, I w → ∃ e1 r w', gs d env = some e1 ∧ ft e1 w = some (true, w) ∧ fe e1 w = some (r, w') ∧ R d r ∧ I w') →
    ∃ rs w', lcD gs ft fe env ds w = some (rs, w') ∧ All2 R ds rs ∧ I w'
  | [], w, hi, _ => ⟨[], w, rfl, .nil, hi⟩
  | d :: ds, w, hi, h => by
    obtain ⟨e1, r, w1, a, b, c, q, i1⟩ := h d List.mem_cons_self w hi
    obtain ⟨rs, w2, x, y, z⟩ := lc_inv i1 fun x hx => h x (List.mem_cons_of_mem _ hx)
    exact ⟨r :: rs, w2, by simp [lcD, a, b, c, x], .cons q y, z⟩
theorem lc_ints {gs : D → Env → Option Env} {ft : F1 Bool} {fe : F1 D} {env : Env} {I : W → Prop} {R : Int → Int → Prop} : ∀ {xs : List Int} {w : W}, I w → (∀ x ∈ xs, ∀ w, I w → ∃ e1 r w', gs (.int x) env = some e1 ∧ ft e1 w = some (true, w) ∧ fe e1 w = some (.int r, w') ∧ R x r ∧ I w') →
    ∃ rs w', lcD gs ft fe env (xs.map .int) w = some (rs.map .int, w') ∧ All2 R xs rs ∧ I w'
  | [], w, hi, _ => ⟨[], w, rfl, .nil, hi⟩
  | x :: xs, w, hi, h => by
    obtain ⟨e1, r, w1, a, b, c, q, i1⟩ := h x List.mem_cons_self w hi
    obtain ⟨rs, w2, u, y, z⟩ := lc_ints i1 fun y hy => h y (List.mem_cons_of_mem _ hy)
    exact ⟨r :: rs, w2, by simp [lcD, a, b, c, u], .cons q y, z⟩
theorem lc_true {gs : D → Env → Option Env} {ft : F1 Bool} {fe : F1 D} {env : Env} {I : W → Prop} : ∀ {ds : List D} {w : W}, I w → (∀ d ∈ ds, ∀ w, I w → ∃ e1 w', gs d env = some e1 ∧ ft e1 w = some (true, w) ∧ fe e1 w = some (.bool true, w') ∧ I w') →
    ∃ w', lcD gs ft fe env ds w = some ((List.replicate ds.length true).map .bool, w') ∧ I w'
  | [], w, hi, _ => ⟨w, rfl, hi⟩
  | d :: ds, w, hi, h => by
    obtain ⟨e1, w1, a, b, c, i1⟩ := h d List.mem_cons_self w hi
    obtain ⟨w2, u, z⟩ := lc_true i1 fun y hy => h y (List.mem_cons_of_mem _ hy)
    refine ⟨w2, ?_, z⟩
    simp only [lcD, a, b, c, u, b_some, if_true, m_some, List.length_cons, List.replicate_succ, List.map_cons]
@[simp] theorem all_rep (n : Nat) : (List.replicate n true).all id = true := by simp
theorem lc_mapI {gs : D → Env → Option Env} {ft : F1 Bool} {fe : F1 D} {env : Env} {w : W} {g : Int → Int} : ∀ {xs : List Int}, (∀ x ∈ xs, ∃ e1, gs (.int x) env = some e1 ∧ ft e1 w = some (true, w) ∧ fe e1 w = some (.int (g x), w)) → lcD gs ft fe env (xs.map .int) w = some ((xs.map g).map .int, w)
  | [], _ => rfl
  | x :: xs, h => by
    obtain ⟨e1, a, b, c⟩ := h x List.mem_cons_self
    have i := lc_mapI fun y hy => h y (List.mem_cons_of_mem _ hy)
    simp only [List.map_cons, lcD, a, b, c, i, b_some, if_true, m_some]
theorem lc_zip {gs : D → Env → Option Env} {fe : F1 D} {env : Env} {w : W} (op : Int → Int → Int) (h : ∀ x y : Int, ∃ e1, gs (.tuple [.int x, .int y]) env = some e1 ∧ fe e1 w = some (.int (op x y), w)) :
    ∀ xs ys : List Int, lcD gs bYes fe env (zipD (xs.map .int) (ys.map .int)) w = some ((List.zipWith op xs ys).map .int, w)
  | [], _ => rfl
  | _ :: _, [] => rfl
  | x :: xs, y :: ys => by
    obtain ⟨e1, a, b⟩ := h x y
    have r := lc_zip op h xs ys
    unfold zipD at r
    simp only [List.map_cons, zipD, List.zipWith_cons_cons, lcD, a, b, v_bYes, b_some, if_true, r, m_some]
theorem All2.len {α β : Type} {R : α → β → Prop} : ∀ {xs : List α} {ys : List β}, All2 R xs ys → ys.length = xs.length
  | _, _, .nil => rfl
  | _, _, .cons _ r => by simp [r.len]
theorem All2.right {α β : Type} {R : α → β → Prop} {S : β → Prop} (h : ∀ a b, R a b → S b) : ∀ {xs : List α} {ys : List β}, All2 R xs ys → ∀ y ∈ ys, S y
  | _, _, .nil, y, m => by cases m
  | _, _, .cons q r, y, m => by
    rcases List.mem_cons.mp m with e | m
    · subst e; exact h _ _ q
    · exact r.right h y m
theorem loop_inv {gs : D → Env → Option Env} {body : F1 Out} {J : List D → Env → W → Prop} : ∀ {ds pre : List D} {e : Env} {w : W}, J pre e w → (∀ (a : List D) (d : D) (b : List D), ds = a ++ d :: b → ∀ e w, J (pre ++ a) e w → ∃ e1 e' w', gs d e = some e1 ∧ body e1 w = some (.nx e', w') ∧ J (pre ++ a ++ [d]) e' w') →
    ∃ e' w', loopD gs body ds e w = some (.nx e', w') ∧ J (pre ++ ds) e' w'
  | [], pre, e, w, hi, _ => ⟨e, w, rfl, by simpa using hi⟩
  | d :: ds, pre, e, w, hi, h => by
    obtain ⟨e1, e', w', a, b, c⟩ := h [] d ds rfl e w (by simpa using hi)
    obtain ⟨e2, w2, x, y⟩ := loop_inv (ds := ds) (pre := pre ++ [d]) (by simpa using c) fun p q r hq e w hj => by
      obtain ⟨e1, e', w', a, b, c⟩ := h (d :: p) q r (by rw [hq]; rfl) e w (by simpa using hj)
      exact ⟨e1, e', w', a, b, by simpa using c⟩
    exact ⟨e2, w2, by simp [loopD, a, b, x], by simpa using y⟩
/-! ints -/
theorem plainI : ∀ xs : List Int, PyData.plainAll (xs.map PyData.int) = true
  | [] => by simp [PyData.plainAll]
  | x :: xs => by simp [PyData.plainAll, PyData.plain, plainI xs]
theorem depthI : ∀ xs : List Int, PyData.depthAll (xs.map PyData.int) ≤ 1
  | [] => by simp [PyData.depthAll]
  | x :: xs => by
    have := depthI xs
    simp [PyData.depthAll, PyData.depth]
    omega
theorem okI (xs : List Int) : okD (.tuple (xs.map .int)) = true := by
  have := depthI xs
  simp only [okD, PyData.plain, plainI, PyData.depth, Bool.true_and]
  exact decide_eq_true (by omega)
theorem okI1 (x : Int) : okD (.int x) = true := by simp [okD, PyData.plain, PyData.depth]
theorem okB1 (x : Bool) : okD (.bool x) = true := by simp [okD, PyData.plain, PyData.depth]
theorem eqvI : ∀ xs ys : List Int, PyData.eqvAll (xs.map .int) (ys.map .int) = decide (xs = ys)
  | [], [] => by simp [PyData.eqvAll]
  | [], y :: ys => by simp [PyData.eqvAll]
  | x :: xs, [] => by simp [PyData.eqvAll]
  | x :: xs, y :: ys => by
    simp only [List.map_cons, PyData.eqvAll, eqvI xs ys, PyData.eqv]
    by_cases h : x = y <;> by_cases h' : xs = ys <;> simp [h, h']
@[simp] theorem v_gNeI (x y : Int) : gNe (.int x) (.int y) = some (.bool (!decide (x = y))) := by
  simp only [gNe, okI1, Bool.and_self, if_true, PyData.eqv]
  by_cases h : x = y <;> simp [h]
@[simp] theorem v_gEqI (x y : Int) : gEq (.int x) (.int y) = some (.bool (decide (x = y))) := by
  simp only [gEq, okI1, Bool.and_self, if_true, PyData.eqv]
  by_cases h : x = y <;> simp [h]
@[simp] theorem v_gNeT (xs ys : List Int) : gNe (.tuple (xs.map .int)) (.tuple (ys.map .int)) = some (.bool (!decide (xs = ys))) := by
  simp only [gNe, okI, Bool.and_self, if_true, PyData.eqv, eqvI]
@[simp] theorem v_gEqT (xs ys : List Int) : gEq (.tuple (xs.map .int)) (.tuple (ys.map .int)) = some (.bool (decide (xs = ys))) := by
  simp only [gEq, okI, Bool.and_self, if_true, PyData.eqv, eqvI]
@[simp] theorem v_gNeT0 (xs : List Int) : gNe (.tuple (xs.map .int)) (.tuple []) = some (.bool (!decide (xs = []))) := v_gNeT xs []
@[simp] theorem v_gNe00 : gNe (.tuple []) (.tuple []) = some (.bool false) := v_gNeT [] []
@[simp] theorem v_gNeC (x : Int) (xs : List Int) : gNe (.tuple (.int x :: xs.map .int)) (.tuple []) = some (.bool true) := by
  have h := v_gNeT (x :: xs) []
  simpa using h
theorem dec_lt (s : Int) : decide (s < 0) = !decide (0 ≤ s) := by
  by_cases h : 0 ≤ s
  · simp [h]
  · simp [h]; omega
theorem gNe_same {d : D} (h : okD d = true) : gNe d d = some (.bool false) := by
  have p : d.plain = true := by
    simp only [okD, Bool.and_eq_true] at h
    exact h.1
  have e := SeqAt.eqv_refl_plain d p
  simp [gNe, h, e]
@[simp] theorem v_gNeB (x y : Bool) : gNe (.bool x) (.bool y) = some (.bool (!decide (x = y))) := by
  simp only [gNe, okB1, Bool.and_self, if_true, PyData.eqv]
  cases x <;> cases y <;> rfl
theorem alikeI (x y : Int) : W.alike (.int x) (.int y) = true := by simp [W.alike]
theorem okMinI (xs : List Int) : okMin (xs.map .int) = true := by
  have := depthI xs
  simp only [okMin, plainI, Bool.true_and, Bool.and_eq_true, List.all_eq_true, List.mem_map, forall_exists_index, and_imp, decide_eq_true_eq]
  refine ⟨⟨by omega, ?_⟩, ?_⟩
  · rintro _ a _ rfl _ b _ rfl
    exact alikeI a b
  · rintro _ a _ rfl
    rfl
theorem v_gMinL (x : Int) (xs : List Int) : gMin (.list ((x :: xs).map .int)) = some (.int (xs.foldl min x)) := by
  have h := okMinI (x :: xs)
  rw [List.map_cons] at h ⊢
  simp only [gMin, gPick, h, if_true, W.minD_ints]
theorem v_gMinT (x : Int) (xs : List Int) : gMin (.tuple ((x :: xs).map .int)) = some (.int (xs.foldl min x)) := by
  have h := okMinI (x :: xs)
  rw [List.map_cons] at h ⊢
  simp only [gMin, gPick, h, if_true, W.minD_ints]
theorem v_gMaxL (x : Int) (xs : List Int) : gMax (.list ((x :: xs).map .int)) = some (.int (xs.foldl max x)) := by
  have h := okMinI (x :: xs)
  rw [List.map_cons] at h ⊢
  simp only [gMax, gPick, h, if_true, W.maxD_ints]
theorem v_gMaxT (x : Int) (xs : List Int) : gMax (.tuple ((x :: xs).map .int)) = some (.int (xs.foldl max x)) := by
  have h := okMinI (x :: xs)
  rw [List.map_cons] at h ⊢
  simp only [gMax, gPick, h, if_true, W.maxD_ints]
theorem inI (x : Int) (xs : List Int) : inD (.int x) (xs.map .int) = decide (x ∈ xs) := by
  induction xs with
  | nil => simp [inD]
  | cons y ys ih =>
    have q : inD (.int x) ((y :: ys).map .int) = (PyData.eqv (.int y) (.int x) || inD (.int x) (ys.map .int)) := rfl
    rw [q, ih]
    simp only [PyData.eqv]
    by_cases h : y = x
    · subst h
      simp
    · have h' : x ≠ y := fun e => h e.symm
      by_cases m : x ∈ ys <;> simp [h, h', m]
theorem okInI (x : Int) (xs : List Int) : okIn (.int x) (xs.map .int) = true := by simp [okIn, plainI, PyData.plain, PyData.depth]
@[simp] theorem v_gInL (n : Bool) (x : Int) (xs : List Int) : gIn n (.int x) (.list (xs.map .int)) = some (.bool (n ^^ decide (x ∈ xs))) := by simp only [gIn, okInI, if_true, inI]
@[simp] theorem v_gInT (n : Bool) (x : Int) (xs : List Int) : gIn n (.int x) (.tuple (xs.map .int)) = some (.bool (n ^^ decide (x ∈ xs))) := by simp only [gIn, okInI, if_true, inI]
theorem okSortI (xs : List Int) : okSort (xs.map .int) = true := by
  have := depthI xs
  simp only [okSort, plainI, Bool.true_and, Bool.and_eq_true, List.all_eq_true, List.mem_map, forall_exists_index, and_imp, decide_eq_true_eq, Bool.or_eq_true]
  refine ⟨⟨by omega, ?_⟩, Or.inr ?_⟩
  · rintro _ a _ rfl _ b _ rfl
    exact alikeI a b
  · rintro _ a _ rfl
    rfl
theorem srtI (xs : List Int) : srt (xs.map .int) = (xs.mergeSort).map .int := by
  unfold srt
  have h : W.dataLe false (id : D → D) = fun a b => !W.dataLt b a := rfl
  rw [← List.map_mergeSort (r := fun a b : Int => decide (a ≤ b))]
  rintro a _ b _
  have q := congrFun (congrFun (W.dataLe_int (id : Int → Int)) a) b
  exact q.symm
@[simp] theorem v_gSorted (xs : List Int) : gSorted (.list (xs.map .int)) = some (.list ((xs.mergeSort).map .int)) := by simp only [gSorted, okSortI, if_true, srtI]
end DL
namespace DL
theorem sort_is {l l' : List Int} (h : l.Perm l') (o : l'.Pairwise fun a b => a ≤ b) : l.mergeSort = l' := by
  refine List.Perm.eq_of_pairwise (le := fun a b => a ≤ b) (fun a b _ _ x y => by omega) ?_ o ((List.mergeSort_perm l _).trans h)
  refine (List.pairwise_mergeSort (le := fun a b : Int => decide (a ≤ b)) (fun a b c x y => ?_) (fun a b => ?_) l).imp fun x => by simpa using x
  · simp only [decide_eq_true_eq] at *; omega
  · simp only [Bool.or_eq_true, decide_eq_true_eq]; omega
end DL

set_option autoImplicit false
namespace DL
open PySem L2
/-! the law's hand, and what is drawn from it -/
@[simp] theorem v_hix0 (e : Env) (w : W) : eHix 0 0 (.sh hnd :: e) w = some (.list (w.cells.map .int), w) := id rfl
@[simp] theorem v_hix1 (e : Env) (w : W) : eHix 0 1 (.sh hnd :: e) w = some (.int w.i, w) := id rfl
@[simp] theorem v_hix2 (e : Env) (w : W) : eHix 0 2 (.sh hnd :: e) w = some (.int w.rest, w) := id rfl
@[simp] theorem v_hix3 (e : Env) (w : W) : eHix 0 3 (.sh hnd :: e) w = some (.int w.mix, w) := id rfl
@[simp] theorem v_hix4 (e : Env) (w : W) : eHix 0 4 (.sh hnd :: e) w = some (.int w.cnt, w) := id rfl
@[simp] theorem v_hput1 (f : F1 D) (e : Env) (w : W) : sHput 0 1 f (.sh hnd :: e) w = (f (.sh hnd :: e) w).bind fun p => (asI p.1).bind fun x => some (.nx (.sh hnd :: e), { p.2 with i := x }) := by
  simp [sHput, slotSh, isHnd, hPut, hnd]
@[simp] theorem v_hput2 (f : F1 D) (e : Env) (w : W) : sHput 0 2 f (.sh hnd :: e) w = (f (.sh hnd :: e) w).bind fun p => (asI p.1).bind fun x => some (.nx (.sh hnd :: e), { p.2 with rest := x }) := by
  simp [sHput, slotSh, isHnd, hPut, hnd]
@[simp] theorem v_hput3 (f : F1 D) (e : Env) (w : W) : sHput 0 3 f (.sh hnd :: e) w = (f (.sh hnd :: e) w).bind fun p => (asI p.1).bind fun x => some (.nx (.sh hnd :: e), { p.2 with mix := x }) := by
  simp [sHput, slotSh, isHnd, hPut, hnd]
@[simp] theorem v_hput4 (f : F1 D) (e : Env) (w : W) : sHput 0 4 f (.sh hnd :: e) w = (f (.sh hnd :: e) w).bind fun p => (asI p.1).bind fun x => some (.nx (.sh hnd :: e), { p.2 with cnt := x }) := by
  simp [sHput, slotSh, isHnd, hPut, hnd]
theorem ixN_lt {n : Nat} {k : Int} (h : 0 ≤ k) (h' : k < n) : ixN n k = some k.toNat := by
  unfold ixN
  rw [if_pos h, if_pos h']
theorem atI_nat {α : Type} {xs : List α} {k : Int} (h : 0 ≤ k) (h' : k < (xs.length : Int)) : ∃ (p : k.toNat < xs.length), atI xs k = some xs[k.toNat] := by
  have hl : k.toNat < xs.length := by omega
  exact ⟨hl, by simp [atI, ixN_lt h h', List.getElem?_eq_getElem hl]⟩
theorem gIxL {xs : List D} {k : Int} (h : 0 ≤ k) (h' : k < (xs.length : Int)) : ∃ (p : k.toNat < xs.length), gIx (.list xs) (.int k) = some xs[k.toNat] := atI_nat h h'
theorem gIxT {xs : List D} {k : Int} (h : 0 ≤ k) (h' : k < (xs.length : Int)) : ∃ (p : k.toNat < xs.length), gIx (.tuple xs) (.int k) = some xs[k.toNat] := atI_nat h h'
theorem fmod_in {i j : Int} (h : 0 < j) : 0 ≤ i.fmod j ∧ i.fmod j < j := by
  rw [Int.fmod_eq_emod_of_nonneg _ (by omega)]
  exact ⟨Int.emod_nonneg _ (by omega), Int.emod_lt_of_pos _ h⟩
def yDraw : F1 Out := (sSeq (sIf (bAnd (bV (e2 gEq (eHix 0 2) (eC (.int 0)))) (bV (e2 gLt (eHix 0 1) (e1 gLen (eHix 0 0))))) (sSeq (sSet 3 (e2 gIx (eHix 0 0) (eHix 0 1))) 
    (sSeq (sHput 0 1 (e2 gAdd (eHix 0 1) (eC (.int 1)))) 
    (sSeq (sHput 0 3 (e2 gMod (e1 gToInt (e2 gAdd (e2 gAdd (e2 gMul (eHix 0 3) (eC (.int 69621))) (e2 gMul (eVar 3) (eC (.int 40692)))) (eC (.int 31)))) (eC (.int 2147483629)))) 
    (sIf (bV (e2 gGe (eVar 3) (e2 gPow (eC (.int 10)) (eC (.int 18))))) (sHput 0 2 (eVar 3)) sNext)))) sNext) 
    (sSeq (sIf (bV (e2 gGt (eHix 0 2) (eC (.int 0)))) (sSeq (sSet 4 (e2 gMod (e1 gToInt (eHix 0 2)) (eVar 1))) 
    (sSeq (sHput 0 2 (e2 gDiv (eHix 0 2) (eVar 1))) 
    (sRet (eVar 4)))) sNext) 
    (sSeq (sHput 0 4 (e2 gAdd (eHix 0 4) (eC (.int 1)))) 
    (sSeq (sSet 2 (e2 gMod (e1 gToInt (e2 gMul (e1 gToInt (e2 gAdd (eHix 0 3) (e2 gMul (eC (.int 7919)) (eHix 0 4)))) (eC (.int 48271)))) (eC (.int 2147483647)))) 
    (sSeq (sSet 2 (e2 gMod (e1 gToInt (e2 gMul (eVar 2) (e2 gAdd (e2 gDiv (eVar 2) (eC (.int 1009))) (eC (.int 69621))))) (eC (.int 2147483647)))) 
    (sSeq (sSet 2 (e2 gMod (e1 gToInt (e2 gMul (eVar 2) (e2 gAdd (e2 gDiv (eVar 2) (eC (.int 2003))) (eC (.int 40014))))) (eC (.int 2147483563)))) 
    (sRet (e2 gMod (e1 gToInt (e2 gDiv (eVar 2) (eC (.int 16)))) (eVar 1)))))))))
def dDraw : List D → W → Option (D × W) := fnD 5 yDraw
abbrev WOk (w : W) : Prop := 0 ≤ w.i
def yDraw1 : F1 Out := sIf (bAnd (bV (e2 gEq (eHix 0 2) (eC (.int 0)))) (bV (e2 gLt (eHix 0 1) (e1 gLen (eHix 0 0))))) (sSeq (sSet 3 (e2 gIx (eHix 0 0) (eHix 0 1)))
    (sSeq (sHput 0 1 (e2 gAdd (eHix 0 1) (eC (.int 1))))
    (sSeq (sHput 0 3 (e2 gMod (e1 gToInt (e2 gAdd (e2 gAdd (e2 gMul (eHix 0 3) (eC (.int 69621))) (e2 gMul (eVar 3) (eC (.int 40692)))) (eC (.int 31)))) (eC (.int 2147483629))))
    (sIf (bV (e2 gGe (eVar 3) (e2 gPow (eC (.int 10)) (eC (.int 18))))) (sHput 0 2 (eVar 3)) sNext)))) sNext
theorem gPow1018 : gPow (.int 10) (.int 18) = some (.int 1000000000000000000) := by
  have a : powOk 10 18 = true := by decide
  simp only [gInt2, a, if_true]
  rfl
theorem draw1 (w : W) (m : Int) (hw : WOk w) : ∃ s w', yDraw1 [.sh hnd, .sh (.int m), .no, .no, .no] w = some (.nx [.sh hnd, .sh (.int m), .no, s, .no], w') ∧ WOk w' := by
  unfold yDraw1
  by_cases h : w.rest = 0 ∧ w.i < (w.cells.length : Int)
  · obtain ⟨h0, h1⟩ := h
    obtain ⟨p, q⟩ := gIxL (xs := w.cells.map .int) hw (by simpa using h1)
    rw [List.getElem_map] at q
    have a1 := fun i : Int => v_gMul (i := i) (j := 69621) (mulOk_r (by decide))
    have a2 := fun i : Int => v_gMul (i := i) (j := 40692) (mulOk_r (by decide))
    have a3 := fun i : Int => v_gMod (i := i) (j := 2147483629) (by decide)
    by_cases g : (1000000000000000000 : Int) ≤ w.cells[w.i.toNat]'(by simpa using p)
    · refine ⟨.sh (.int (w.cells[w.i.toNat]'(by simpa using p))), ?_⟩
      simp [h0, h1, q, a1, a2, a3, gPow1018, g]
      show (0 : Int) ≤ w.i + 1
      have : (0 : Int) ≤ w.i := hw
      omega
    · refine ⟨.sh (.int (w.cells[w.i.toNat]'(by simpa using p))), ?_⟩
      simp [h0, h1, q, a1, a2, a3, gPow1018, g]
      show (0 : Int) ≤ w.i + 1
      have : (0 : Int) ≤ w.i := hw
      omega
  · refine ⟨.no, w, ?_, hw⟩
    by_cases h0 : w.rest = 0
    · have h1 : ¬ w.i < (w.cells.length : Int) := fun h1 => h ⟨h0, h1⟩
      simp [h0, h1]
    · simp [h0]
theorem draw_ok {w : W} {m : Int} (hw : WOk w) (h1 : 1 ≤ m) (h2 : m < 1073741824) : ∃ r w', dDraw [hnd, .int m] w = some (.int r, w') ∧ 0 ≤ r ∧ r < m ∧ WOk w' := by
  obtain ⟨s, w1, e1, k1⟩ := draw1 w m hw
  have am := fun i : Int => v_gMod (i := i) (j := m) (by omega)
  have ad := fun i : Int => v_gDiv (i := i) (j := m) (by omega) (by omega) (by omega)
  unfold dDraw
  by_cases g : (0 : Int) < w1.rest
  · refine ⟨w1.rest.fmod m, { w1 with rest := w1.rest.fdiv m }, fnD_rt ?_, (fmod_in (by omega)).1, (fmod_in (by omega)).2, k1⟩
    refine seq_nx e1 ?_
    simp [g, am, ad]
  · have b1 := fun i : Int => v_gMul (i := (7919 : Int)) (j := i) (mulOk_l (by decide))
    have b2 := fun i : Int => v_gMul (i := i) (j := 48271) (mulOk_r (by decide))
    have b3 := fun i : Int => v_gMod (i := i) (j := 2147483647) (by decide)
    have b4 := fun i : Int => v_gMod (i := i) (j := 2147483563) (by decide)
    have b5 := fun i : Int => v_gDiv (i := i) (j := 1009) (by decide) (by decide) (by decide)
    have b6 := fun i : Int => v_gDiv (i := i) (j := 2003) (by decide) (by decide) (by decide)
    have b7 := fun i : Int => v_gDiv (i := i) (j := 16) (by decide) (by decide) (by decide)
    have b8 := fun i j : Int => v_gMul (i := i.fmod 2147483647) (j := j) (mulOk_l (by have := fmod_in (i := i) (j := 2147483647) (by decide); exact small_of (by omega) (by omega)))
    refine ⟨((((((((w1.mix + 7919 * (w1.cnt + 1)) * 48271).fmod 2147483647) * ((((w1.mix + 7919 * (w1.cnt + 1)) * 48271).fmod 2147483647).fdiv 1009 + 69621)).fmod 2147483647) * ((((((w1.mix + 7919 * (w1.cnt + 1)) * 48271).fmod 2147483647) * ((((w1.mix + 7919 * (w1.cnt + 1)) * 48271).fmod 2147483647).fdiv 1009 + 69621)).fmod 2147483647).fdiv 2003 + 40014)).fmod 2147483563).fdiv 16).fmod m, { w1 with cnt := w1.cnt + 1 }, fnD_rt ?_, ?_, ?_, ?_⟩
    · refine seq_nx e1 ?_
      simp [g, am, b1, b2, b3, b4, b5, b6, b7, b8]
    · exact (fmod_in (by omega)).1
    · exact (fmod_in (by omega)).2
    · exact k1
def yAny : F1 Out := sRet (e2 gIx (eVar 1) (eCall dDraw (eA (eVar 0) (eA (e1 gLen (eVar 1)) eA0))))
def dAny : List D → W → Option (D × W) := fnD 2 yAny
theorem any_ok {w : W} {xs : List D} (hw : WOk w) (h : xs ≠ []) (h2 : xs.length < 100000) : ∃ x w', x ∈ xs ∧ dAny [hnd, .list xs] w = some (x, w') ∧ WOk w' := by
  have hl : 0 < xs.length := List.length_pos_iff.mpr h
  obtain ⟨r, w', e, a, b, k⟩ := draw_ok (w := w) (m := xs.length) hw (by omega) (by omega)
  obtain ⟨p, q⟩ := gIxL a b
  refine ⟨xs[r.toNat], w', List.getElem_mem p, fnD_rt (ret_ok ?_), k⟩
  simp [e, q]
theorem any_int {w : W} {xs : List Int} (hw : WOk w) (h : xs ≠ []) (h2 : xs.length < 100000) : ∃ x w', x ∈ xs ∧ dAny [hnd, .list (xs.map .int)] w = some (.int x, w') ∧ WOk w' := by
  obtain ⟨x, w', m, e, k⟩ := any_ok (w := w) (xs := xs.map .int) hw (by simpa using h) (by simpa using h2)
  obtain ⟨y, hy, rfl⟩ := List.mem_map.mp m
  exact ⟨y, w', hy, e, k⟩
end DL

set_option maxRecDepth 100000
set_option maxHeartbeats 4000000
namespace K04
open PySem L2 DL
/-! printed by pr.py -/
def top (i : Nat) : Stmt := PySem.Challenge.pw_wayriddles_k04_whole_begins_ahead_as_sta.main.body.getD i (.Pass ⟨0, 0, 0, 0⟩)
abbrev s_is_integer : Stmt := top 1
abbrev n_is_integer : List Str := ["thing"]
abbrev p_is_integer : List Str := ["thing"]
theorem sc_is_integer : FnScope n_is_integer p_is_integer (defScope s_is_integer) := ⟨rfl, rfl, rfl, by decide +kernel, rfl, by decide +kernel, by decide +kernel⟩
abbrev s_is_within : Stmt := top 2
abbrev n_is_within : List Str := ["thing", "least", "most"]
abbrev p_is_within : List Str := ["thing", "least", "most"]
theorem sc_is_within : FnScope n_is_within p_is_within (defScope s_is_within) := ⟨rfl, rfl, rfl, by decide +kernel, rfl, by decide +kernel, by decide +kernel⟩
abbrev s_is_sized : Stmt := top 3
abbrev n_is_sized : List Str := ["thing", "least", "most"]
abbrev p_is_sized : List Str := ["thing", "least", "most"]
theorem sc_is_sized : FnScope n_is_sized p_is_sized (defScope s_is_sized) := ⟨rfl, rfl, rfl, by decide +kernel, rfl, by decide +kernel, by decide +kernel⟩
abbrev s_are_within : Stmt := top 4
abbrev n_are_within : List Str := ["thing", "least", "most", "one"]
abbrev p_are_within : List Str := ["thing", "least", "most"]
theorem sc_are_within : FnScope n_are_within p_are_within (defScope s_are_within) := ⟨rfl, rfl, rfl, by decide +kernel, rfl, by decide +kernel, by decide +kernel⟩
abbrev s_check_takings : Stmt := top 18
abbrev n_check_takings : List Str := ["takings"]
abbrev p_check_takings : List Str := ["takings"]
theorem sc_check_takings : FnScope n_check_takings p_check_takings (defScope s_check_takings) := ⟨rfl, rfl, rfl, by decide +kernel, rfl, by decide +kernel, by decide +kernel⟩
abbrev s_sums_round : Stmt := top 19
abbrev n_sums_round : List Str := ["row", "begin", "step", "found", "total"]
abbrev p_sums_round : List Str := ["row", "begin"]
theorem sc_sums_round : FnScope n_sums_round p_sums_round (defScope s_sums_round) := ⟨rfl, rfl, rfl, by decide +kernel, rfl, by decide +kernel, by decide +kernel⟩
abbrev s_raw_begins : Stmt := top 20
abbrev n_raw_begins : List Str := ["takings", "begin"]
abbrev p_raw_begins : List Str := ["takings"]
theorem sc_raw_begins : FnScope n_raw_begins p_raw_begins (defScope s_raw_begins) := ⟨rfl, rfl, rfl, by decide +kernel, rfl, by decide +kernel, by decide +kernel⟩
abbrev s_begins_ahead : Stmt := top 21
abbrev n_begins_ahead : List Str := ["takings"]
abbrev p_begins_ahead : List Str := ["takings"]
theorem sc_begins_ahead : FnScope n_begins_ahead p_begins_ahead (defScope s_begins_ahead) := ⟨rfl, rfl, rfl, by decide +kernel, rfl, by decide +kernel, by decide +kernel⟩
abbrev s_first_behind : Stmt := top 22
abbrev n_first_behind : List Str := ["takings", "begin", "total"]
abbrev p_first_behind : List Str := ["takings", "begin"]
theorem sc_first_behind : FnScope n_first_behind p_first_behind (defScope s_first_behind) := ⟨rfl, rfl, rfl, by decide +kernel, rfl, by decide +kernel, by decide +kernel⟩
abbrev s_ahead_told : Stmt := top 23
abbrev n_ahead_told : List Str := ["takings", "some", "begin"]
abbrev p_ahead_told : List Str := ["takings"]
theorem sc_ahead_told : FnScope n_ahead_told p_ahead_told (defScope s_ahead_told) := ⟨rfl, rfl, rfl, by decide +kernel, rfl, by decide +kernel, by decide +kernel⟩
abbrev s_check_fills : Stmt := top 24
abbrev n_check_fills : List Str := ["fills", "needs", "one"]
abbrev p_check_fills : List Str := ["fills", "needs"]
theorem sc_check_fills : FnScope n_check_fills p_check_fills (defScope s_check_fills) := ⟨rfl, rfl, rfl, by decide +kernel, rfl, by decide +kernel, by decide +kernel⟩
abbrev s_raw_stations : Stmt := top 25
abbrev n_raw_stations : List Str := ["fills", "needs", "row", "begin", "fill", "need"]
abbrev p_raw_stations : List Str := ["fills", "needs"]
theorem sc_raw_stations : FnScope n_raw_stations p_raw_stations (defScope s_raw_stations) := ⟨rfl, rfl, rfl, by decide +kernel, rfl, by decide +kernel, by decide +kernel⟩
abbrev s_stations_round : Stmt := top 26
abbrev n_stations_round : List Str := ["fills", "needs"]
abbrev p_stations_round : List Str := ["fills", "needs"]
theorem sc_stations_round : FnScope n_stations_round p_stations_round (defScope s_stations_round) := ⟨rfl, rfl, rfl, by decide +kernel, rfl, by decide +kernel, by decide +kernel⟩
abbrev s_station_told : Stmt := top 27
abbrev n_station_told : List Str := ["fills", "needs", "some"]
abbrev p_station_told : List Str := ["fills", "needs"]
theorem sc_station_told : FnScope n_station_told p_station_told (defScope s_station_told) := ⟨rfl, rfl, rfl, by decide +kernel, rfl, by decide +kernel, by decide +kernel⟩
abbrev s__law_hand : Stmt := top 29
abbrev n__law_hand : List Str := ["script", "cells", "cell"]
abbrev p__law_hand : List Str := ["script"]
theorem sc__law_hand : FnScope n__law_hand p__law_hand (defScope s__law_hand) := ⟨rfl, rfl, rfl, by decide +kernel, rfl, by decide +kernel, by decide +kernel⟩
abbrev s__law_draw : Stmt := top 30
abbrev n__law_draw : List Str := ["hand", "many", "mixed_here", "cell", "digit"]
abbrev p__law_draw : List Str := ["hand", "many"]
theorem sc__law_draw : FnScope n__law_draw p__law_draw (defScope s__law_draw) := ⟨rfl, rfl, rfl, by decide +kernel, rfl, by decide +kernel, by decide +kernel⟩
abbrev s__law_any : Stmt := top 31
abbrev n__law_any : List Str := ["hand", "some"]
abbrev p__law_any : List Str := ["hand", "some"]
theorem sc__law_any : FnScope n__law_any p__law_any (defScope s__law_any) := ⟨rfl, rfl, rfl, by decide +kernel, rfl, by decide +kernel, by decide +kernel⟩
abbrev s__law_sums : Stmt := top 32
abbrev n__law_sums : List Str := ["takings", "begin", "one", "found", "whole"]
abbrev p__law_sums : List Str := ["takings", "begin"]
theorem sc__law_sums : FnScope n__law_sums p__law_sums (defScope s__law_sums) := ⟨rfl, rfl, rfl, by decide +kernel, rfl, by decide +kernel, by decide +kernel⟩
abbrev s__law_takings : Stmt := top 33
abbrev n__law_takings : List Str := ["hand", "odds", "turn", "few", "many", "found", "low"]
abbrev p__law_takings : List Str := ["hand"]
theorem sc__law_takings : FnScope n__law_takings p__law_takings (defScope s__law_takings) := ⟨rfl, rfl, rfl, by decide +kernel, rfl, by decide +kernel, by decide +kernel⟩
abbrev s__law_turned : Stmt := top 34
abbrev n__law_turned : List Str := ["lot", "by", "many", "at"]
abbrev p__law_turned : List Str := ["lot", "by", "many"]
theorem sc__law_turned : FnScope n__law_turned p__law_turned (defScope s__law_turned) := ⟨rfl, rfl, rfl, by decide +kernel, rfl, by decide +kernel, by decide +kernel⟩
abbrev s__law_is_right : Stmt := top 35
abbrev n__law_is_right : List Str := ["hand", "takings", "needs", "fills", "ahead", "never", "great", "more", "due", "on", "at", "many", "whole", "by", "often", "sums", "one", "need"]
abbrev p__law_is_right : List Str := ["hand"]
theorem sc__law_is_right : FnScope n__law_is_right p__law_is_right (defScope s__law_is_right) := ⟨rfl, rfl, rfl, by decide +kernel, rfl, by decide +kernel, by decide +kernel⟩
abbrev s_law : Stmt := top 36
abbrev n_law : List Str := ["script", "hand", "lap"]
abbrev p_law : List Str := ["script"]
theorem sc_law : FnScope n_law p_law (defScope s_law) := ⟨rfl, rfl, rfl, by decide +kernel, rfl, by decide +kernel, by decide +kernel⟩
/-- a def as it stands -/
structure Fn (K : PySem.W.Frag) (mg : Str → Option Value) (x : Str) (st : Stmt) (ps : List Str) (a : Addr) (fd : FuncData) : Prop where
  mg : mg x = some (.ref a)
  F : L2.Fun K x x st a fd
  b : Binds K fd ps []
structure Txt (K : PySem.W.Frag) (mg : Str → Option Value) (A : Nat → Addr) (D : Nat → FuncData) : Prop where
  f_is_integer : Fn K mg "is_integer" s_is_integer p_is_integer (A 0) (D 0)
  f_is_within : Fn K mg "is_within" s_is_within p_is_within (A 1) (D 1)
  f_is_sized : Fn K mg "is_sized" s_is_sized p_is_sized (A 2) (D 2)
  f_are_within : Fn K mg "are_within" s_are_within p_are_within (A 3) (D 3)
  f_check_takings : Fn K mg "check_takings" s_check_takings p_check_takings (A 4) (D 4)
  f_sums_round : Fn K mg "sums_round" s_sums_round p_sums_round (A 5) (D 5)
  f_raw_begins : Fn K mg "raw_begins" s_raw_begins p_raw_begins (A 6) (D 6)
  f_begins_ahead : Fn K mg "begins_ahead" s_begins_ahead p_begins_ahead (A 7) (D 7)
  f_first_behind : Fn K mg "first_behind" s_first_behind p_first_behind (A 8) (D 8)
  f_ahead_told : Fn K mg "ahead_told" s_ahead_told p_ahead_told (A 9) (D 9)
  f_check_fills : Fn K mg "check_fills" s_check_fills p_check_fills (A 10) (D 10)
  f_raw_stations : Fn K mg "raw_stations" s_raw_stations p_raw_stations (A 11) (D 11)
  f_stations_round : Fn K mg "stations_round" s_stations_round p_stations_round (A 12) (D 12)
  f_station_told : Fn K mg "station_told" s_station_told p_station_told (A 13) (D 13)
  f__law_hand : Fn K mg "_law_hand" s__law_hand p__law_hand (A 14) (D 14)
  f__law_draw : Fn K mg "_law_draw" s__law_draw p__law_draw (A 15) (D 15)
  f__law_any : Fn K mg "_law_any" s__law_any p__law_any (A 16) (D 16)
  f__law_sums : Fn K mg "_law_sums" s__law_sums p__law_sums (A 17) (D 17)
  f__law_takings : Fn K mg "_law_takings" s__law_takings p__law_takings (A 18) (D 18)
  f__law_turned : Fn K mg "_law_turned" s__law_turned p__law_turned (A 19) (D 19)
  f__law_is_right : Fn K mg "_law_is_right" s__law_is_right p__law_is_right (A 20) (D 20)
  f_law : Fn K mg "law" s_law p_law (A 21) (D 21)
  b_abs : mg "abs" = none
  b_all : mg "all" = none
  b_bool : mg "bool" = none
  b_int : mg "int" = none
  b_isinstance : mg "isinstance" = none
  b_len : mg "len" = none
  b_max : mg "max" = none
  b_min : mg "min" = none
  b_range : mg "range" = none
  b_sorted : mg "sorted" = none
  b_sum : mg "sum" = none
  b_tuple : mg "tuple" = none
  b_zip : mg "zip" = none
  c_FALLS_SHORT : ∃ t, mg "FALLS_SHORT" = some (.str "short" t)
  c_FROM_BEGIN : ∃ t, mg "FROM_BEGIN" = some (.str "begin" t)
  c_GOES_FROM : ∃ t, mg "GOES_FROM" = some (.str "from" t)
  c_LEAST_TAKING : ∃ t, mg "LEAST_TAKING" = some (.int (-9) t)
  c_MOST_FILL : ∃ t, mg "MOST_FILL" = some (.int (1000) t)
  c_MOST_STATIONS : ∃ t, mg "MOST_STATIONS" = some (.int (12) t)
  c_MOST_TAKINGS : ∃ t, mg "MOST_TAKINGS" = some (.int (24) t)
def y_is_integer : F1 Out := (sRet (eAndV (e1 (gIsi "int") (eVar 0)) (eNotV (e1 (gIsi "bool") (eVar 0)))))
def d_is_integer : List PyData → W → Option (PyData × W) := fnD 1 y_is_integer
section
variable {P : Program} {w : World} {K : PySem.W.Frag} {mg : Str → Option Value} {base : Heap} {A : Nat → Addr} {D : Nat → FuncData}
theorem ok_is_integer (T : Txt K mg A D) : FnOk P w K mg base CX0 1 (A 0) (D 0) p_is_integer (spD K 1 d_is_integer) :=
  T.f_is_integer.F.ok sc_is_integer (fun vs H Q E h => spD.len h) fun cdv Ar outer s H vs Q E hr h => by
    have hu := hr.units
    exact ⟨_, (pss_one (ps_ret (pe_and (pe_callB call_isi (by rfl) T.b_isinstance bb_isinstance (pa_cons (pv 0) (pa_cons (pe_bltn (v := .ty "int") (by rfl) T.b_int bb_int rfl) pa_nil))) (pe_one (pe_not (pe_callB call_isi (by rfl) T.b_isinstance bb_isinstance (pa_cons (pv 0) (pa_cons (pe_bltn (v := .ty "bool") (by rfl) T.b_bool bb_bool rfl) pa_nil)))))))),
    body_ok (N := n_is_integer) (f := y_is_integer) ((sn_ret (SndE.bo (sn_andV (sn_isi "int" (sn_var 0)) (sn_notV (sn_isi "bool" (sn_var 0))))))) h⟩
end
def y_is_within : F1 Out := (sRet (eAndV (eCall d_is_integer (eA (eVar 0) eA0)) (eChn pLe pLe (eVar 1) (eVar 0) (eVar 2))))
def d_is_within : List PyData → W → Option (PyData × W) := fnD 3 y_is_within
section
variable {P : Program} {w : World} {K : PySem.W.Frag} {mg : Str → Option Value} {base : Heap} {A : Nat → Addr} {D : Nat → FuncData}
theorem ok_is_within (T : Txt K mg A D) : FnOk P w K mg base CX0 2 (A 1) (D 1) p_is_within (spD K 3 d_is_within) :=
  T.f_is_within.F.ok sc_is_within (fun vs H Q E h => spD.len h) fun cdv Ar outer s H vs Q E hr h => by
    have hu := hr.units
    exact ⟨_, (pss_one (ps_ret (pe_and (pe_call (ok_is_integer T) (hr.mono (by decide)) rfl T.f_is_integer.mg T.f_is_integer.F.kp T.f_is_integer.b .nil pass0 (pa_cons (pv 0) pa_nil)) (pe_one (pe_chain op_le op_le (pv 1) (pv 0) (pv 2)))))),
    body_ok (N := n_is_within) (f := y_is_within) ((sn_ret (SndE.bo (sn_andV (sn_call (sn_a (sn_var 0) sn_a0)) (sn_chn (sn_var 1) (sn_var 0) (sn_var 2)))))) h⟩
end
def y_is_sized : F1 Out := (sRet (eAndV (e1 (gIsi "tuple") (eVar 0)) (eChn pLe pLe (eVar 1) (e1 gLen (eVar 0)) (eVar 2))))
def d_is_sized : List PyData → W → Option (PyData × W) := fnD 3 y_is_sized
section
variable {P : Program} {w : World} {K : PySem.W.Frag} {mg : Str → Option Value} {base : Heap} {A : Nat → Addr} {D : Nat → FuncData}
theorem ok_is_sized (T : Txt K mg A D) : FnOk P w K mg base CX0 1 (A 2) (D 2) p_is_sized (spD K 3 d_is_sized) :=
  T.f_is_sized.F.ok sc_is_sized (fun vs H Q E h => spD.len h) fun cdv Ar outer s H vs Q E hr h => by
    have hu := hr.units
    exact ⟨_, (pss_one (ps_ret (pe_and (pe_callB call_isi (by rfl) T.b_isinstance bb_isinstance (pa_cons (pv 0) (pa_cons (pe_bltn (v := .ty "tuple") (by rfl) T.b_tuple bb_tuple rfl) pa_nil))) (pe_one (pe_chain op_le op_le (pv 1) (pe_callB call_len (by rfl) T.b_len bb_len (pa_cons (pv 0) pa_nil)) (pv 2)))))),
    body_ok (N := n_is_sized) (f := y_is_sized) ((sn_ret (SndE.bo (sn_andV (sn_isi "tuple" (sn_var 0)) (sn_chn (sn_var 1) (sn_cb1 o_len (sn_var 0)) (sn_var 2)))))) h⟩
end
def y_are_within : F1 Out := (sRet (eAndV (e1 (gIsi "tuple") (eVar 0)) (e1 gAll (eLc [3] (iItems (eVar 0)) (gSet 3) bYes (eCall d_is_within (eA (eVar 3) (eA (eVar 1) (eA (eVar 2) eA0))))))))
def d_are_within : List PyData → W → Option (PyData × W) := fnD 4 y_are_within
section
variable {P : Program} {w : World} {K : PySem.W.Frag} {mg : Str → Option Value} {base : Heap} {A : Nat → Addr} {D : Nat → FuncData}
theorem ok_are_within (T : Txt K mg A D) : FnOk P w K mg base CX0 3 (A 3) (D 3) p_are_within (spD K 3 d_are_within) :=
  T.f_are_within.F.ok sc_are_within (fun vs H Q E h => spD.len h) fun cdv Ar outer s H vs Q E hr h => by
    have hu := hr.units
    exact ⟨_, (pss_one (ps_ret (pe_and (pe_callB call_isi (by rfl) T.b_isinstance bb_isinstance (pa_cons (pv 0) (pa_cons (pe_bltn (v := .ty "tuple") (by rfl) T.b_tuple bb_tuple rfl) pa_nil))) (pe_one (pe_callB (cr_all rfl) (by rfl) T.b_all bb_all (pa_cons (pe_lc (own := [("one", 3)]) (tt := tYes) rfl sc_are_within.nd (pi_seq (pv 0)) (blkOk_by (own := [("one", 3)]) (N := n_are_within) (sc := defScope s_are_within) (by decide +kernel)) (fun _ _ _ _ _ => (pg_name (i := 3) sc_are_within.nd rfl (by first | exact Or.inl rfl | exact Or.inr rfl))) (fun _ _ _ _ _ => pts_nil) (fun _ _ _ _ _ => (pe_call (ok_is_within T) (hr.mono (by decide)) rfl T.f_is_within.mg T.f_is_within.F.kp T.f_is_within.b .nil pass0 (pa_cons (pv 3) (pa_cons (pv 1) (pa_cons (pv 2) pa_nil)))))) pa_nil)))))),
    body_ok (N := n_are_within) (f := y_are_within) ((sn_ret (SndE.bo (sn_andV (sn_isi "tuple" (sn_var 0)) (sn_cb1 o_all (sn_lc (vs := [3]) (si_seqB (sn_var 0)) (sg_name 3) sn_yes (sn_call (sn_a (sn_var 3) (sn_a (sn_var 1) (sn_a (sn_var 2) sn_a0)))))))))) h⟩
end
def y_check_takings : F1 Out := (sIf (bOr (bNot (bV (eCall d_is_sized (eA (eVar 0) (eA (eC (.int 1)) (eA (eC (.int (24))) eA0)))))) (bNot (bV (eCall d_are_within (eA (eVar 0) (eA (eC (.int (-9))) (eA (eC (.int 1)) eA0))))))) sNever sNext)
def d_check_takings : List PyData → W → Option (PyData × W) := fnD 1 y_check_takings
section
variable {P : Program} {w : World} {K : PySem.W.Frag} {mg : Str → Option Value} {base : Heap} {A : Nat → Addr} {D : Nat → FuncData}
theorem ok_check_takings (T : Txt K mg A D) : FnOk P w K mg base CX0 4 (A 4) (D 4) p_check_takings (spD K 1 d_check_takings) :=
  T.f_check_takings.F.ok sc_check_takings (fun vs H Q E h => spD.len h) fun cdv Ar outer s H vs Q E hr h => by
    have hu := hr.units
    exact ⟨_, (pss_one (ps_if (PW.pt (pw_or (pt_not (pt_val (pe_call (ok_is_sized T) (hr.mono (by decide)) rfl T.f_is_sized.mg T.f_is_sized.F.kp T.f_is_sized.b .nil pass0 (pa_cons (pv 0) (pa_cons pe_int (pa_cons (pe_cI rfl T.c_MOST_TAKINGS) pa_nil)))))) (pw_or1 (pt_not (pt_val (pe_call (ok_are_within T) (hr.mono (by decide)) rfl T.f_are_within.mg T.f_are_within.F.kp T.f_are_within.b .nil pass0 (pa_cons (pv 0) (pa_cons (pe_cI rfl T.c_LEAST_TAKING) (pa_cons pe_int pa_nil))))))))) (pss_one ps_never) pss_nil)),
    body_ok (N := n_check_takings) (f := y_check_takings) ((sn_if (sn_or (sn_not (sn_tB (sn_call (sn_a (sn_var 0) (sn_a (sn_int 1) (sn_a (sn_int (24)) sn_a0)))))) (sn_not (sn_tB (sn_call (sn_a (sn_var 0) (sn_a (sn_int (-9)) (sn_a (sn_int 1) sn_a0))))))) sn_never sn_next)) h⟩
end
def y_sums_round : F1 Out := (sSeq (sPar 3 4 true false (eA (eLst eA0) (eA (eC (.int 0)) eA0))) 
    (sSeq (sFor (iItems (e2 gAdd (eSl gSl (eVar 0) (oSome (eVar 1)) oNone) (eSl gSl (eVar 0) oNone (oSome (eVar 1))))) (gSet 2) 
    (sSeq (sAug 4 gAddI (eVar 2)) 
    (sApp 3 (eVar 4)))) 
    (sRet (eBor 3))))
def d_sums_round : List PyData → W → Option (PyData × W) := fnD 5 y_sums_round
section
variable {P : Program} {w : World} {K : PySem.W.Frag} {mg : Str → Option Value} {base : Heap} {A : Nat → Addr} {D : Nat → FuncData}
theorem ok_sums_round (T : Txt K mg A D) : FnOk P w K mg base CX0 1 (A 5) (D 5) p_sums_round (spD K 2 d_sums_round) :=
  T.f_sums_round.F.ok sc_sums_round (fun vs H Q E h => spD.len h) fun cdv Ar outer s H vs Q E hr h => by
    have hu := hr.units
    exact ⟨_, (pss_cons (ps_par (i := 3) (j := 4) (by rfl) sc_sums_round.nd rfl rfl (by decide) rfl rfl (pa_cons (pe_lst pa_nil) (pa_cons pe_int pa_nil)) (by rfl))
    (pss_cons (ps_for PassesOwn.never rfl (pi_seq (pe_op opAdd (pe_slice slX (pv 0) (po_some (pv 1)) po_none) (pe_slice slX (pv 0) po_none (po_some (pv 1))))) (pg_name (i := 2) sc_sums_round.nd rfl (by first | exact Or.inl rfl | exact Or.inr rfl))
    (pss_cons (ps_aug (i := 4) sc_sums_round.nd rfl (by first | exact Or.inl rfl | exact Or.inr rfl) (pv 2) ip_add)
    (pss_one (ps_expr (pe_bm PySem.F.plainAttrs_list PySem.F.slot_list_append PySem.F.type_list_append mt_append (pv 3) (pa_cons (pv 4) pa_nil))))))
    (pss_one (ps_ret (pv 3))))),
    body_ok (N := n_sums_round) (f := y_sums_round) ((sn_seq (sn_par true false (sn_a (sn_lst sn_a0) (sn_a (sn_int 0) sn_a0))) 
    (sn_seq (sn_for (si_seqS (sn_op o_add (sn_sl o_sl (sn_var 0) (so_some (sn_var 1)) so_none) (sn_sl o_sl (sn_var 0) so_none (so_some (sn_var 1))))) (sg_name 2) 
    (sn_seq (sn_aug 4 o_addI (sn_var 2)) 
    (sn_app 3 (sn_var 4)))) 
    (sn_ret (sn_bor 3))))) h⟩
end
def y_raw_begins : F1 Out := (sRet (eLc [1] (iRange1 (e1 gLen (eVar 0))) (gSet 1) (bV (e2 gGt (e1 gMin (eCall d_sums_round (eA (eVar 0) (eA (eVar 1) eA0)))) (eC (.int 0)))) (eVar 1)))
def d_raw_begins : List PyData → W → Option (PyData × W) := fnD 2 y_raw_begins
section
variable {P : Program} {w : World} {K : PySem.W.Frag} {mg : Str → Option Value} {base : Heap} {A : Nat → Addr} {D : Nat → FuncData}
theorem ok_raw_begins (T : Txt K mg A D) : FnOk P w K mg base CX0 2 (A 6) (D 6) p_raw_begins (spD K 1 d_raw_begins) :=
  T.f_raw_begins.F.ok sc_raw_begins (fun vs H Q E h => spD.len h) fun cdv Ar outer s H vs Q E hr h => by
    have hu := hr.units
    exact ⟨_, (pss_one (ps_ret (pe_lc (own := [("begin", 1)]) rfl sc_raw_begins.nd (pi_range1 rfl T.b_range (pa_cons (pe_callB call_len (by rfl) T.b_len bb_len (pa_cons (pv 0) pa_nil)) pa_nil)) (blkOk_by (own := [("begin", 1)]) (N := n_raw_begins) (sc := defScope s_raw_begins) (by decide +kernel)) (fun _ _ _ _ _ => (pg_name (i := 1) sc_raw_begins.nd rfl (by first | exact Or.inl rfl | exact Or.inr rfl))) (fun _ _ _ _ _ => (pts_one (pt_cmpR op_gt (pe_callB (clMin rfl hr.u) (by rfl) T.b_min bb_min (pa_cons (pe_call (ok_sums_round T) (hr.mono (by decide)) rfl T.f_sums_round.mg T.f_sums_round.F.kp T.f_sums_round.b .nil pass0 (pa_cons (pv 0) (pa_cons (pv 1) pa_nil))) pa_nil)) pe_int (nomark _)))) (fun _ _ _ _ _ => (pv 1))))),
    body_ok (N := n_raw_begins) (f := y_raw_begins) ((sn_ret (SndE.bo (sn_lc (vs := [1]) (SndI.bo (si_range1 (sn_cb1 o_len (sn_var 0)))) (sg_name 1) (sn_tst (sn_op o_cmp (sn_cb1 o_pick (sn_call (sn_a (sn_var 0) (sn_a (sn_var 1) sn_a0)))) (sn_int 0))) (sn_var 1))))) h⟩
end
def y_begins_ahead : F1 Out := (sSeq (sDrop (eCall d_check_takings (eA (eVar 0) eA0))) 
    (sRet (e1 gTuple (eCall d_raw_begins (eA (eVar 0) eA0)))))
def d_begins_ahead : List PyData → W → Option (PyData × W) := fnD 1 y_begins_ahead
section
variable {P : Program} {w : World} {K : PySem.W.Frag} {mg : Str → Option Value} {base : Heap} {A : Nat → Addr} {D : Nat → FuncData}
theorem ok_begins_ahead (T : Txt K mg A D) : FnOk P w K mg base CX0 5 (A 7) (D 7) p_begins_ahead (spD K 1 d_begins_ahead) :=
  T.f_begins_ahead.F.ok sc_begins_ahead (fun vs H Q E h => spD.len h) fun cdv Ar outer s H vs Q E hr h => by
    have hu := hr.units
    exact ⟨_, (pss_cons (ps_expr (pe_call (ok_check_takings T) (hr.mono (by decide)) rfl T.f_check_takings.mg T.f_check_takings.F.kp T.f_check_takings.b .nil pass0 (pa_cons (pv 0) pa_nil)))
    (pss_one (ps_ret (pe_callTy call_tuple_of (by rfl) T.b_tuple bb_tuple (pa_cons (pe_call (ok_raw_begins T) (hr.mono (by decide)) rfl T.f_raw_begins.mg T.f_raw_begins.F.kp T.f_raw_begins.b .nil pass0 (pa_cons (pv 0) pa_nil)) pa_nil))))),
    body_ok (N := n_begins_ahead) (f := y_begins_ahead) ((sn_seq (sn_drop (sn_call (sn_a (sn_var 0) sn_a0))) 
    (sn_ret (SndE.bo (sn_cb1 o_tuple (sn_call (sn_a (sn_var 0) sn_a0))))))) h⟩
end
-- BY HAND first_behind (A 8) (D 8)
def y_ahead_told : F1 Out := (sSeq (sDrop (eCall d_check_takings (eA (eVar 0) eA0))) 
    (sSeq (sSet 1 (eCall d_raw_begins (eA (eVar 0) eA0))) 
    (sSeq (sIf (bV (e2 gGt (e1 gLen (eVar 1)) (eC (.int 0)))) (sRet (eTup (eA (eC (.str "begin")) (eA (e2 gIx (eVar 1) (eC (.int 0))) eA0)))) sNext) 
    sNever)))
def d_ahead_told : List PyData → W → Option (PyData × W) := fnD 3 y_ahead_told
section
variable {P : Program} {w : World} {K : PySem.W.Frag} {mg : Str → Option Value} {base : Heap} {A : Nat → Addr} {D : Nat → FuncData}
theorem ok_ahead_told (T : Txt K mg A D) : FnOk P w K mg base CX0 5 (A 9) (D 9) p_ahead_told (spD K 1 d_ahead_told) :=
  T.f_ahead_told.F.ok sc_ahead_told (fun vs H Q E h => spD.len h) fun cdv Ar outer s H vs Q E hr h => by
    have hu := hr.units
    exact ⟨_, (pss_cons (ps_expr (pe_call (ok_check_takings T) (hr.mono (by decide)) rfl T.f_check_takings.mg T.f_check_takings.F.kp T.f_check_takings.b .nil pass0 (pa_cons (pv 0) pa_nil)))
    (pss_cons (ps_set (i := 1) sc_ahead_told.nd rfl (by first | exact Or.inl rfl | exact Or.inr rfl) (pe_call (ok_raw_begins T) (hr.mono (by decide)) rfl T.f_raw_begins.mg T.f_raw_begins.F.kp T.f_raw_begins.b .nil pass0 (pa_cons (pv 0) pa_nil)))
    (pss_cons (ps_if (pt_cmpR op_gt (pe_callB call_len (by rfl) T.b_len bb_len (pa_cons (pv 1) pa_nil)) pe_int (nomark _)) (pss_one (ps_ret (pe_tup (pa_cons (pe_cS rfl T.c_FROM_BEGIN) (pa_cons (pe_ix ix_seq (pv 1) pe_int (fun _ _ => rfl)) pa_nil))))) pss_nil)
    (pss_one ps_never)))),
    body_ok (N := n_ahead_told) (f := y_ahead_told) ((sn_seq (sn_drop (sn_call (sn_a (sn_var 0) sn_a0))) 
    (sn_seq (sn_set 1 (sn_call (sn_a (sn_var 0) sn_a0))) 
    (sn_seq (sn_if (sn_tst (sn_op o_cmp (sn_cb1 o_len (sn_var 1)) (sn_int 0))) (sn_ret (SndE.bo (sn_tup (sn_a (sn_str _) (sn_a (sn_op o_ix (sn_var 1) (sn_int 0)) sn_a0))))) sn_next) 
    sn_never)))) h⟩
end
def y_check_fills : F1 Out := (sSeq (sFor (iItems (eTup (eA (eVar 0) (eA (eVar 1) eA0)))) (gSet 2) 
    (sIf (bOr (bNot (bV (eCall d_is_sized (eA (eVar 2) (eA (eC (.int 1)) (eA (eC (.int (12))) eA0)))))) (bNot (bV (eCall d_are_within (eA (eVar 2) (eA (eC (.int 0)) (eA (eC (.int (1000))) eA0))))))) sNever sNext)) 
    (sIf (bV (e2 gNe (e1 gLen (eVar 0)) (e1 gLen (eVar 1)))) sNever sNext))
def d_check_fills : List PyData → W → Option (PyData × W) := fnD 3 y_check_fills
section
variable {P : Program} {w : World} {K : PySem.W.Frag} {mg : Str → Option Value} {base : Heap} {A : Nat → Addr} {D : Nat → FuncData}
theorem ok_check_fills (T : Txt K mg A D) : FnOk P w K mg base CX0 4 (A 10) (D 10) p_check_fills (spD K 2 d_check_fills) :=
  T.f_check_fills.F.ok sc_check_fills (fun vs H Q E h => spD.len h) fun cdv Ar outer s H vs Q E hr h => by
    have hu := hr.units
    exact ⟨_, (pss_cons (ps_for PassesOwn.never rfl (pi_seq (pe_tup (pa_cons (pv 0) (pa_cons (pv 1) pa_nil)))) (pg_name (i := 2) sc_check_fills.nd rfl (by first | exact Or.inl rfl | exact Or.inr rfl))
    (pss_one (ps_if (PW.pt (pw_or (pt_not (pt_val (pe_call (ok_is_sized T) (hr.mono (by decide)) rfl T.f_is_sized.mg T.f_is_sized.F.kp T.f_is_sized.b .nil pass0 (pa_cons (pv 2) (pa_cons pe_int (pa_cons (pe_cI rfl T.c_MOST_STATIONS) pa_nil)))))) (pw_or1 (pt_not (pt_val (pe_call (ok_are_within T) (hr.mono (by decide)) rfl T.f_are_within.mg T.f_are_within.F.kp T.f_are_within.b .nil pass0 (pa_cons (pv 2) (pa_cons pe_int (pa_cons (pe_cI rfl T.c_MOST_FILL) pa_nil))))))))) (pss_one ps_never) pss_nil)))
    (pss_one (ps_if (pt_cmpR (opNe hu) (pe_callB call_len (by rfl) T.b_len bb_len (pa_cons (pv 0) pa_nil)) (pe_callB call_len (by rfl) T.b_len bb_len (pa_cons (pv 1) pa_nil)) (nomark _)) (pss_one ps_never) pss_nil))),
    body_ok (N := n_check_fills) (f := y_check_fills) ((sn_seq (sn_for (si_seqS (sn_tup (sn_a (sn_var 0) (sn_a (sn_var 1) sn_a0)))) (sg_name 2) 
    (sn_if (sn_or (sn_not (sn_tB (sn_call (sn_a (sn_var 2) (sn_a (sn_int 1) (sn_a (sn_int (12)) sn_a0)))))) (sn_not (sn_tB (sn_call (sn_a (sn_var 2) (sn_a (sn_int 0) (sn_a (sn_int (1000)) sn_a0))))))) sn_never sn_next)) 
    (sn_if (sn_tst (sn_op o_ne (sn_cb1 o_len (sn_var 0)) (sn_cb1 o_len (sn_var 1)))) sn_never sn_next))) h⟩
end
def y_raw_stations : F1 Out := (sSeq (sSet 2 (e1 gTuple (eLc [4, 5] (iZipD (eVar 0) (eVar 1)) (gTupD 2 (gsCons (gSet 4) (gsCons (gSet 5) gsNil))) bYes (e2 gSub (eVar 4) (eVar 5))))) 
    (sRet (eLc [3] (iRange1 (e1 gLen (eVar 2))) (gSet 3) (bV (e2 gGe (e1 gMin (eCall d_sums_round (eA (eVar 2) (eA (eVar 3) eA0)))) (eC (.int 0)))) (eVar 3))))
def d_raw_stations : List PyData → W → Option (PyData × W) := fnD 6 y_raw_stations
section
variable {P : Program} {w : World} {K : PySem.W.Frag} {mg : Str → Option Value} {base : Heap} {A : Nat → Addr} {D : Nat → FuncData}
theorem ok_raw_stations (T : Txt K mg A D) : FnOk P w K mg base CX0 2 (A 11) (D 11) p_raw_stations (spD K 2 d_raw_stations) :=
  T.f_raw_stations.F.ok sc_raw_stations (fun vs H Q E h => spD.len h) fun cdv Ar outer s H vs Q E hr h => by
    have hu := hr.units
    exact ⟨_, (pss_cons (ps_set (i := 2) sc_raw_stations.nd rfl (by first | exact Or.inl rfl | exact Or.inr rfl) (pe_callTy call_tuple_of (by rfl) T.b_tuple bb_tuple (pa_cons (pe_lc (own := [("fill", 4), ("need", 5)]) (tt := tYes) rfl sc_raw_stations.nd (RZ.pi_zipA rfl T.b_zip (pa_cons (pv 0) (pa_cons (pv 1) pa_nil))) (blkOk_by (own := [("fill", 4), ("need", 5)]) (N := n_raw_stations) (sc := defScope s_raw_stations) (by decide +kernel)) (fun _ _ _ _ _ => (pg_tup (by rfl) (pgs_cons (pg_name (i := 4) sc_raw_stations.nd rfl (by first | exact Or.inl rfl | exact Or.inr rfl)) (pgs_cons (pg_name (i := 5) sc_raw_stations.nd rfl (by first | exact Or.inl rfl | exact Or.inr rfl)) pgs_nil)))) (fun _ _ _ _ _ => pts_nil) (fun _ _ _ _ _ => (pe_op op_sub (pv 4) (pv 5)))) pa_nil)))
    (pss_one (ps_ret (pe_lc (own := [("begin", 3)]) rfl sc_raw_stations.nd (pi_range1 rfl T.b_range (pa_cons (pe_callB call_len (by rfl) T.b_len bb_len (pa_cons (pv 2) pa_nil)) pa_nil)) (blkOk_by (own := [("begin", 3)]) (N := n_raw_stations) (sc := defScope s_raw_stations) (by decide +kernel)) (fun _ _ _ _ _ => (pg_name (i := 3) sc_raw_stations.nd rfl (by first | exact Or.inl rfl | exact Or.inr rfl))) (fun _ _ _ _ _ => (pts_one (pt_cmpR op_ge (pe_callB (clMin rfl hr.u) (by rfl) T.b_min bb_min (pa_cons (pe_call (ok_sums_round T) (hr.mono (by decide)) rfl T.f_sums_round.mg T.f_sums_round.F.kp T.f_sums_round.b .nil pass0 (pa_cons (pv 2) (pa_cons (pv 3) pa_nil))) pa_nil)) pe_int (nomark _)))) (fun _ _ _ _ _ => (pv 3)))))),
    body_ok (N := n_raw_stations) (f := y_raw_stations) ((sn_seq (sn_set 2 (sn_cb1 o_tuple (sn_lc (vs := [4, 5]) (si_zipB (sn_var 0) (sn_var 1)) (sg_tup (n := 2) (sgs_cons (sg_name 4) (sgs_cons (sg_name 5) sgs_nil))) sn_yes (sn_op o_sub (sn_var 4) (sn_var 5))))) 
    (sn_ret (SndE.bo (sn_lc (vs := [3]) (SndI.bo (si_range1 (sn_cb1 o_len (sn_var 2)))) (sg_name 3) (sn_tst (sn_op o_cmp (sn_cb1 o_pick (sn_call (sn_a (sn_var 2) (sn_a (sn_var 3) sn_a0)))) (sn_int 0))) (sn_var 3)))))) h⟩
end
def y_stations_round : F1 Out := (sSeq (sDrop (eCall d_check_fills (eA (eVar 0) (eA (eVar 1) eA0)))) 
    (sRet (e1 gTuple (eCall d_raw_stations (eA (eVar 0) (eA (eVar 1) eA0))))))
def d_stations_round : List PyData → W → Option (PyData × W) := fnD 2 y_stations_round
section
variable {P : Program} {w : World} {K : PySem.W.Frag} {mg : Str → Option Value} {base : Heap} {A : Nat → Addr} {D : Nat → FuncData}
theorem ok_stations_round (T : Txt K mg A D) : FnOk P w K mg base CX0 5 (A 12) (D 12) p_stations_round (spD K 2 d_stations_round) :=
  T.f_stations_round.F.ok sc_stations_round (fun vs H Q E h => spD.len h) fun cdv Ar outer s H vs Q E hr h => by
    have hu := hr.units
    exact ⟨_, (pss_cons (ps_expr (pe_call (ok_check_fills T) (hr.mono (by decide)) rfl T.f_check_fills.mg T.f_check_fills.F.kp T.f_check_fills.b .nil pass0 (pa_cons (pv 0) (pa_cons (pv 1) pa_nil))))
    (pss_one (ps_ret (pe_callTy call_tuple_of (by rfl) T.b_tuple bb_tuple (pa_cons (pe_call (ok_raw_stations T) (hr.mono (by decide)) rfl T.f_raw_stations.mg T.f_raw_stations.F.kp T.f_raw_stations.b .nil pass0 (pa_cons (pv 0) (pa_cons (pv 1) pa_nil))) pa_nil))))),
    body_ok (N := n_stations_round) (f := y_stations_round) ((sn_seq (sn_drop (sn_call (sn_a (sn_var 0) (sn_a (sn_var 1) sn_a0)))) 
    (sn_ret (SndE.bo (sn_cb1 o_tuple (sn_call (sn_a (sn_var 0) (sn_a (sn_var 1) sn_a0)))))))) h⟩
end
def y_station_told : F1 Out := (sSeq (sDrop (eCall d_check_fills (eA (eVar 0) (eA (eVar 1) eA0)))) 
    (sSeq (sSet 2 (eCall d_raw_stations (eA (eVar 0) (eA (eVar 1) eA0)))) 
    (sRet (eIf (bV (e2 gGt (e1 gLen (eVar 2)) (eC (.int 0)))) (eTup (eA (eC (.str "from")) (eA (e2 gIx (eVar 2) (eC (.int 0))) eA0))) (eTup (eA (eC (.str "short")) (eA (e2 gSub (e1 gSum (eVar 1)) (e1 gSum (eVar 0))) eA0)))))))
def d_station_told : List PyData → W → Option (PyData × W) := fnD 3 y_station_told
section
variable {P : Program} {w : World} {K : PySem.W.Frag} {mg : Str → Option Value} {base : Heap} {A : Nat → Addr} {D : Nat → FuncData}
theorem ok_station_told (T : Txt K mg A D) : FnOk P w K mg base CX0 5 (A 13) (D 13) p_station_told (spD K 2 d_station_told) :=
  T.f_station_told.F.ok sc_station_told (fun vs H Q E h => spD.len h) fun cdv Ar outer s H vs Q E hr h => by
    have hu := hr.units
    exact ⟨_, (pss_cons (ps_expr (pe_call (ok_check_fills T) (hr.mono (by decide)) rfl T.f_check_fills.mg T.f_check_fills.F.kp T.f_check_fills.b .nil pass0 (pa_cons (pv 0) (pa_cons (pv 1) pa_nil))))
    (pss_cons (ps_set (i := 2) sc_station_told.nd rfl (by first | exact Or.inl rfl | exact Or.inr rfl) (pe_call (ok_raw_stations T) (hr.mono (by decide)) rfl T.f_raw_stations.mg T.f_raw_stations.F.kp T.f_raw_stations.b .nil pass0 (pa_cons (pv 0) (pa_cons (pv 1) pa_nil))))
    (pss_one (ps_ret (pe_ifExp (pt_cmpR op_gt (pe_callB call_len (by rfl) T.b_len bb_len (pa_cons (pv 2) pa_nil)) pe_int (nomark _)) (pe_tup (pa_cons (pe_cS rfl T.c_GOES_FROM) (pa_cons (pe_ix ix_seq (pv 2) pe_int (fun _ _ => rfl)) pa_nil))) (pe_tup (pa_cons (pe_cS rfl T.c_FALLS_SHORT) (pa_cons (pe_op op_sub (pe_callB (clSum rfl) (by rfl) T.b_sum bb_sum (pa_cons (pv 1) pa_nil)) (pe_callB (clSum rfl) (by rfl) T.b_sum bb_sum (pa_cons (pv 0) pa_nil))) pa_nil)))))))),
    body_ok (N := n_station_told) (f := y_station_told) ((sn_seq (sn_drop (sn_call (sn_a (sn_var 0) (sn_a (sn_var 1) sn_a0)))) 
    (sn_seq (sn_set 2 (sn_call (sn_a (sn_var 0) (sn_a (sn_var 1) sn_a0)))) 
    (sn_ret (SndE.bo (sn_ifx (sn_tst (sn_op o_cmp (sn_cb1 o_len (sn_var 2)) (sn_int 0))) (sn_tup (sn_a (sn_str _) (sn_a (sn_op o_ix (sn_var 2) (sn_int 0)) sn_a0))) (sn_tup (sn_a (sn_str _) (sn_a (sn_op o_sub (sn_cb1 o_sum (sn_var 1)) (sn_cb1 o_sum (sn_var 0))) sn_a0))))))))) h⟩
end
def cf (z : Int) : Int := (if z < 0 then -z else z)
def hw : List Int → W := hwOf cf 63 96401 7
section
variable {P : Program} {w : World} {K : PySem.W.Frag} {mg : Str → Option Value} {base : Heap} {A : Nat → Addr} {D : Nat → FuncData}
theorem ok__law_hand (T : Txt K mg A D) : FnOk P w K mg base CX0 1 (A 14) (D 14) p__law_hand (spHand K hw) :=
  T.f__law_hand.F.ok sc__law_hand (fun vs H Q E h => by obtain ⟨a, ns, rfl, _⟩ := h; rfl) fun cdv Ar outer s H vs Q E hr h =>
    ⟨_, pss_cons (ps_setLc (i := 1) (own := [("cell", 2)]) (tt := tYes) rfl sc__law_hand.nd rfl rfl (sw_true rfl rfl rfl (by decide +kernel)) (pi_list (pe_slice sl_list (pv 0) po_none (po_some pe_int))) (blkOk_by (own := [("cell", 2)]) (N := n__law_hand) (sc := defScope s__law_hand) (by decide +kernel)) (fun _ _ _ _ _ => (pg_name (i := 2) sc__law_hand.nd rfl (by first | exact Or.inl rfl | exact Or.inr rfl))) (fun _ _ _ _ _ => pts_nil) (fun _ _ _ _ _ => (pe_callB call_abs (by rfl) T.b_abs bb_abs (pa_cons (pe_callTy call_int1 (by rfl) T.b_int bb_int (pa_cons (pv 2) pa_nil)) pa_nil))))
      (pss_one (ps_ret (pe_lst (pa_cons (pv 1) (pa_cons pe_int (pa_cons pe_int (pa_cons (pe_op op_add pe_int (pe_op op_mul pe_int (pe_callB call_len_seq (by rfl) T.b_len bb_len (pa_cons (pv 1) pa_nil)))) (pa_cons pe_int pa_nil)))))))),
      hand_read (f := cf) (N := 63) (C := 96401) (k := 7) rfl (by decide) (fun z σ H Q hs q => ⟨.int z, hs, .inl ⟨_, rfl, ⟨_, rfl, q⟩⟩⟩) h⟩
end
def y__law_draw : F1 Out := (sSeq (sIf (bAnd (bV (e2 gEq (eHix 0 2) (eC (.int 0)))) (bV (e2 gLt (eHix 0 1) (e1 gLen (eHix 0 0))))) (sSeq (sSet 3 (e2 gIx (eHix 0 0) (eHix 0 1))) 
    (sSeq (sHput 0 1 (e2 gAdd (eHix 0 1) (eC (.int 1)))) 
    (sSeq (sHput 0 3 (e2 gMod (e1 gToInt (e2 gAdd (e2 gAdd (e2 gMul (eHix 0 3) (eC (.int 69621))) (e2 gMul (eVar 3) (eC (.int 40692)))) (eC (.int 31)))) (eC (.int 2147483629)))) 
    (sIf (bV (e2 gGe (eVar 3) (e2 gPow (eC (.int 10)) (eC (.int 18))))) (sHput 0 2 (eVar 3)) sNext)))) sNext) 
    (sSeq (sIf (bV (e2 gGt (eHix 0 2) (eC (.int 0)))) (sSeq (sSet 4 (e2 gMod (e1 gToInt (eHix 0 2)) (eVar 1))) 
    (sSeq (sHput 0 2 (e2 gDiv (eHix 0 2) (eVar 1))) 
    (sRet (eVar 4)))) sNext) 
    (sSeq (sHput 0 4 (e2 gAdd (eHix 0 4) (eC (.int 1)))) 
    (sSeq (sSet 2 (e2 gMod (e1 gToInt (e2 gMul (e1 gToInt (e2 gAdd (eHix 0 3) (e2 gMul (eC (.int 7919)) (eHix 0 4)))) (eC (.int 48271)))) (eC (.int 2147483647)))) 
    (sSeq (sSet 2 (e2 gMod (e1 gToInt (e2 gMul (eVar 2) (e2 gAdd (e2 gDiv (eVar 2) (eC (.int 1009))) (eC (.int 69621))))) (eC (.int 2147483647)))) 
    (sSeq (sSet 2 (e2 gMod (e1 gToInt (e2 gMul (eVar 2) (e2 gAdd (e2 gDiv (eVar 2) (eC (.int 2003))) (eC (.int 40014))))) (eC (.int 2147483563)))) 
    (sRet (e2 gMod (e1 gToInt (e2 gDiv (eVar 2) (eC (.int 16)))) (eVar 1)))))))))
def d__law_draw : List PyData → W → Option (PyData × W) := fnD 5 y__law_draw
section
variable {P : Program} {w : World} {K : PySem.W.Frag} {mg : Str → Option Value} {base : Heap} {A : Nat → Addr} {D : Nat → FuncData}
theorem ok__law_draw (T : Txt K mg A D) : FnOk P w K mg base CX0 1 (A 15) (D 15) p__law_draw (spD K 2 d__law_draw) :=
  T.f__law_draw.F.ok sc__law_draw (fun vs H Q E h => spD.len h) fun cdv Ar outer s H vs Q E hr h => by
    have hu := hr.units
    exact ⟨_, (pss_cons (ps_if (PW.pt (pw_and (pt_cmpR (opEq hu) (pe_ix ix_seq (pv 0) pe_int (fun _ _ => rfl)) pe_int (nomark _)) (pw_and1 (pt_cmpR op_lt (pe_ix ix_seq (pv 0) pe_int (fun _ _ => rfl)) (pe_callB call_len (by rfl) T.b_len bb_len (pa_cons (pe_ix ix_seq (pv 0) pe_int (fun _ _ => rfl)) pa_nil)) (nomark _))))) (pss_cons (ps_set (i := 3) sc__law_draw.nd rfl (by first | exact Or.inl rfl | exact Or.inr rfl) (pe_ix ix_seq (pe_ix ix_seq (pv 0) pe_int (fun _ _ => rfl)) (pe_ix ix_seq (pv 0) pe_int (fun _ _ => rfl)) (fun _ _ => rfl)))
    (pss_cons (ps_asg (pe_op opAdd (pe_ix ix_seq (pv 0) pe_int (fun _ _ => rfl)) pe_int) (pg_sub (pv 0) pe_int set_list))
    (pss_cons (ps_asg (pe_op op_modN (pe_callTy call_int1 (by rfl) T.b_int bb_int (pa_cons (pe_op opAdd (pe_op opAdd (pe_op opMul (pe_ix ix_seq (pv 0) pe_int (fun _ _ => rfl)) pe_int) (pe_op opMul (pv 3) pe_int)) pe_int) pa_nil)) pe_int) (pg_sub (pv 0) pe_int set_list))
    (pss_one (ps_if (pt_cmpR op_ge (pv 3) (pe_op op_pow pe_int pe_int) (nomark _)) (pss_one (ps_asg (pv 3) (pg_sub (pv 0) pe_int set_list))) pss_nil))))) pss_nil)
    (pss_cons (ps_if (pt_cmpR op_gt (pe_ix ix_seq (pv 0) pe_int (fun _ _ => rfl)) pe_int (nomark _)) (pss_cons (ps_set (i := 4) sc__law_draw.nd rfl (by first | exact Or.inl rfl | exact Or.inr rfl) (pe_op op_modN (pe_callTy call_int1 (by rfl) T.b_int bb_int (pa_cons (pe_ix ix_seq (pv 0) pe_int (fun _ _ => rfl)) pa_nil)) (pv 1)))
    (pss_cons (ps_asg (pe_op op_fdivN (pe_ix ix_seq (pv 0) pe_int (fun _ _ => rfl)) (pv 1)) (pg_sub (pv 0) pe_int set_list))
    (pss_one (ps_ret (pv 4))))) pss_nil)
    (pss_cons (ps_asg (pe_op opAdd (pe_ix ix_seq (pv 0) pe_int (fun _ _ => rfl)) pe_int) (pg_sub (pv 0) pe_int set_list))
    (pss_cons (ps_set (i := 2) sc__law_draw.nd rfl (by first | exact Or.inl rfl | exact Or.inr rfl) (pe_op op_modN (pe_callTy call_int1 (by rfl) T.b_int bb_int (pa_cons (pe_op opMul (pe_callTy call_int1 (by rfl) T.b_int bb_int (pa_cons (pe_op opAdd (pe_ix ix_seq (pv 0) pe_int (fun _ _ => rfl)) (pe_op opMul pe_int (pe_ix ix_seq (pv 0) pe_int (fun _ _ => rfl)))) pa_nil)) pe_int) pa_nil)) pe_int))
    (pss_cons (ps_set (i := 2) sc__law_draw.nd rfl (by first | exact Or.inl rfl | exact Or.inr rfl) (pe_op op_modN (pe_callTy call_int1 (by rfl) T.b_int bb_int (pa_cons (pe_op opMul (pv 2) (pe_op opAdd (pe_op op_fdivN (pv 2) pe_int) pe_int)) pa_nil)) pe_int))
    (pss_cons (ps_set (i := 2) sc__law_draw.nd rfl (by first | exact Or.inl rfl | exact Or.inr rfl) (pe_op op_modN (pe_callTy call_int1 (by rfl) T.b_int bb_int (pa_cons (pe_op opMul (pv 2) (pe_op opAdd (pe_op op_fdivN (pv 2) pe_int) pe_int)) pa_nil)) pe_int))
    (pss_one (ps_ret (pe_op op_modN (pe_callTy call_int1 (by rfl) T.b_int bb_int (pa_cons (pe_op op_fdivN (pv 2) pe_int) pa_nil)) (pv 1)))))))))),
    body_ok (N := n__law_draw) (f := y__law_draw) ((sn_seq (sn_if (sn_and (sn_tst (sn_op o_eq (sn_hix 0 2) (sn_int 0))) (sn_tst (sn_op o_cmp (sn_hix 0 1) (sn_cb1 o_len (sn_hix 0 0))))) (sn_seq (sn_set 3 (sn_op o_ix (sn_hix 0 0) (sn_hix 0 1))) 
    (sn_seq (sn_hput 0 1 (sn_op o_add (sn_hix 0 1) (sn_int 1))) 
    (sn_seq (sn_hput 0 3 (sn_op o_mod (sn_cb1 o_toInt (sn_op o_add (sn_op o_add (sn_op o_mul (sn_hix 0 3) (sn_int 69621)) (sn_op o_mul (sn_var 3) (sn_int 40692))) (sn_int 31))) (sn_int 2147483629))) 
    (sn_if (sn_tst (sn_op o_cmp (sn_var 3) (sn_op o_pow (sn_int 10) (sn_int 18)))) (sn_hput 0 2 (sn_var 3)) sn_next)))) sn_next) 
    (sn_seq (sn_if (sn_tst (sn_op o_cmp (sn_hix 0 2) (sn_int 0))) (sn_seq (sn_set 4 (sn_op o_mod (sn_cb1 o_toInt (sn_hix 0 2)) (sn_var 1))) 
    (sn_seq (sn_hput 0 2 (sn_op o_fdiv (sn_hix 0 2) (sn_var 1))) 
    (sn_ret (SndE.bo (sn_var 4))))) sn_next) 
    (sn_seq (sn_hput 0 4 (sn_op o_add (sn_hix 0 4) (sn_int 1))) 
    (sn_seq (sn_set 2 (sn_op o_mod (sn_cb1 o_toInt (sn_op o_mul (sn_cb1 o_toInt (sn_op o_add (sn_hix 0 3) (sn_op o_mul (sn_int 7919) (sn_hix 0 4)))) (sn_int 48271))) (sn_int 2147483647))) 
    (sn_seq (sn_set 2 (sn_op o_mod (sn_cb1 o_toInt (sn_op o_mul (sn_var 2) (sn_op o_add (sn_op o_fdiv (sn_var 2) (sn_int 1009)) (sn_int 69621)))) (sn_int 2147483647))) 
    (sn_seq (sn_set 2 (sn_op o_mod (sn_cb1 o_toInt (sn_op o_mul (sn_var 2) (sn_op o_add (sn_op o_fdiv (sn_var 2) (sn_int 2003)) (sn_int 40014)))) (sn_int 2147483563))) 
    (sn_ret (SndE.bo (sn_op o_mod (sn_cb1 o_toInt (sn_op o_fdiv (sn_var 2) (sn_int 16))) (sn_var 1))))))))))) h⟩
end
def y__law_any : F1 Out := (sRet (e2 gIx (eVar 1) (eCall d__law_draw (eA (eVar 0) (eA (e1 gLen (eVar 1)) eA0)))))
def d__law_any : List PyData → W → Option (PyData × W) := fnD 2 y__law_any
section
variable {P : Program} {w : World} {K : PySem.W.Frag} {mg : Str → Option Value} {base : Heap} {A : Nat → Addr} {D : Nat → FuncData}
theorem ok__law_any (T : Txt K mg A D) : FnOk P w K mg base CX0 2 (A 16) (D 16) p__law_any (spD K 2 d__law_any) :=
  T.f__law_any.F.ok sc__law_any (fun vs H Q E h => spD.len h) fun cdv Ar outer s H vs Q E hr h => by
    have hu := hr.units
    exact ⟨_, (pss_one (ps_ret (pe_ix ix_seq (pv 1) (pe_call (ok__law_draw T) (hr.mono (by decide)) rfl T.f__law_draw.mg T.f__law_draw.F.kp T.f__law_draw.b .nil pass0 (pa_cons (pv 0) (pa_cons (pe_callB call_len (by rfl) T.b_len bb_len (pa_cons (pv 1) pa_nil)) pa_nil))) (fun _ _ => rfl)))),
    body_ok (N := n__law_any) (f := y__law_any) ((sn_ret (SndE.bo (sn_op o_ix (sn_var 1) (sn_call (sn_a (sn_var 0) (sn_a (sn_cb1 o_len (sn_var 1)) sn_a0))))))) h⟩
end
def y__law_sums : F1 Out := (sSeq (sPar 3 4 true false (eA (eLst eA0) (eA (eC (.int 0)) eA0))) 
    (sSeq (sFor (iItems (e2 gAdd (eSl gSl (eVar 0) (oSome (eVar 1)) oNone) (eSl gSl (eVar 0) oNone (oSome (eVar 1))))) (gSet 2) 
    (sSeq (sSet 4 (e2 gAdd (eVar 4) (eVar 2))) 
    (sApp 3 (eVar 4)))) 
    (sRet (eBor 3))))
def d__law_sums : List PyData → W → Option (PyData × W) := fnD 5 y__law_sums
section
variable {P : Program} {w : World} {K : PySem.W.Frag} {mg : Str → Option Value} {base : Heap} {A : Nat → Addr} {D : Nat → FuncData}
theorem ok__law_sums (T : Txt K mg A D) : FnOk P w K mg base CX0 1 (A 17) (D 17) p__law_sums (spD K 2 d__law_sums) :=
  T.f__law_sums.F.ok sc__law_sums (fun vs H Q E h => spD.len h) fun cdv Ar outer s H vs Q E hr h => by
    have hu := hr.units
    exact ⟨_, (pss_cons (ps_par (i := 3) (j := 4) (by rfl) sc__law_sums.nd rfl rfl (by decide) rfl rfl (pa_cons (pe_lst pa_nil) (pa_cons pe_int pa_nil)) (by rfl))
    (pss_cons (ps_for PassesOwn.never rfl (pi_seq (pe_op opAdd (pe_slice slX (pv 0) (po_some (pv 1)) po_none) (pe_slice slX (pv 0) po_none (po_some (pv 1))))) (pg_name (i := 2) sc__law_sums.nd rfl (by first | exact Or.inl rfl | exact Or.inr rfl))
    (pss_cons (ps_set (i := 4) sc__law_sums.nd rfl (by first | exact Or.inl rfl | exact Or.inr rfl) (pe_op opAdd (pv 4) (pv 2)))
    (pss_one (ps_expr (pe_bm PySem.F.plainAttrs_list PySem.F.slot_list_append PySem.F.type_list_append mt_append (pv 3) (pa_cons (pv 4) pa_nil))))))
    (pss_one (ps_ret (pv 3))))),
    body_ok (N := n__law_sums) (f := y__law_sums) ((sn_seq (sn_par true false (sn_a (sn_lst sn_a0) (sn_a (sn_int 0) sn_a0))) 
    (sn_seq (sn_for (si_seqS (sn_op o_add (sn_sl o_sl (sn_var 0) (so_some (sn_var 1)) so_none) (sn_sl o_sl (sn_var 0) so_none (so_some (sn_var 1))))) (sg_name 2) 
    (sn_seq (sn_set 4 (sn_op o_add (sn_var 4) (sn_var 2))) 
    (sn_app 3 (sn_var 4)))) 
    (sn_ret (sn_bor 3))))) h⟩
end
def y__law_takings : F1 Out := (sSeq (sPar 4 5 false true (eA (eCall d__law_any (eA (eVar 0) (eA (eLst (eA (eC (.int 12)) (eA (eC (.int 6)) (eA (e2 gAdd (eC (.int 1)) (eCall d__law_draw (eA (eVar 0) (eA (eC (.int 12)) eA0)))) eA0)))) eA0))) (eA (eLst eA0) eA0))) 
    (sSeq (sSet 1 (eCall d__law_any (eA (eVar 0) (eA (eLst (eA (eC (.int 2)) (eA (eC (.int 3)) (eA (eC (.int 4)) eA0)))) eA0)))) 
    (sSeq (sFor (iRange1 (eVar 4)) (gSet 2) 
    (sSeq (sSet 6 (eCall d__law_any (eA (eVar 0) (eA (eLst (eA (eC (.int 0)) (eA (e1 gNeg (eC (.int 1))) (eA (e1 gNeg (eC (.int 1))) (eA (e1 gNeg (eC (.int 2))) (eA (e2 gSub (eC (.int 0)) (eCall d__law_draw (eA (eVar 0) (eA (eC (.int 10)) eA0)))) eA0)))))) eA0)))) 
    (sApp 5 (eIf (bV (e2 gEq (eCall d__law_draw (eA (eVar 0) (eA (eVar 1) eA0))) (eC (.int 0)))) (eVar 6) (eC (.int 1)))))) 
    (sSeq (sSet 3 (eSl gSl (eBor 5) oNone (oSome (eCall d__law_any (eA (eVar 0) (eA (eLst (eA (eC (.int 1)) (eA (eC (.int 2)) (eA (eC (.int 3)) eA0)))) eA0)))))) 
    (sFrz 5 (sRet (e1 gTuple (eCall d__law_any (eA (eVar 0) (eA (eLst (eA (eVar 5) (eA (eVar 5) (eA (eSl gSl (e2 gMul (eVar 3) (eC (.int 12))) oNone (oSome (e2 gMul (e1 gLen (eVar 3)) (e2 gMax2 (eC (.int 1)) (e2 gDiv (eVar 4) (e1 gLen (eVar 3))))))) eA0)))) eA0))))))))))
def d__law_takings : List PyData → W → Option (PyData × W) := fnD 7 y__law_takings
section
variable {P : Program} {w : World} {K : PySem.W.Frag} {mg : Str → Option Value} {base : Heap} {A : Nat → Addr} {D : Nat → FuncData}
theorem ok__law_takings (T : Txt K mg A D) : FnOk P w K mg base CX0 3 (A 18) (D 18) p__law_takings (spD K 1 d__law_takings) :=
  T.f__law_takings.F.ok sc__law_takings (fun vs H Q E h => spD.len h) fun cdv Ar outer s H vs Q E hr h => by
    have hu := hr.units
    exact ⟨_, (pss_cons (ps_par (i := 4) (j := 5) (by rfl) sc__law_takings.nd rfl rfl (by decide) rfl rfl (pa_cons (pe_call (ok__law_any T) (hr.mono (by decide)) rfl T.f__law_any.mg T.f__law_any.F.kp T.f__law_any.b .nil pass0 (pa_cons (pv 0) (pa_cons (pe_lst (pa_cons pe_int (pa_cons pe_int (pa_cons (pe_op opAdd pe_int (pe_call (ok__law_draw T) (hr.mono (by decide)) rfl T.f__law_draw.mg T.f__law_draw.F.kp T.f__law_draw.b .nil pass0 (pa_cons (pv 0) (pa_cons pe_int pa_nil)))) pa_nil)))) pa_nil))) (pa_cons (pe_lst pa_nil) pa_nil)) (by rfl))
    (pss_cons (ps_set (i := 1) sc__law_takings.nd rfl (by first | exact Or.inl rfl | exact Or.inr rfl) (pe_call (ok__law_any T) (hr.mono (by decide)) rfl T.f__law_any.mg T.f__law_any.F.kp T.f__law_any.b .nil pass0 (pa_cons (pv 0) (pa_cons (pe_lst (pa_cons pe_int (pa_cons pe_int (pa_cons pe_int pa_nil)))) pa_nil))))
    (pss_cons (ps_for PassesOwn.never rfl (pi_range1 rfl T.b_range (pa_cons (pv 4) pa_nil)) (pg_name (i := 2) sc__law_takings.nd rfl (by first | exact Or.inl rfl | exact Or.inr rfl))
    (pss_cons (ps_set (i := 6) sc__law_takings.nd rfl (by first | exact Or.inl rfl | exact Or.inr rfl) (pe_call (ok__law_any T) (hr.mono (by decide)) rfl T.f__law_any.mg T.f__law_any.F.kp T.f__law_any.b .nil pass0 (pa_cons (pv 0) (pa_cons (pe_lst (pa_cons pe_int (pa_cons (pe_un un_neg pe_int) (pa_cons (pe_un un_neg pe_int) (pa_cons (pe_un un_neg pe_int) (pa_cons (pe_op op_sub pe_int (pe_call (ok__law_draw T) (hr.mono (by decide)) rfl T.f__law_draw.mg T.f__law_draw.F.kp T.f__law_draw.b .nil pass0 (pa_cons (pv 0) (pa_cons pe_int pa_nil)))) pa_nil)))))) pa_nil))))
    (pss_one (ps_expr (pe_bm PySem.F.plainAttrs_list PySem.F.slot_list_append PySem.F.type_list_append mt_append (pv 5) (pa_cons (pe_ifExp (pt_cmpR (opEq hu) (pe_call (ok__law_draw T) (hr.mono (by decide)) rfl T.f__law_draw.mg T.f__law_draw.F.kp T.f__law_draw.b .nil pass0 (pa_cons (pv 0) (pa_cons (pv 1) pa_nil))) pe_int (nomark _)) (pv 6) pe_int) pa_nil))))))
    (pss_cons (ps_set (i := 3) sc__law_takings.nd rfl (by first | exact Or.inl rfl | exact Or.inr rfl) (pe_slice slX (pv 5) po_none (po_some (pe_call (ok__law_any T) (hr.mono (by decide)) rfl T.f__law_any.mg T.f__law_any.F.kp T.f__law_any.b .nil pass0 (pa_cons (pv 0) (pa_cons (pe_lst (pa_cons pe_int (pa_cons pe_int (pa_cons pe_int pa_nil)))) pa_nil))))))
    (pss_one (ps_ret (pe_callTy call_tuple_of (by rfl) T.b_tuple bb_tuple (pa_cons (pe_call (ok__law_any T) (hr.mono (by decide)) rfl T.f__law_any.mg T.f__law_any.F.kp T.f__law_any.b .nil pass0 (pa_cons (pv 0) (pa_cons (pe_lst (pa_cons (pv 5) (pa_cons (pv 5) (pa_cons (pe_slice slX (pe_op opMul (pv 3) pe_int) po_none (po_some (pe_op opMul (pe_callB call_len (by rfl) T.b_len bb_len (pa_cons (pv 3) pa_nil)) (pe_callB (call_max2 rfl) (by rfl) T.b_max bb_max (pa_cons pe_int (pa_cons (pe_op op_fdivN (pv 4) (pe_callB call_len (by rfl) T.b_len bb_len (pa_cons (pv 3) pa_nil))) pa_nil)))))) pa_nil)))) pa_nil))) pa_nil)))))))),
    body_ok (N := n__law_takings) (f := y__law_takings) ((sn_seq (sn_par false true (sn_a (sn_call (sn_a (sn_var 0) (sn_a (SndE.sh (sn_lst (sn_a (sn_int 12) (sn_a (sn_int 6) (sn_a (sn_op o_add (sn_int 1) (sn_call (sn_a (sn_var 0) (sn_a (sn_int 12) sn_a0)))) sn_a0))))) sn_a0))) (sn_a (sn_lst sn_a0) sn_a0))) 
    (sn_seq (sn_set 1 (sn_call (sn_a (sn_var 0) (sn_a (SndE.sh (sn_lst (sn_a (sn_int 2) (sn_a (sn_int 3) (sn_a (sn_int 4) sn_a0))))) sn_a0)))) 
    (sn_seq (sn_for (si_range1 (sn_var 4)) (sg_name 2) 
    (sn_seq (sn_set 6 (sn_call (sn_a (sn_var 0) (sn_a (SndE.sh (sn_lst (sn_a (sn_int 0) (sn_a (sn_un o_neg (sn_int 1)) (sn_a (sn_un o_neg (sn_int 1)) (sn_a (sn_un o_neg (sn_int 2)) (sn_a (sn_op o_sub (sn_int 0) (sn_call (sn_a (sn_var 0) (sn_a (sn_int 10) sn_a0)))) sn_a0))))))) sn_a0)))) 
    (sn_app 5 (sn_ifx (sn_tst (sn_op o_eq (sn_call (sn_a (sn_var 0) (sn_a (sn_var 1) sn_a0))) (sn_int 0))) (sn_var 6) (sn_int 1))))) 
    (sn_seq (sn_set 3 (sn_sl o_sl (sn_bor 5) so_none (so_some (sn_call (sn_a (sn_var 0) (sn_a (SndE.sh (sn_lst (sn_a (sn_int 1) (sn_a (sn_int 2) (sn_a (sn_int 3) sn_a0))))) sn_a0)))))) 
    (sn_frz 5 (sn_ret (SndE.bo (sn_cb1 o_tuple (sn_call (sn_a (sn_var 0) (sn_a (SndE.sh (sn_lst (sn_a (sn_var 5) (sn_a (sn_var 5) (sn_a (sn_sl o_sl (sn_op o_mul (sn_var 3) (sn_int 12)) so_none (so_some (sn_op o_mul (sn_cb1 o_len (sn_var 3)) (sn_cb2 o_max2 (sn_int 1) (sn_op o_fdiv (sn_var 4) (sn_cb1 o_len (sn_var 3))))))) sn_a0))))) sn_a0)))))))))))) h⟩
end
def y__law_turned : F1 Out := (sRet (e1 gTuple (e1 gSorted (eLc [3] (iItems (eVar 0)) (gSet 3) bYes (e2 gMod (e1 gToInt (e2 gSub (eVar 3) (eVar 1))) (eVar 2))))))
def d__law_turned : List PyData → W → Option (PyData × W) := fnD 4 y__law_turned
section
variable {P : Program} {w : World} {K : PySem.W.Frag} {mg : Str → Option Value} {base : Heap} {A : Nat → Addr} {D : Nat → FuncData}
theorem ok__law_turned (T : Txt K mg A D) : FnOk P w K mg base CX0 1 (A 19) (D 19) p__law_turned (spD K 3 d__law_turned) :=
  T.f__law_turned.F.ok sc__law_turned (fun vs H Q E h => spD.len h) fun cdv Ar outer s H vs Q E hr h => by
    have hu := hr.units
    exact ⟨_, (pss_one (ps_ret (pe_callTy call_tuple_of (by rfl) T.b_tuple bb_tuple (pa_cons (pe_callB (clSorted hr.u) (by rfl) T.b_sorted bb_sorted (pa_cons (pe_lc (own := [("at", 3)]) (tt := tYes) rfl sc__law_turned.nd (pi_seq (pv 0)) (blkOk_by (own := [("at", 3)]) (N := n__law_turned) (sc := defScope s__law_turned) (by decide +kernel)) (fun _ _ _ _ _ => (pg_name (i := 3) sc__law_turned.nd rfl (by first | exact Or.inl rfl | exact Or.inr rfl))) (fun _ _ _ _ _ => pts_nil) (fun _ _ _ _ _ => (pe_op op_modN (pe_callTy call_int1 (by rfl) T.b_int bb_int (pa_cons (pe_op op_sub (pv 3) (pv 1)) pa_nil)) (pv 2)))) pa_nil)) pa_nil)))),
    body_ok (N := n__law_turned) (f := y__law_turned) ((sn_ret (SndE.bo (sn_cb1 o_tuple (sn_cb1 o_sorted (sn_lc (vs := [3]) (si_seqB (sn_var 0)) (sg_name 3) sn_yes (sn_op o_mod (sn_cb1 o_toInt (sn_op o_sub (sn_var 3) (sn_var 1))) (sn_var 2)))))))) h⟩
end
def y__law_is_right : F1 Out := (sSeq (sSet 1 (eCall d__law_takings (eA (eVar 0) eA0))) 
    (sSeq (sAsg (eTup (eA (e1 gLen (eVar 1)) (eA (e1 gSum (eVar 1)) eA0))) (gTupD 2 (gsCons (gSet 11) (gsCons (gSet 12) gsNil)))) 
    (sSeq (sSet 2 (e1 gTuple (eLc [16] (iItems (eVar 1)) (gSet 16) bYes (e2 gAdd (eCall d__law_draw (eA (eVar 0) (eA (eC (.int 20)) eA0))) (e2 gMax2 (eC (.int 0)) (e2 gSub (eC (.int 0)) (eVar 16))))))) 
    (sSeq (sSet 3 (e1 gTuple (eLc [16, 17] (iZipD (eVar 1) (eVar 2)) (gTupD 2 (gsCons (gSet 16) (gsCons (gSet 17) gsNil))) bYes (e2 gAdd (eVar 16) (eVar 17))))) 
    (sSeq (sSet 4 (e1 gTuple (eLc [10] (iRange1 (eVar 11)) (gSet 10) (bV (e2 gGt (e1 gMin (eCall d__law_sums (eA (eVar 1) (eA (eVar 10) eA0)))) (eC (.int 0)))) (eVar 10)))) 
    (sSeq (sSet 5 (e1 gTuple (eLc [10] (iRange1 (eVar 11)) (gSet 10) (bV (e2 gGe (e1 gMin (eCall d__law_sums (eA (eVar 1) (eA (eVar 10) eA0)))) (eC (.int 0)))) (eVar 10)))) 
    (sSeq (sSet 6 (e1 gTuple (eLc [16] (iItems (eVar 3)) (gSet 16) bYes (e2 gMul (e2 gAdd (eVar 11) (eC (.int 1))) (eVar 16))))) 
    (sSeq (sSet 7 (e1 gTuple (eLc [16] (iItems (eVar 2)) (gSet 16) bYes (e2 gAdd (e2 gMul (e2 gAdd (eVar 11) (eC (.int 1))) (eVar 16)) (eC (.int 1)))))) 
    (sSeq (sIf (bOr (bV (e2 gNe (eCall d_begins_ahead (eA (eVar 1) eA0)) (eVar 4))) (bOr (bV (e2 gNe (eCall d_stations_round (eA (eVar 6) (eA (eVar 7) eA0))) (eVar 4))) (bV (e2 gNe (e1 gLen (eVar 4)) (e2 gMax2 (eC (.int 0)) (eVar 12)))))) (sRet (eC (.bool false))) sNext) 
    (sSeq (sIf (bOr (bV (e2 gNe (eCall d_stations_round (eA (eVar 3) (eA (eVar 2) eA0))) (eVar 5))) (bV (e2 gNe (e2 gNe (eVar 5) (eTup eA0)) (e2 gGe (eVar 12) (eC (.int 0)))))) (sRet (eC (.bool false))) sNext) 
    (sSeq (sSet 8 (eIf (bV (e2 gNe (eVar 5) (eTup eA0))) (eTup (eA (eC (.str "from")) (eA (e2 gIx (eVar 5) (eC (.int 0))) eA0))) (eTup (eA (eC (.str "short")) (eA (e2 gSub (eC (.int 0)) (eVar 12)) eA0))))) 
    (sSeq (sIf (bOr (bV (e2 gNe (eCall d_station_told (eA (eVar 3) (eA (eVar 2) eA0))) (eVar 8))) (bAnd (bV (e2 gNe (eVar 4) (eTup eA0))) (bV (e2 gNe (eCall d_ahead_told (eA (eVar 1) eA0)) (eTup (eA (eC (.str "begin")) (eA (e2 gIx (eVar 4) (eC (.int 0))) eA0))))))) (sRet (eC (.bool false))) sNext) 
    (sSeq (sIf (bV (e2 gNe (eCall d_station_told (eA (eVar 6) (eA (eVar 7) eA0))) (eIf (bV (e2 gNe (eVar 4) (eTup eA0))) (eTup (eA (eC (.str "from")) (eA (e2 gIx (eVar 4) (eC (.int 0))) eA0))) (eTup (eA (eC (.str "short")) (eA (e2 gSub (eVar 11) (e2 gMul (e2 gAdd (eVar 11) (eC (.int 1))) (eVar 12))) eA0)))))) (sRet (eC (.bool false))) sNext) 
    (sSeq (sAsg (eTup (eA (eCall d__law_draw (eA (eVar 0) (eA (eVar 11) eA0))) (eA (e2 gAdd (eC (.int 2)) (eCall d__law_draw (eA (eVar 0) (eA (eC (.int 20)) eA0)))) eA0))) (gTupD 2 (gsCons (gSet 13) (gsCons (gSet 14) gsNil)))) 
    (sSeq (sSet 9 (e2 gAdd (eSl gSl (eVar 1) (oSome (eVar 13)) oNone) (eSl gSl (eVar 1) oNone (oSome (eVar 13))))) 
    (sSeq (sIf (bV (e2 gNe (eCall d_begins_ahead (eA (eVar 9) eA0)) (eCall d__law_turned (eA (eVar 4) (eA (eVar 13) (eA (eVar 11) eA0)))))) (sRet (eC (.bool false))) sNext) 
    (sSeq (sIf (bV (e2 gNe (eCall d_stations_round (eA (e2 gAdd (eSl gSl (eVar 3) (oSome (eVar 13)) oNone) (eSl gSl (eVar 3) oNone (oSome (eVar 13)))) (eA (e2 gAdd (eSl gSl (eVar 2) (oSome (eVar 13)) oNone) (eSl gSl (eVar 2) oNone (oSome (eVar 13)))) eA0))) (eCall d__law_turned (eA (eVar 5) (eA (eVar 13) (eA (eVar 11) eA0)))))) (sRet (eC (.bool false))) sNext) 
    (sSeq (sIf (bV (e2 gNe (eCall d_stations_round (eA (e1 gTuple (eLc [16] (iItems (eVar 3)) (gSet 16) bYes (e2 gMul (eVar 14) (eVar 16)))) (eA (e1 gTuple (eLc [16] (iItems (eVar 2)) (gSet 16) bYes (e2 gMul (eVar 14) (eVar 16)))) eA0))) (eVar 5))) (sRet (eC (.bool false))) sNext) 
    (sSeq (sIf (bAnd (bV (e2 gLe (eVar 11) (eC (.int 6)))) (bV (e2 gNe (eCall d_stations_round (eA (e2 gAdd (eVar 3) (eVar 3)) (eA (e2 gAdd (eVar 2) (eVar 2)) eA0))) (e2 gAdd (eVar 5) (e1 gTuple (eLc [10] (iItems (eVar 5)) (gSet 10) bYes (e2 gAdd (eVar 10) (eVar 11)))))))) (sRet (eC (.bool false))) sNext) 
    (sSeq (sIf (bV (e2 gNe (eCall d_begins_ahead (eA (e2 gAdd (eVar 1) (eVar 1)) eA0)) (eIf (bV (e2 gGt (eVar 12) (eC (.int 0)))) (e2 gAdd (eVar 4) (e1 gTuple (eLc [10] (iItems (eVar 4)) (gSet 10) bYes (e2 gAdd (eVar 10) (eVar 11))))) (eTup eA0)))) (sRet (eC (.bool false))) sNext) 
    (sSeq (sFor (iItems (eVar 5)) (gSet 10) 
    (sSeq (sSet 15 (eCall d__law_sums (eA (eVar 1) (eA (eVar 10) eA0)))) 
    (sIf (bV (e2 gNe (e2 (gIn false) (eC (.int 0)) (eVar 15)) (e2 (gIn true) (eVar 10) (eVar 4)))) (sRet (eC (.bool false))) sNext))) 
    (sRet (eC (.bool true))))))))))))))))))))))))
def d__law_is_right : List PyData → W → Option (PyData × W) := fnD 18 y__law_is_right
section
variable {P : Program} {w : World} {K : PySem.W.Frag} {mg : Str → Option Value} {base : Heap} {A : Nat → Addr} {D : Nat → FuncData}
theorem ok__law_is_right (T : Txt K mg A D) : FnOk P w K mg base CX0 6 (A 20) (D 20) p__law_is_right (spD K 1 d__law_is_right) :=
  T.f__law_is_right.F.ok sc__law_is_right (fun vs H Q E h => spD.len h) fun cdv Ar outer s H vs Q E hr h => by
    have hu := hr.units
    exact ⟨_, (pss_cons (ps_set (i := 1) sc__law_is_right.nd rfl (by first | exact Or.inl rfl | exact Or.inr rfl) (pe_call (ok__law_takings T) (hr.mono (by decide)) rfl T.f__law_takings.mg T.f__law_takings.F.kp T.f__law_takings.b .nil pass0 (pa_cons (pv 0) pa_nil)))
    (pss_cons (ps_asg (pe_tup (pa_cons (pe_callB call_len (by rfl) T.b_len bb_len (pa_cons (pv 1) pa_nil)) (pa_cons (pe_callB (clSum rfl) (by rfl) T.b_sum bb_sum (pa_cons (pv 1) pa_nil)) pa_nil))) (pg_tup (by rfl) (pgs_cons (pg_name (i := 11) sc__law_is_right.nd rfl (by first | exact Or.inl rfl | exact Or.inr rfl)) (pgs_cons (pg_name (i := 12) sc__law_is_right.nd rfl (by first | exact Or.inl rfl | exact Or.inr rfl)) pgs_nil))))
    (pss_cons (ps_set (i := 2) sc__law_is_right.nd rfl (by first | exact Or.inl rfl | exact Or.inr rfl) (pe_callTy call_tuple_of (by rfl) T.b_tuple bb_tuple (pa_cons (pe_lc (own := [("one", 16)]) (tt := tYes) rfl sc__law_is_right.nd (pi_seq (pv 1)) (blkOk_by (own := [("one", 16)]) (N := n__law_is_right) (sc := defScope s__law_is_right) (by decide +kernel)) (fun _ _ _ _ _ => (pg_name (i := 16) sc__law_is_right.nd rfl (by first | exact Or.inl rfl | exact Or.inr rfl))) (fun _ _ _ _ _ => pts_nil) (fun _ _ _ _ _ => (pe_op opAdd (pe_call (ok__law_draw T) (hr.mono (by decide)) rfl T.f__law_draw.mg T.f__law_draw.F.kp T.f__law_draw.b .nil pass0 (pa_cons (pv 0) (pa_cons pe_int pa_nil))) (pe_callB (call_max2 rfl) (by rfl) T.b_max bb_max (pa_cons pe_int (pa_cons (pe_op op_sub pe_int (pv 16)) pa_nil)))))) pa_nil)))
    (pss_cons (ps_set (i := 3) sc__law_is_right.nd rfl (by first | exact Or.inl rfl | exact Or.inr rfl) (pe_callTy call_tuple_of (by rfl) T.b_tuple bb_tuple (pa_cons (pe_lc (own := [("one", 16), ("need", 17)]) (tt := tYes) rfl sc__law_is_right.nd (RZ.pi_zipA rfl T.b_zip (pa_cons (pv 1) (pa_cons (pv 2) pa_nil))) (blkOk_by (own := [("one", 16), ("need", 17)]) (N := n__law_is_right) (sc := defScope s__law_is_right) (by decide +kernel)) (fun _ _ _ _ _ => (pg_tup (by rfl) (pgs_cons (pg_name (i := 16) sc__law_is_right.nd rfl (by first | exact Or.inl rfl | exact Or.inr rfl)) (pgs_cons (pg_name (i := 17) sc__law_is_right.nd rfl (by first | exact Or.inl rfl | exact Or.inr rfl)) pgs_nil)))) (fun _ _ _ _ _ => pts_nil) (fun _ _ _ _ _ => (pe_op opAdd (pv 16) (pv 17)))) pa_nil)))
    (pss_cons (ps_set (i := 4) sc__law_is_right.nd rfl (by first | exact Or.inl rfl | exact Or.inr rfl) (pe_callTy call_tuple_of (by rfl) T.b_tuple bb_tuple (pa_cons (pe_lc (own := [("at", 10)]) rfl sc__law_is_right.nd (pi_range1 rfl T.b_range (pa_cons (pv 11) pa_nil)) (blkOk_by (own := [("at", 10)]) (N := n__law_is_right) (sc := defScope s__law_is_right) (by decide +kernel)) (fun _ _ _ _ _ => (pg_name (i := 10) sc__law_is_right.nd rfl (by first | exact Or.inl rfl | exact Or.inr rfl))) (fun _ _ _ _ _ => (pts_one (pt_cmpR op_gt (pe_callB (clMin rfl hr.u) (by rfl) T.b_min bb_min (pa_cons (pe_call (ok__law_sums T) (hr.mono (by decide)) rfl T.f__law_sums.mg T.f__law_sums.F.kp T.f__law_sums.b .nil pass0 (pa_cons (pv 1) (pa_cons (pv 10) pa_nil))) pa_nil)) pe_int (nomark _)))) (fun _ _ _ _ _ => (pv 10))) pa_nil)))
    (pss_cons (ps_set (i := 5) sc__law_is_right.nd rfl (by first | exact Or.inl rfl | exact Or.inr rfl) (pe_callTy call_tuple_of (by rfl) T.b_tuple bb_tuple (pa_cons (pe_lc (own := [("at", 10)]) rfl sc__law_is_right.nd (pi_range1 rfl T.b_range (pa_cons (pv 11) pa_nil)) (blkOk_by (own := [("at", 10)]) (N := n__law_is_right) (sc := defScope s__law_is_right) (by decide +kernel)) (fun _ _ _ _ _ => (pg_name (i := 10) sc__law_is_right.nd rfl (by first | exact Or.inl rfl | exact Or.inr rfl))) (fun _ _ _ _ _ => (pts_one (pt_cmpR op_ge (pe_callB (clMin rfl hr.u) (by rfl) T.b_min bb_min (pa_cons (pe_call (ok__law_sums T) (hr.mono (by decide)) rfl T.f__law_sums.mg T.f__law_sums.F.kp T.f__law_sums.b .nil pass0 (pa_cons (pv 1) (pa_cons (pv 10) pa_nil))) pa_nil)) pe_int (nomark _)))) (fun _ _ _ _ _ => (pv 10))) pa_nil)))
    (pss_cons (ps_set (i := 6) sc__law_is_right.nd rfl (by first | exact Or.inl rfl | exact Or.inr rfl) (pe_callTy call_tuple_of (by rfl) T.b_tuple bb_tuple (pa_cons (pe_lc (own := [("one", 16)]) (tt := tYes) rfl sc__law_is_right.nd (pi_seq (pv 3)) (blkOk_by (own := [("one", 16)]) (N := n__law_is_right) (sc := defScope s__law_is_right) (by decide +kernel)) (fun _ _ _ _ _ => (pg_name (i := 16) sc__law_is_right.nd rfl (by first | exact Or.inl rfl | exact Or.inr rfl))) (fun _ _ _ _ _ => pts_nil) (fun _ _ _ _ _ => (pe_op opMul (pe_op opAdd (pv 11) pe_int) (pv 16)))) pa_nil)))
    (pss_cons (ps_set (i := 7) sc__law_is_right.nd rfl (by first | exact Or.inl rfl | exact Or.inr rfl) (pe_callTy call_tuple_of (by rfl) T.b_tuple bb_tuple (pa_cons (pe_lc (own := [("one", 16)]) (tt := tYes) rfl sc__law_is_right.nd (pi_seq (pv 2)) (blkOk_by (own := [("one", 16)]) (N := n__law_is_right) (sc := defScope s__law_is_right) (by decide +kernel)) (fun _ _ _ _ _ => (pg_name (i := 16) sc__law_is_right.nd rfl (by first | exact Or.inl rfl | exact Or.inr rfl))) (fun _ _ _ _ _ => pts_nil) (fun _ _ _ _ _ => (pe_op opAdd (pe_op opMul (pe_op opAdd (pv 11) pe_int) (pv 16)) pe_int))) pa_nil)))
    (pss_cons (ps_if (PW.pt (pw_or (pt_cmpR (opNe hu) (pe_call (ok_begins_ahead T) (hr.mono (by decide)) rfl T.f_begins_ahead.mg T.f_begins_ahead.F.kp T.f_begins_ahead.b .nil pass0 (pa_cons (pv 1) pa_nil)) (pv 4) (nomark _)) (pw_or (pt_cmpR (opNe hu) (pe_call (ok_stations_round T) (hr.mono (by decide)) rfl T.f_stations_round.mg T.f_stations_round.F.kp T.f_stations_round.b .nil pass0 (pa_cons (pv 6) (pa_cons (pv 7) pa_nil))) (pv 4) (nomark _)) (pw_or1 (pt_cmpR (opNe hu) (pe_callB call_len (by rfl) T.b_len bb_len (pa_cons (pv 4) pa_nil)) (pe_callB (call_max2 rfl) (by rfl) T.b_max bb_max (pa_cons pe_int (pa_cons (pv 12) pa_nil))) (nomark _)))))) (pss_one (ps_ret pe_bl)) pss_nil)
    (pss_cons (ps_if (PW.pt (pw_or (pt_cmpR (opNe hu) (pe_call (ok_stations_round T) (hr.mono (by decide)) rfl T.f_stations_round.mg T.f_stations_round.F.kp T.f_stations_round.b .nil pass0 (pa_cons (pv 3) (pa_cons (pv 2) pa_nil))) (pv 5) (nomark _)) (pw_or1 (pt_cmpR (opNe hu) (pe_cmpR (opNe hu) (pv 5) (pe_tup pa_nil) (nomark _)) (pe_cmpR op_ge (pv 12) pe_int (nomark _)) (nomark _))))) (pss_one (ps_ret pe_bl)) pss_nil)
    (pss_cons (ps_set (i := 8) sc__law_is_right.nd rfl (by first | exact Or.inl rfl | exact Or.inr rfl) (pe_ifExp (pt_cmpR (opNe hu) (pv 5) (pe_tup pa_nil) (nomark _)) (pe_tup (pa_cons pe_str (pa_cons (pe_ix ix_seq (pv 5) pe_int (fun _ _ => rfl)) pa_nil))) (pe_tup (pa_cons pe_str (pa_cons (pe_op op_sub pe_int (pv 12)) pa_nil)))))
    (pss_cons (ps_if (PW.pt (pw_or (pt_cmpR (opNe hu) (pe_call (ok_station_told T) (hr.mono (by decide)) rfl T.f_station_told.mg T.f_station_told.F.kp T.f_station_told.b .nil pass0 (pa_cons (pv 3) (pa_cons (pv 2) pa_nil))) (pv 8) (nomark _)) (pw_or1 (PW.pt (pw_and (pt_cmpR (opNe hu) (pv 4) (pe_tup pa_nil) (nomark _)) (pw_and1 (pt_cmpR (opNe hu) (pe_call (ok_ahead_told T) (hr.mono (by decide)) rfl T.f_ahead_told.mg T.f_ahead_told.F.kp T.f_ahead_told.b .nil pass0 (pa_cons (pv 1) pa_nil)) (pe_tup (pa_cons pe_str (pa_cons (pe_ix ix_seq (pv 4) pe_int (fun _ _ => rfl)) pa_nil))) (nomark _)))))))) (pss_one (ps_ret pe_bl)) pss_nil)
    (pss_cons (ps_if (pt_cmpR (opNe hu) (pe_call (ok_station_told T) (hr.mono (by decide)) rfl T.f_station_told.mg T.f_station_told.F.kp T.f_station_told.b .nil pass0 (pa_cons (pv 6) (pa_cons (pv 7) pa_nil))) (pe_ifExp (pt_cmpR (opNe hu) (pv 4) (pe_tup pa_nil) (nomark _)) (pe_tup (pa_cons pe_str (pa_cons (pe_ix ix_seq (pv 4) pe_int (fun _ _ => rfl)) pa_nil))) (pe_tup (pa_cons pe_str (pa_cons (pe_op op_sub (pv 11) (pe_op opMul (pe_op opAdd (pv 11) pe_int) (pv 12))) pa_nil)))) (nomark _)) (pss_one (ps_ret pe_bl)) pss_nil)
    (pss_cons (ps_asg (pe_tup (pa_cons (pe_call (ok__law_draw T) (hr.mono (by decide)) rfl T.f__law_draw.mg T.f__law_draw.F.kp T.f__law_draw.b .nil pass0 (pa_cons (pv 0) (pa_cons (pv 11) pa_nil))) (pa_cons (pe_op opAdd pe_int (pe_call (ok__law_draw T) (hr.mono (by decide)) rfl T.f__law_draw.mg T.f__law_draw.F.kp T.f__law_draw.b .nil pass0 (pa_cons (pv 0) (pa_cons pe_int pa_nil)))) pa_nil))) (pg_tup (by rfl) (pgs_cons (pg_name (i := 13) sc__law_is_right.nd rfl (by first | exact Or.inl rfl | exact Or.inr rfl)) (pgs_cons (pg_name (i := 14) sc__law_is_right.nd rfl (by first | exact Or.inl rfl | exact Or.inr rfl)) pgs_nil))))
    (pss_cons (ps_set (i := 9) sc__law_is_right.nd rfl (by first | exact Or.inl rfl | exact Or.inr rfl) (pe_op opAdd (pe_slice slX (pv 1) (po_some (pv 13)) po_none) (pe_slice slX (pv 1) po_none (po_some (pv 13)))))
    (pss_cons (ps_if (pt_cmpR (opNe hu) (pe_call (ok_begins_ahead T) (hr.mono (by decide)) rfl T.f_begins_ahead.mg T.f_begins_ahead.F.kp T.f_begins_ahead.b .nil pass0 (pa_cons (pv 9) pa_nil)) (pe_call (ok__law_turned T) (hr.mono (by decide)) rfl T.f__law_turned.mg T.f__law_turned.F.kp T.f__law_turned.b .nil pass0 (pa_cons (pv 4) (pa_cons (pv 13) (pa_cons (pv 11) pa_nil)))) (nomark _)) (pss_one (ps_ret pe_bl)) pss_nil)
    (pss_cons (ps_if (pt_cmpR (opNe hu) (pe_call (ok_stations_round T) (hr.mono (by decide)) rfl T.f_stations_round.mg T.f_stations_round.F.kp T.f_stations_round.b .nil pass0 (pa_cons (pe_op opAdd (pe_slice slX (pv 3) (po_some (pv 13)) po_none) (pe_slice slX (pv 3) po_none (po_some (pv 13)))) (pa_cons (pe_op opAdd (pe_slice slX (pv 2) (po_some (pv 13)) po_none) (pe_slice slX (pv 2) po_none (po_some (pv 13)))) pa_nil))) (pe_call (ok__law_turned T) (hr.mono (by decide)) rfl T.f__law_turned.mg T.f__law_turned.F.kp T.f__law_turned.b .nil pass0 (pa_cons (pv 5) (pa_cons (pv 13) (pa_cons (pv 11) pa_nil)))) (nomark _)) (pss_one (ps_ret pe_bl)) pss_nil)
    (pss_cons (ps_if (pt_cmpR (opNe hu) (pe_call (ok_stations_round T) (hr.mono (by decide)) rfl T.f_stations_round.mg T.f_stations_round.F.kp T.f_stations_round.b .nil pass0 (pa_cons (pe_callTy call_tuple_of (by rfl) T.b_tuple bb_tuple (pa_cons (pe_lc (own := [("one", 16)]) (tt := tYes) rfl sc__law_is_right.nd (pi_seq (pv 3)) (blkOk_by (own := [("one", 16)]) (N := n__law_is_right) (sc := defScope s__law_is_right) (by decide +kernel)) (fun _ _ _ _ _ => (pg_name (i := 16) sc__law_is_right.nd rfl (by first | exact Or.inl rfl | exact Or.inr rfl))) (fun _ _ _ _ _ => pts_nil) (fun _ _ _ _ _ => (pe_op opMul (pv 14) (pv 16)))) pa_nil)) (pa_cons (pe_callTy call_tuple_of (by rfl) T.b_tuple bb_tuple (pa_cons (pe_lc (own := [("one", 16)]) (tt := tYes) rfl sc__law_is_right.nd (pi_seq (pv 2)) (blkOk_by (own := [("one", 16)]) (N := n__law_is_right) (sc := defScope s__law_is_right) (by decide +kernel)) (fun _ _ _ _ _ => (pg_name (i := 16) sc__law_is_right.nd rfl (by first | exact Or.inl rfl | exact Or.inr rfl))) (fun _ _ _ _ _ => pts_nil) (fun _ _ _ _ _ => (pe_op opMul (pv 14) (pv 16)))) pa_nil)) pa_nil))) (pv 5) (nomark _)) (pss_one (ps_ret pe_bl)) pss_nil)
    (pss_cons (ps_if (PW.pt (pw_and (pt_cmpR op_le (pv 11) pe_int (nomark _)) (pw_and1 (pt_cmpR (opNe hu) (pe_call (ok_stations_round T) (hr.mono (by decide)) rfl T.f_stations_round.mg T.f_stations_round.F.kp T.f_stations_round.b .nil pass0 (pa_cons (pe_op opAdd (pv 3) (pv 3)) (pa_cons (pe_op opAdd (pv 2) (pv 2)) pa_nil))) (pe_op opAdd (pv 5) (pe_callTy call_tuple_of (by rfl) T.b_tuple bb_tuple (pa_cons (pe_lc (own := [("at", 10)]) (tt := tYes) rfl sc__law_is_right.nd (pi_seq (pv 5)) (blkOk_by (own := [("at", 10)]) (N := n__law_is_right) (sc := defScope s__law_is_right) (by decide +kernel)) (fun _ _ _ _ _ => (pg_name (i := 10) sc__law_is_right.nd rfl (by first | exact Or.inl rfl | exact Or.inr rfl))) (fun _ _ _ _ _ => pts_nil) (fun _ _ _ _ _ => (pe_op opAdd (pv 10) (pv 11)))) pa_nil))) (nomark _))))) (pss_one (ps_ret pe_bl)) pss_nil)
    (pss_cons (ps_if (pt_cmpR (opNe hu) (pe_call (ok_begins_ahead T) (hr.mono (by decide)) rfl T.f_begins_ahead.mg T.f_begins_ahead.F.kp T.f_begins_ahead.b .nil pass0 (pa_cons (pe_op opAdd (pv 1) (pv 1)) pa_nil)) (pe_ifExp (pt_cmpR op_gt (pv 12) pe_int (nomark _)) (pe_op opAdd (pv 4) (pe_callTy call_tuple_of (by rfl) T.b_tuple bb_tuple (pa_cons (pe_lc (own := [("at", 10)]) (tt := tYes) rfl sc__law_is_right.nd (pi_seq (pv 4)) (blkOk_by (own := [("at", 10)]) (N := n__law_is_right) (sc := defScope s__law_is_right) (by decide +kernel)) (fun _ _ _ _ _ => (pg_name (i := 10) sc__law_is_right.nd rfl (by first | exact Or.inl rfl | exact Or.inr rfl))) (fun _ _ _ _ _ => pts_nil) (fun _ _ _ _ _ => (pe_op opAdd (pv 10) (pv 11)))) pa_nil))) (pe_tup pa_nil)) (nomark _)) (pss_one (ps_ret pe_bl)) pss_nil)
    (pss_cons (ps_for PassesOwn.never rfl (pi_seq (pv 5)) (pg_name (i := 10) sc__law_is_right.nd rfl (by first | exact Or.inl rfl | exact Or.inr rfl))
    (pss_cons (ps_set (i := 15) sc__law_is_right.nd rfl (by first | exact Or.inl rfl | exact Or.inr rfl) (pe_call (ok__law_sums T) (hr.mono (by decide)) rfl T.f__law_sums.mg T.f__law_sums.F.kp T.f__law_sums.b .nil pass0 (pa_cons (pv 1) (pa_cons (pv 10) pa_nil))))
    (pss_one (ps_if (pt_cmpR (opNe hu) (pe_cmpR (opIn hr.u) pe_int (pv 15) (by with_unfolding_all rfl)) (pe_cmpR (opNotIn hr.u) (pv 10) (pv 4) (by with_unfolding_all rfl)) (nomark _)) (pss_one (ps_ret pe_bl)) pss_nil))))
    (pss_one (ps_ret pe_bl))))))))))))))))))))))),
    body_ok (N := n__law_is_right) (f := y__law_is_right) ((sn_seq (sn_set 1 (sn_call (sn_a (sn_var 0) sn_a0))) 
    (sn_seq (sn_asg (sn_tup (sn_a (sn_cb1 o_len (sn_var 1)) (sn_a (sn_cb1 o_sum (sn_var 1)) sn_a0))) (sg_tup (n := 2) (sgs_cons (sg_name 11) (sgs_cons (sg_name 12) sgs_nil)))) 
    (sn_seq (sn_set 2 (sn_cb1 o_tuple (sn_lc (vs := [16]) (si_seqB (sn_var 1)) (sg_name 16) sn_yes (sn_op o_add (sn_call (sn_a (sn_var 0) (sn_a (sn_int 20) sn_a0))) (sn_cb2 o_max2 (sn_int 0) (sn_op o_sub (sn_int 0) (sn_var 16))))))) 
    (sn_seq (sn_set 3 (sn_cb1 o_tuple (sn_lc (vs := [16, 17]) (si_zipB (sn_var 1) (sn_var 2)) (sg_tup (n := 2) (sgs_cons (sg_name 16) (sgs_cons (sg_name 17) sgs_nil))) sn_yes (sn_op o_add (sn_var 16) (sn_var 17))))) 
    (sn_seq (sn_set 4 (sn_cb1 o_tuple (sn_lc (vs := [10]) (SndI.bo (si_range1 (sn_var 11))) (sg_name 10) (sn_tst (sn_op o_cmp (sn_cb1 o_pick (sn_call (sn_a (sn_var 1) (sn_a (sn_var 10) sn_a0)))) (sn_int 0))) (sn_var 10)))) 
    (sn_seq (sn_set 5 (sn_cb1 o_tuple (sn_lc (vs := [10]) (SndI.bo (si_range1 (sn_var 11))) (sg_name 10) (sn_tst (sn_op o_cmp (sn_cb1 o_pick (sn_call (sn_a (sn_var 1) (sn_a (sn_var 10) sn_a0)))) (sn_int 0))) (sn_var 10)))) 
    (sn_seq (sn_set 6 (sn_cb1 o_tuple (sn_lc (vs := [16]) (si_seqB (sn_var 3)) (sg_name 16) sn_yes (sn_op o_mul (sn_op o_add (sn_var 11) (sn_int 1)) (sn_var 16))))) 
    (sn_seq (sn_set 7 (sn_cb1 o_tuple (sn_lc (vs := [16]) (si_seqB (sn_var 2)) (sg_name 16) sn_yes (sn_op o_add (sn_op o_mul (sn_op o_add (sn_var 11) (sn_int 1)) (sn_var 16)) (sn_int 1))))) 
    (sn_seq (sn_if (sn_or (sn_tst (sn_op o_ne (sn_call (sn_a (sn_var 1) sn_a0)) (sn_var 4))) (sn_or (sn_tst (sn_op o_ne (sn_call (sn_a (sn_var 6) (sn_a (sn_var 7) sn_a0))) (sn_var 4))) (sn_tst (sn_op o_ne (sn_cb1 o_len (sn_var 4)) (sn_cb2 o_max2 (sn_int 0) (sn_var 12)))))) (sn_ret (SndE.bo (sn_bl false))) sn_next) 
    (sn_seq (sn_if (sn_or (sn_tst (sn_op o_ne (sn_call (sn_a (sn_var 3) (sn_a (sn_var 2) sn_a0))) (sn_var 5))) (sn_tst (sn_op o_ne (sn_op o_ne (sn_var 5) (sn_tup sn_a0)) (sn_op o_cmp (sn_var 12) (sn_int 0))))) (sn_ret (SndE.bo (sn_bl false))) sn_next) 
    (sn_seq (sn_set 8 (sn_ifx (sn_tst (sn_op o_ne (sn_var 5) (sn_tup sn_a0))) (sn_tup (sn_a (sn_str _) (sn_a (sn_op o_ix (sn_var 5) (sn_int 0)) sn_a0))) (sn_tup (sn_a (sn_str _) (sn_a (sn_op o_sub (sn_int 0) (sn_var 12)) sn_a0))))) 
    (sn_seq (sn_if (sn_or (sn_tst (sn_op o_ne (sn_call (sn_a (sn_var 3) (sn_a (sn_var 2) sn_a0))) (sn_var 8))) (sn_and (sn_tst (sn_op o_ne (sn_var 4) (sn_tup sn_a0))) (sn_tst (sn_op o_ne (sn_call (sn_a (sn_var 1) sn_a0)) (sn_tup (sn_a (sn_str _) (sn_a (sn_op o_ix (sn_var 4) (sn_int 0)) sn_a0))))))) (sn_ret (SndE.bo (sn_bl false))) sn_next) 
    (sn_seq (sn_if (sn_tst (sn_op o_ne (sn_call (sn_a (sn_var 6) (sn_a (sn_var 7) sn_a0))) (sn_ifx (sn_tst (sn_op o_ne (sn_var 4) (sn_tup sn_a0))) (sn_tup (sn_a (sn_str _) (sn_a (sn_op o_ix (sn_var 4) (sn_int 0)) sn_a0))) (sn_tup (sn_a (sn_str _) (sn_a (sn_op o_sub (sn_var 11) (sn_op o_mul (sn_op o_add (sn_var 11) (sn_int 1)) (sn_var 12))) sn_a0)))))) (sn_ret (SndE.bo (sn_bl false))) sn_next) 
    (sn_seq (sn_asg (sn_tup (sn_a (sn_call (sn_a (sn_var 0) (sn_a (sn_var 11) sn_a0))) (sn_a (sn_op o_add (sn_int 2) (sn_call (sn_a (sn_var 0) (sn_a (sn_int 20) sn_a0)))) sn_a0))) (sg_tup (n := 2) (sgs_cons (sg_name 13) (sgs_cons (sg_name 14) sgs_nil)))) 
    (sn_seq (sn_set 9 (sn_op o_add (sn_sl o_sl (sn_var 1) (so_some (sn_var 13)) so_none) (sn_sl o_sl (sn_var 1) so_none (so_some (sn_var 13))))) 
    (sn_seq (sn_if (sn_tst (sn_op o_ne (sn_call (sn_a (sn_var 9) sn_a0)) (sn_call (sn_a (sn_var 4) (sn_a (sn_var 13) (sn_a (sn_var 11) sn_a0)))))) (sn_ret (SndE.bo (sn_bl false))) sn_next) 
    (sn_seq (sn_if (sn_tst (sn_op o_ne (sn_call (sn_a (sn_op o_add (sn_sl o_sl (sn_var 3) (so_some (sn_var 13)) so_none) (sn_sl o_sl (sn_var 3) so_none (so_some (sn_var 13)))) (sn_a (sn_op o_add (sn_sl o_sl (sn_var 2) (so_some (sn_var 13)) so_none) (sn_sl o_sl (sn_var 2) so_none (so_some (sn_var 13)))) sn_a0))) (sn_call (sn_a (sn_var 5) (sn_a (sn_var 13) (sn_a (sn_var 11) sn_a0)))))) (sn_ret (SndE.bo (sn_bl false))) sn_next) 
    (sn_seq (sn_if (sn_tst (sn_op o_ne (sn_call (sn_a (sn_cb1 o_tuple (sn_lc (vs := [16]) (si_seqB (sn_var 3)) (sg_name 16) sn_yes (sn_op o_mul (sn_var 14) (sn_var 16)))) (sn_a (sn_cb1 o_tuple (sn_lc (vs := [16]) (si_seqB (sn_var 2)) (sg_name 16) sn_yes (sn_op o_mul (sn_var 14) (sn_var 16)))) sn_a0))) (sn_var 5))) (sn_ret (SndE.bo (sn_bl false))) sn_next) 
    (sn_seq (sn_if (sn_and (sn_tst (sn_op o_cmp (sn_var 11) (sn_int 6))) (sn_tst (sn_op o_ne (sn_call (sn_a (sn_op o_add (sn_var 3) (sn_var 3)) (sn_a (sn_op o_add (sn_var 2) (sn_var 2)) sn_a0))) (sn_op o_add (sn_var 5) (sn_cb1 o_tuple (sn_lc (vs := [10]) (si_seqB (sn_var 5)) (sg_name 10) sn_yes (sn_op o_add (sn_var 10) (sn_var 11)))))))) (sn_ret (SndE.bo (sn_bl false))) sn_next) 
    (sn_seq (sn_if (sn_tst (sn_op o_ne (sn_call (sn_a (sn_op o_add (sn_var 1) (sn_var 1)) sn_a0)) (sn_ifx (sn_tst (sn_op o_cmp (sn_var 12) (sn_int 0))) (sn_op o_add (sn_var 4) (sn_cb1 o_tuple (sn_lc (vs := [10]) (si_seqB (sn_var 4)) (sg_name 10) sn_yes (sn_op o_add (sn_var 10) (sn_var 11))))) (sn_tup sn_a0)))) (sn_ret (SndE.bo (sn_bl false))) sn_next) 
    (sn_seq (sn_for (si_seqS (sn_var 5)) (sg_name 10) 
    (sn_seq (sn_set 15 (sn_call (sn_a (sn_var 1) (sn_a (sn_var 10) sn_a0)))) 
    (sn_if (sn_tst (sn_op o_ne (sn_op o_in (sn_int 0) (sn_var 15)) (sn_op o_in (sn_var 10) (sn_var 4)))) (sn_ret (SndE.bo (sn_bl false))) sn_next))) 
    (sn_ret (SndE.bo (sn_bl true))))))))))))))))))))))))) h⟩
end
def y_law : F1 Out := (sSeq (sIf (bOr (bV (e2 gNe (eCall d_begins_ahead (eA (eTup (eA (eC (.int 1)) (eA (eC (.int 1)) (eA (e1 gNeg (eC (.int 1))) (eA (eC (.int 1)) (eA (e1 gNeg (eC (.int 1))) eA0)))))) eA0)) (eTup (eA (eC (.int 0)) eA0)))) (bV (e2 gNe (eCall d_stations_round (eA (eTup (eA (eC (.int 1)) (eA (eC (.int 0)) eA0))) (eA (eTup (eA (eC (.int 0)) (eA (eC (.int 1)) eA0))) eA0))) (eTup (eA (eC (.int 0)) eA0))))) (sRet (eC (.bool false))) sNext) 
    (sRet (e1 gAll (eLc [2] (iRange1 (eC (.int 8))) (gSet 2) bYes (eCall d__law_is_right (eA (eVar 1) eA0))))))
section
variable {P : Program} {w : World} {K : PySem.W.Frag} {mg : Str → Option Value} {base : Heap} {A : Nat → Addr} {D : Nat → FuncData}
theorem ok_law (T : Txt K mg A D) (M : ∀ ns : List Int, ns.length ≤ 63 → ∃ w', y_law (Slot.no :: Slot.sh hnd :: List.replicate (n_law.length - 2) Slot.no) (hw ns) = some (.rt (.bool true), w')) : FnOk P w K mg base CX0 7 (A 21) (D 21) p_law (spLaw K) :=
  T.f_law.F.ok sc_law (fun vs H Q E h => by obtain ⟨a, ns, rfl, _⟩ := h; rfl) fun cdv Ar outer s H vs Q E hr h => by
    have hu := hr.units
    obtain ⟨a, ns, rfl, hS, hl, k⟩ := h
    obtain ⟨w', e⟩ := M ns hl
    exact ⟨_, pss_cons (ps_set (i := 1) sc_law.nd rfl (by first | exact Or.inl rfl | exact Or.inr rfl) (pe_call (ok__law_hand T) (hr.mono (by decide)) rfl T.f__law_hand.mg T.f__law_hand.F.kp T.f__law_hand.b .nil pass0 (pa_cons (pv 0) pa_nil)))
    (pss_cons (ps_if (PW.pt (pw_or (pt_cmpR (opNe hu) (pe_call (ok_begins_ahead T) (hr.mono (by decide)) rfl T.f_begins_ahead.mg T.f_begins_ahead.F.kp T.f_begins_ahead.b .nil pass0 (pa_cons (pe_tup (pa_cons pe_int (pa_cons pe_int (pa_cons (pe_un un_neg pe_int) (pa_cons pe_int (pa_cons (pe_un un_neg pe_int) pa_nil)))))) pa_nil)) (pe_tup (pa_cons pe_int pa_nil)) (nomark _)) (pw_or1 (pt_cmpR (opNe hu) (pe_call (ok_stations_round T) (hr.mono (by decide)) rfl T.f_stations_round.mg T.f_stations_round.F.kp T.f_stations_round.b .nil pass0 (pa_cons (pe_tup (pa_cons pe_int (pa_cons pe_int pa_nil))) (pa_cons (pe_tup (pa_cons pe_int (pa_cons pe_int pa_nil))) pa_nil))) (pe_tup (pa_cons pe_int pa_nil)) (nomark _))))) (pss_one (ps_ret pe_bl)) pss_nil)
    (pss_one (ps_ret (pe_callB (cr_all rfl) (by rfl) T.b_all bb_all (pa_cons (pe_lc (own := [("lap", 2)]) (tt := tYes) rfl sc_law.nd (pi_range1 rfl T.b_range (pa_cons pe_int pa_nil)) (blkOk_by (own := [("lap", 2)]) (N := n_law) (sc := defScope s_law) (by decide +kernel)) (fun _ _ _ _ _ => (pg_name (i := 2) sc_law.nd rfl (by first | exact Or.inl rfl | exact Or.inr rfl))) (fun _ _ _ _ _ => pts_nil) (fun _ _ _ _ _ => (pe_call (ok__law_is_right T) (hr.mono (by decide)) rfl T.f__law_is_right.mg T.f__law_is_right.F.kp T.f__law_is_right.b .nil pass0 (pa_cons (pv 1) pa_nil)))) pa_nil))))),
    ⟨.ref a, rfl, a, ns, rfl, hS, hl, fun p c H' np nc hh => law_go (N := n_law) (f := y_law) ((sn_seq (sn_if (sn_or (sn_tst (sn_op o_ne (sn_call (sn_a (sn_tup (sn_a (sn_int 1) (sn_a (sn_int 1) (sn_a (sn_un o_neg (sn_int 1)) (sn_a (sn_int 1) (sn_a (sn_un o_neg (sn_int 1)) sn_a0)))))) sn_a0)) (sn_tup (sn_a (sn_int 0) sn_a0)))) (sn_tst (sn_op o_ne (sn_call (sn_a (sn_tup (sn_a (sn_int 1) (sn_a (sn_int 0) sn_a0))) (sn_a (sn_tup (sn_a (sn_int 0) (sn_a (sn_int 1) sn_a0))) sn_a0))) (sn_tup (sn_a (sn_int 0) sn_a0))))) (sn_ret (SndE.bo (sn_bl false))) sn_next) 
    (sn_ret (SndE.bo (sn_cb1 o_all (sn_lc (vs := [2]) (SndI.bo (si_range1 (sn_int 8))) (sg_name 2) sn_yes (sn_call (sn_a (sn_var 1) sn_a0)))))))) rfl (by decide) hh e k⟩⟩
end
/-- a def as the top left it -/
structure At (K : PySem.W.Frag) (x : Str) (st : Stmt) (a : Addr) : Prop where
  ns : PySem.W.nsIn K mainGlobals x = some (some (.ref a))
  ex : ∃ (oc : Value) (od : Option Addr) (kV doc pm : Value) (an : Option Addr) (cdv ct : Value) (osl : Array (Option Value)), K.lookup a = some ⟨oc, od, .func (PySem.W.fnOf x x (defArgs st) (defBody st) (defScope st) .none kV doc pm an cdv ct), osl⟩ ∧ PySem.W.codeIn K cdv x = true
  kp : PySem.W.keepIn K (.ref a) = true
theorem At.of {K : PySem.W.Frag} {x : Str} {st : Stmt} {a : Addr} {oc : Value} {od : Option Addr} {kV doc pm : Value} {an : Option Addr} {cdv ct : Value} {osl : Array (Option Value)} (n : PySem.W.nsIn K mainGlobals x = some (some (.ref a)))
    (l : K.lookup a = some ⟨oc, od, .func (PySem.W.fnOf x x (defArgs st) (defBody st) (defScope st) .none kV doc pm an cdv ct), osl⟩) (c : PySem.W.codeIn K cdv x = true) (k : PySem.W.keepIn K (.ref a) = true) : At K x st a := ⟨n, ⟨oc, od, kV, doc, pm, an, cdv, ct, osl, l, c⟩, k⟩
theorem At.fn {K : PySem.W.Frag} {h : Heap} {mg : Str → Option Value} {x : Str} {st : Stmt} {a : Addr} {ps : List Str} (t : At K x st a) (X : K.In h) (G : h.Ns mainGlobals mg)
    (hb : ∀ (kV doc pm : Value) (an : Option Addr) (cdv ct : Value) (us : List Value), us.length = ps.length → bindArgs (PySem.W.fnOf x x (defArgs st) (defBody st) (defScope st) .none kV doc pm an cdv ct) ⟨us, []⟩ = pure (ps.zip us)) : ∃ fd, Fn K mg x st ps a fd ∧ ∀ (s : Shared) (us : List Value), us.length = ps.length → BindsTo s fd ⟨us, []⟩ (ps.zip us) := by
  obtain ⟨oc, od, kV, doc, pm, an, cdv, ct, osl, l, c⟩ := t.ex
  have F := fun_mk (st := st) l c t.kp
  exact ⟨_, ⟨PySem.W.mg_of X G t.ns, F, F.binds hb⟩, fun s us hl => .of_eq (hb _ _ _ _ _ _ us hl)⟩
theorem all_mk {P : Program} {w : World} {K : PySem.W.Frag} {h : Heap} {mg : Str → Option Value} {fa : Addr} (X : K.In h) (G : h.Ns mainGlobals mg) (hfa : mg "law" = some (.ref fa))
    (M : ∀ ns : List Int, ns.length ≤ 63 → ∃ w', y_law (Slot.no :: Slot.sh hnd :: List.replicate (n_law.length - 2) Slot.no) (hw ns) = some (.rt (.bool true), w'))
    {a0 : Addr} (t0 : At K "is_integer" s_is_integer a0) {a1 : Addr} (t1 : At K "is_within" s_is_within a1) {a2 : Addr} (t2 : At K "is_sized" s_is_sized a2) {a3 : Addr} (t3 : At K "are_within" s_are_within a3) {a4 : Addr} (t4 : At K "check_takings" s_check_takings a4) {a5 : Addr} (t5 : At K "sums_round" s_sums_round a5) {a6 : Addr} (t6 : At K "raw_begins" s_raw_begins a6) {a7 : Addr} (t7 : At K "begins_ahead" s_begins_ahead a7) {a8 : Addr} (t8 : At K "first_behind" s_first_behind a8) {a9 : Addr} (t9 : At K "ahead_told" s_ahead_told a9) {a10 : Addr} (t10 : At K "check_fills" s_check_fills a10) {a11 : Addr} (t11 : At K "raw_stations" s_raw_stations a11) {a12 : Addr} (t12 : At K "stations_round" s_stations_round a12) {a13 : Addr} (t13 : At K "station_told" s_station_told a13) {a14 : Addr} (t14 : At K "_law_hand" s__law_hand a14) {a15 : Addr} (t15 : At K "_law_draw" s__law_draw a15) {a16 : Addr} (t16 : At K "_law_any" s__law_any a16) {a17 : Addr} (t17 : At K "_law_sums" s__law_sums a17) {a18 : Addr} (t18 : At K "_law_takings" s__law_takings a18) {a19 : Addr} (t19 : At K "_law_turned" s__law_turned a19) {a20 : Addr} (t20 : At K "_law_is_right" s__law_is_right a20) {a21 : Addr} (t21 : At K "law" s_law a21)
    (z_abs : PySem.W.nsIn K mainGlobals "abs" = some none) (z_all : PySem.W.nsIn K mainGlobals "all" = some none) (z_bool : PySem.W.nsIn K mainGlobals "bool" = some none) (z_int : PySem.W.nsIn K mainGlobals "int" = some none) (z_isinstance : PySem.W.nsIn K mainGlobals "isinstance" = some none) (z_len : PySem.W.nsIn K mainGlobals "len" = some none) (z_max : PySem.W.nsIn K mainGlobals "max" = some none) (z_min : PySem.W.nsIn K mainGlobals "min" = some none) (z_range : PySem.W.nsIn K mainGlobals "range" = some none) (z_sorted : PySem.W.nsIn K mainGlobals "sorted" = some none) (z_sum : PySem.W.nsIn K mainGlobals "sum" = some none) (z_tuple : PySem.W.nsIn K mainGlobals "tuple" = some none) (z_zip : PySem.W.nsIn K mainGlobals "zip" = some none)
    {t_FALLS_SHORT : Nat} (y_FALLS_SHORT : PySem.W.nsIn K mainGlobals "FALLS_SHORT" = some (some (.str "short" t_FALLS_SHORT))) {t_FROM_BEGIN : Nat} (y_FROM_BEGIN : PySem.W.nsIn K mainGlobals "FROM_BEGIN" = some (some (.str "begin" t_FROM_BEGIN))) {t_GOES_FROM : Nat} (y_GOES_FROM : PySem.W.nsIn K mainGlobals "GOES_FROM" = some (some (.str "from" t_GOES_FROM))) {t_LEAST_TAKING : Nat} (y_LEAST_TAKING : PySem.W.nsIn K mainGlobals "LEAST_TAKING" = some (some (.int (-9) t_LEAST_TAKING))) {t_MOST_FILL : Nat} (y_MOST_FILL : PySem.W.nsIn K mainGlobals "MOST_FILL" = some (some (.int (1000) t_MOST_FILL))) {t_MOST_STATIONS : Nat} (y_MOST_STATIONS : PySem.W.nsIn K mainGlobals "MOST_STATIONS" = some (some (.int (12) t_MOST_STATIONS))) {t_MOST_TAKINGS : Nat} (y_MOST_TAKINGS : PySem.W.nsIn K mainGlobals "MOST_TAKINGS" = some (some (.int (24) t_MOST_TAKINGS))) :
    ∃ fd : FuncData, (∀ (s : Shared) (v : Value), BindsTo s fd ⟨[v], []⟩ [("script", v)]) ∧ ∀ base : Heap, K.In base → base.Ns mainGlobals mg → FnOk P w K mg base CX0 7 fa fd ["script"] (spLaw K) := by
  obtain ⟨d0, f0, g0⟩ := t0.fn (ps := p_is_integer) X G (fun _ _ _ _ _ _ us hl => match us, hl with | [_], _ => rfl)
  obtain ⟨d1, f1, g1⟩ := t1.fn (ps := p_is_within) X G (fun _ _ _ _ _ _ us hl => match us, hl with | [_, _, _], _ => rfl)
  obtain ⟨d2, f2, g2⟩ := t2.fn (ps := p_is_sized) X G (fun _ _ _ _ _ _ us hl => match us, hl with | [_, _, _], _ => rfl)
  obtain ⟨d3, f3, g3⟩ := t3.fn (ps := p_are_within) X G (fun _ _ _ _ _ _ us hl => match us, hl with | [_, _, _], _ => rfl)
  obtain ⟨d4, f4, g4⟩ := t4.fn (ps := p_check_takings) X G (fun _ _ _ _ _ _ us hl => match us, hl with | [_], _ => rfl)
  obtain ⟨d5, f5, g5⟩ := t5.fn (ps := p_sums_round) X G (fun _ _ _ _ _ _ us hl => match us, hl with | [_, _], _ => rfl)
  obtain ⟨d6, f6, g6⟩ := t6.fn (ps := p_raw_begins) X G (fun _ _ _ _ _ _ us hl => match us, hl with | [_], _ => rfl)
  obtain ⟨d7, f7, g7⟩ := t7.fn (ps := p_begins_ahead) X G (fun _ _ _ _ _ _ us hl => match us, hl with | [_], _ => rfl)
  obtain ⟨d8, f8, g8⟩ := t8.fn (ps := p_first_behind) X G (fun _ _ _ _ _ _ us hl => match us, hl with | [_, _], _ => rfl)
  obtain ⟨d9, f9, g9⟩ := t9.fn (ps := p_ahead_told) X G (fun _ _ _ _ _ _ us hl => match us, hl with | [_], _ => rfl)
  obtain ⟨d10, f10, g10⟩ := t10.fn (ps := p_check_fills) X G (fun _ _ _ _ _ _ us hl => match us, hl with | [_, _], _ => rfl)
  obtain ⟨d11, f11, g11⟩ := t11.fn (ps := p_raw_stations) X G (fun _ _ _ _ _ _ us hl => match us, hl with | [_, _], _ => rfl)
  obtain ⟨d12, f12, g12⟩ := t12.fn (ps := p_stations_round) X G (fun _ _ _ _ _ _ us hl => match us, hl with | [_, _], _ => rfl)
  obtain ⟨d13, f13, g13⟩ := t13.fn (ps := p_station_told) X G (fun _ _ _ _ _ _ us hl => match us, hl with | [_, _], _ => rfl)
  obtain ⟨d14, f14, g14⟩ := t14.fn (ps := p__law_hand) X G (fun _ _ _ _ _ _ us hl => match us, hl with | [_], _ => rfl)
  obtain ⟨d15, f15, g15⟩ := t15.fn (ps := p__law_draw) X G (fun _ _ _ _ _ _ us hl => match us, hl with | [_, _], _ => rfl)
  obtain ⟨d16, f16, g16⟩ := t16.fn (ps := p__law_any) X G (fun _ _ _ _ _ _ us hl => match us, hl with | [_, _], _ => rfl)
  obtain ⟨d17, f17, g17⟩ := t17.fn (ps := p__law_sums) X G (fun _ _ _ _ _ _ us hl => match us, hl with | [_, _], _ => rfl)
  obtain ⟨d18, f18, g18⟩ := t18.fn (ps := p__law_takings) X G (fun _ _ _ _ _ _ us hl => match us, hl with | [_], _ => rfl)
  obtain ⟨d19, f19, g19⟩ := t19.fn (ps := p__law_turned) X G (fun _ _ _ _ _ _ us hl => match us, hl with | [_, _, _], _ => rfl)
  obtain ⟨d20, f20, g20⟩ := t20.fn (ps := p__law_is_right) X G (fun _ _ _ _ _ _ us hl => match us, hl with | [_], _ => rfl)
  obtain ⟨d21, f21, g21⟩ := t21.fn (ps := p_law) X G (fun _ _ _ _ _ _ us hl => match us, hl with | [_], _ => rfl)
  have T : Txt K mg (fun i => match i with | 0 => a0 | 1 => a1 | 2 => a2 | 3 => a3 | 4 => a4 | 5 => a5 | 6 => a6 | 7 => a7 | 8 => a8 | 9 => a9 | 10 => a10 | 11 => a11 | 12 => a12 | 13 => a13 | 14 => a14 | 15 => a15 | 16 => a16 | 17 => a17 | 18 => a18 | 19 => a19 | 20 => a20 | 21 => a21 | _ => 0) (fun i => match i with | 0 => d0 | 1 => d1 | 2 => d2 | 3 => d3 | 4 => d4 | 5 => d5 | 6 => d6 | 7 => d7 | 8 => d8 | 9 => d9 | 10 => d10 | 11 => d11 | 12 => d12 | 13 => d13 | 14 => d14 | 15 => d15 | 16 => d16 | 17 => d17 | 18 => d18 | 19 => d19 | 20 => d20 | 21 => d21 | _ => d0) := ⟨f0, f1, f2, f3, f4, f5, f6, f7, f8, f9, f10, f11, f12, f13, f14, f15, f16, f17, f18, f19, f20, f21, PySem.W.mg_none_of X G z_abs, PySem.W.mg_none_of X G z_all, PySem.W.mg_none_of X G z_bool, PySem.W.mg_none_of X G z_int, PySem.W.mg_none_of X G z_isinstance, PySem.W.mg_none_of X G z_len, PySem.W.mg_none_of X G z_max, PySem.W.mg_none_of X G z_min, PySem.W.mg_none_of X G z_range, PySem.W.mg_none_of X G z_sorted, PySem.W.mg_none_of X G z_sum, PySem.W.mg_none_of X G z_tuple, PySem.W.mg_none_of X G z_zip, ⟨t_FALLS_SHORT, PySem.W.mg_of X G y_FALLS_SHORT⟩, ⟨t_FROM_BEGIN, PySem.W.mg_of X G y_FROM_BEGIN⟩, ⟨t_GOES_FROM, PySem.W.mg_of X G y_GOES_FROM⟩, ⟨t_LEAST_TAKING, PySem.W.mg_of X G y_LEAST_TAKING⟩, ⟨t_MOST_FILL, PySem.W.mg_of X G y_MOST_FILL⟩, ⟨t_MOST_STATIONS, PySem.W.mg_of X G y_MOST_STATIONS⟩, ⟨t_MOST_TAKINGS, PySem.W.mg_of X G y_MOST_TAKINGS⟩⟩
  have e := hfa.symm.trans f21.mg
  cases e
  exact ⟨d21, fun s v => g21 s [v] rfl, fun base _ _ => ok_law T M⟩
theorem walk {l : PySem.W.OpenLaw} {q : Program} {loose : List Str} {XP : (Str → Option Value) → Heap → Prop} {YP : World → Heap → Prop} {d : DefRec} {K : Params → PySem.W.Frag} (hn : l.most = some 63) (hdf : d.params.defaults = [])
    (hY : ∀ (w : World) (h : Heap), YP w h → (K w.params).In h)
    (F : ∀ (w : World) (mg : Str → Option Value) (fa : Addr) (h : Heap), (K w.params).In h → h.Ns mainGlobals mg → mg d.name = some (.ref fa) →
      ∃ fd : FuncData, (∀ (s : Shared) (u : Value), BindsTo s fd ⟨[u], []⟩ [("script", u)]) ∧ ∀ base : Heap, (K w.params).In base → base.Ns mainGlobals mg → FnOk l.prog w (K w.params) mg base CX0 7 fa fd ["script"] (spLaw (K w.params))) :
    PySem.W.WalkO q loose XP YP l.row.toRowW d [] (fun f vs => PySem.call f vs) :=
  L2.walk_of (n := 63) (k := 7) (x := "script") (CX := fun _ => CX0) (sp := fun w => spLaw (K w.params)) hn (by decide) hdf ⟨rfl, by decide, by decide⟩ hY F (fun _ _ a ns hl _ hS => ⟨a, ns, rfl, hS, hl, fun _ => rfl⟩) fun _ _ _ _ _ z => z
end K04

set_option autoImplicit false
namespace K04
open PySem L2 DL
/-! rows gone round, in plain words -/
def ps (a : Int) : List Int → List Int
  | [] => []
  | x :: xs => (a + x) :: ps (a + x) xs
def P (T : Nat → Int) : Nat → Int
  | 0 => 0
  | n + 1 => P T n + T n
theorem ps_range (T : Nat → Int) (b : Nat) : ∀ (n a : Nat), ps (P T (b + a) - P T b) ((List.range n).map fun k => T (b + a + k)) = (List.range n).map fun k => P T (b + a + k + 1) - P T b
  | 0, _ => rfl
  | n + 1, a => by
    rw [List.range_succ_eq_map, List.map_cons, List.map_cons, List.map_map, List.map_map, ps]
    have q : P T (b + a) - P T b + T (b + a + 0) = P T (b + (a + 1)) - P T b := by
      show _ = P T (b + a) + T (b + a) - P T b
      rw [Nat.add_zero]; omega
    rw [q]
    have r := ps_range T b n (a + 1)
    have f1 : ((fun k => T (b + a + k)) ∘ Nat.succ) = fun k => T (b + (a + 1) + k) := by
      funext k
      show T (b + a + (k + 1)) = T (b + (a + 1) + k)
      congr 1; omega
    have f2 : ((fun k => P T (b + a + k + 1) - P T b) ∘ Nat.succ) = fun k => P T (b + (a + 1) + k + 1) - P T b := by
      funext k
      show P T (b + a + (k + 1) + 1) - P T b = P T (b + (a + 1) + k + 1) - P T b
      congr 2; omega
    rw [f1, f2, r]
    rfl
theorem ps_all (T : Nat → Int) (b n : Nat) : ps 0 ((List.range n).map fun k => T (b + k)) = (List.range n).map fun k => P T (b + k + 1) - P T b := by
  have h := ps_range T b n 0
  simpa using h
/-- the row as it goes on for ever -/
def on (t : List Int) (j : Nat) : Int := t.getD (j % t.length) 0
theorem on_lt {t : List Int} {j : Nat} (h : j < t.length) : on t j = t[j] := by
  simp [on, Nat.mod_eq_of_lt h, List.getD, List.getElem?_eq_getElem h]
theorem rot_eq {t : List Int} {b : Nat} (h : b ≤ t.length) : t.drop b ++ t.take b = (List.range t.length).map fun k => on t (b + k) := by
  apply List.ext_getElem
  · simp; omega
  · intro i h1 h2
    have hi : i < t.length := by simpa using h2
    rw [List.getElem_map, List.getElem_range]
    by_cases c : i < t.length - b
    · rw [List.getElem_append_left (by simpa using c), List.getElem_drop, on_lt]
    · rw [List.getElem_append_right (by simpa using c), List.getElem_take]
      have e : (b + i) % t.length = i - (t.length - b) := by
        have : b + i = (i - (t.length - b)) + t.length := by omega
        rw [this, Nat.add_mod_right, Nat.mod_eq_of_lt (by omega)]
      have hl : i - (t.length - b) < t.length := by omega
      simp [on, e, List.getD, List.getElem?_eq_getElem hl]
def sums (t : List Int) (b : Nat) : List Int := (List.range t.length).map fun k => P (on t) (b + k + 1) - P (on t) b
theorem ps_rot {t : List Int} {b : Nat} (h : b ≤ t.length) : ps 0 (t.drop b ++ t.take b) = sums t b := by
  rw [rot_eq h, ps_all]; rfl
def lo : List Int → Int
  | [] => 0
  | x :: xs => xs.foldl min x
theorem foldl_min_ge (c : Int) : ∀ (xs : List Int) (x : Int), c ≤ xs.foldl min x ↔ c ≤ x ∧ ∀ y ∈ xs, c ≤ y
  | [], x => by simp
  | y :: ys, x => by
    rw [List.foldl_cons, foldl_min_ge c ys (min x y)]
    simp only [List.mem_cons, forall_eq_or_imp]
    constructor
    · rintro ⟨a, b⟩; exact ⟨by omega, by omega, b⟩
    · rintro ⟨a, b, d⟩; exact ⟨by omega, d⟩
theorem lo_ge {xs : List Int} (h : xs ≠ []) (c : Int) : c ≤ lo xs ↔ ∀ y ∈ xs, c ≤ y := by
  cases xs with
  | nil => exact absurd rfl h
  | cons x xs => simp [lo, foldl_min_ge]
/-- from b on, all sums are c or more -/
def Ok (c : Int) (T : Nat → Int) (n b : Nat) : Prop := ∀ k, k < n → c ≤ P T (b + k + 1) - P T b
theorem lo_sums {t : List Int} (h : t ≠ []) (c : Int) (b : Nat) : c ≤ lo (sums t b) ↔ Ok c (on t) t.length b := by
  have hl : 0 < t.length := List.length_pos_iff.mpr h
  rw [lo_ge (by simp [sums]; omega)]
  simp only [sums, List.mem_map, List.mem_range, forall_exists_index, and_imp, Ok]
  constructor
  · exact fun q k hk => q _ k hk rfl
  · rintro q _ k hk rfl; exact q k hk
theorem P_add (T : Nat → Int) (b : Nat) : ∀ k, P T (b + k) = P T b + P (fun j => T (b + j)) k
  | 0 => by simp [P]
  | k + 1 => by
    show P T (b + k) + T (b + k) = P T b + (P (fun j => T (b + j)) k + T (b + k))
    rw [P_add T b k]; omega
theorem P_congr {T U : Nat → Int} (h : ∀ j, T j = U j) (k : Nat) : P T k = P U k := by
  have : T = U := funext h
  rw [this]
theorem on_per (t : List Int) (j : Nat) : on t (t.length + j) = on t j := by simp [on]
theorem P_sum (t : List Int) : ∀ n, n ≤ t.length → P (on t) n = (t.take n).sum
  | 0, _ => by simp [P]
  | n + 1, h => by
    have hn : n < t.length := by omega
    rw [P, P_sum t n (by omega), on_lt hn, List.take_succ_eq_append_getElem hn, List.sum_append]
    simp
theorem P_whole (t : List Int) : P (on t) t.length = t.sum := by rw [P_sum t _ (Nat.le_refl _), List.take_length]
theorem P_per (t : List Int) (b : Nat) : P (on t) (b + t.length) = P (on t) b + t.sum := by
  rw [Nat.add_comm, P_add, P_whole, P_congr (fun j => on_per t j)]; omega
/-- all that comes behind b, over as many laps as one likes -/
theorem P_laps (t : List Int) (b : Nat) : ∀ m : Nat, P (on t) (b + m * t.length) = P (on t) b + m * t.sum
  | 0 => by simp
  | m + 1 => by
    have : b + (m + 1) * t.length = (b + m * t.length) + t.length := by rw [Nat.add_mul]; omega
    rw [this, P_per, P_laps t b m]
    have : ((m + 1 : Nat) : Int) * t.sum = m * t.sum + t.sum := by
      rw [Int.natCast_add, Int.add_mul]; simp
    omega
theorem Ok_per (t : List Int) (c : Int) (n b : Nat) : Ok c (on t) n (b + t.length) ↔ Ok c (on t) n b := by
  unfold Ok
  constructor
  · intro h k hk
    have := h k hk
    have e : b + t.length + k + 1 = (b + k + 1) + t.length := by omega
    rw [e, P_per, P_per] at this
    omega
  · intro h k hk
    have := h k hk
    have e : b + t.length + k + 1 = (b + k + 1) + t.length := by omega
    rw [e, P_per, P_per]
    omega
theorem on_map {t : List Int} (h : t ≠ []) (f : Int → Int) (j : Nat) : on (t.map f) j = f (on t j) := by
  have hl : 0 < t.length := List.length_pos_iff.mpr h
  have hj : j % t.length < t.length := Nat.mod_lt _ hl
  simp [on, List.getD, List.getElem?_eq_getElem hj]
theorem P_mul (a d : Int) (T : Nat → Int) : ∀ k : Nat, P (fun j => a * T j + d) k = a * P T k + d * k
  | 0 => by simp [P]
  | k + 1 => by
    show P (fun j => a * T j + d) k + (a * T k + d) = a * (P T k + T k) + d * ((k + 1 : Nat) : Int)
    rw [P_mul a d T k, Int.mul_add, Int.natCast_add, Int.mul_add]; simp; omega
/-- the stations of a row scaled -/
theorem Ok_scale {t : List Int} (h : t ≠ []) {m : Int} (hm : 1 ≤ m) (b : Nat) : Ok 0 (on (t.map fun x => m * x)) t.length b ↔ Ok 0 (on t) t.length b := by
  have q : ∀ k, P (on (t.map fun x => m * x)) k = m * P (on t) k := fun k => by
    rw [P_congr (U := fun j => m * on t j + 0) (fun j => by rw [on_map h]; omega), P_mul]; omega
  unfold Ok
  simp only [q, ← Int.mul_sub]
  constructor
  · intro g k hk
    have := g k hk
    by_cases c : P (on t) (b + k + 1) - P (on t) b < 0
    · have := Int.mul_neg_of_pos_of_neg (by omega : 0 < m) c
      omega
    · omega
  · intro g k hk
    exact Int.mul_nonneg (by omega) (g k hk)
theorem Ok_great {t : List Int} (h : t ≠ []) (b : Nat) : Ok 0 (on (t.map fun x => ((t.length : Int) + 1) * x - 1)) t.length b ↔ Ok 1 (on t) t.length b := by
  have q : ∀ k : Nat, P (on (t.map fun x => ((t.length : Int) + 1) * x - 1)) k = ((t.length : Int) + 1) * P (on t) k - k := fun k => by
    rw [P_congr (U := fun j => ((t.length : Int) + 1) * on t j + (-1)) (fun j => by rw [on_map h]; omega), P_mul]; omega
  unfold Ok
  constructor
  · intro g k hk
    have h1 := g k hk
    rw [q, q] at h1
    by_cases c : P (on t) (b + k + 1) - P (on t) b ≤ 0
    · have h2 := Int.mul_nonneg (by omega : 0 ≤ (t.length : Int) + 1) (by omega : 0 ≤ -(P (on t) (b + k + 1) - P (on t) b))
      rw [Int.mul_neg, Int.mul_sub] at h2
      omega
    · omega
  · intro g k hk
    have h1 := g k hk
    rw [q, q]
    have h2 := Int.mul_nonneg (by omega : 0 ≤ (t.length : Int) + 1) (by omega : 0 ≤ (P (on t) (b + k + 1) - P (on t) b) - 1)
    rw [Int.mul_sub, Int.mul_sub] at h2
    omega
theorem on_rot {t : List Int} (h : t ≠ []) {r : Nat} (hr : r ≤ t.length) (j : Nat) : on (t.drop r ++ t.take r) j = on t (r + j) := by
  have hl : 0 < t.length := List.length_pos_iff.mpr h
  have hj : j % t.length < t.length := Nat.mod_lt _ hl
  rw [rot_eq hr]
  show ((List.range t.length).map fun k => on t (r + k)).getD (j % ((List.range t.length).map fun k => on t (r + k)).length) 0 = _
  rw [List.length_map, List.length_range]
  simp only [List.getD, List.getElem?_map, List.getElem?_range hj, Option.map_some, Option.getD_some]
  unfold on
  congr 1
  rw [Nat.add_mod, Nat.mod_mod, ← Nat.add_mod]
theorem Ok_rot {t : List Int} (h : t ≠ []) {r : Nat} (hr : r ≤ t.length) (c : Int) (n b : Nat) : Ok c (on (t.drop r ++ t.take r)) n b ↔ Ok c (on t) n (r + b) := by
  have q : ∀ k, P (on (t.drop r ++ t.take r)) k = P (on t) (r + k) - P (on t) r := fun k => by
    rw [P_congr (U := fun j => on t (r + j)) (fun j => on_rot h hr j), P_add (on t) r k]; omega
  unfold Ok
  constructor
  · intro g k hk
    have h1 := g k hk
    rw [q, q] at h1
    have e : r + b + k + 1 = r + (b + k + 1) := by omega
    rw [e]; omega
  · intro g k hk
    have h1 := g k hk
    rw [q, q]
    have e : r + b + k + 1 = r + (b + k + 1) := by omega
    rw [e] at h1; omega
theorem on_twice {t : List Int} (h : t ≠ []) (j : Nat) : on (t ++ t) j = on t j := by
  have hl : 0 < t.length := List.length_pos_iff.mpr h
  have h2 : j % (t.length + t.length) < t.length + t.length := Nat.mod_lt _ (by omega)
  have e : j % (t.length + t.length) % t.length = j % t.length := Nat.mod_mod_of_dvd _ ⟨2, by omega⟩
  unfold on
  rw [List.length_append]
  by_cases c : j % (t.length + t.length) < t.length
  · rw [← e, Nat.mod_eq_of_lt c]
    simp [List.getD, List.getElem?_append_left c]
  · have e2 : j % t.length = j % (t.length + t.length) - t.length := by
      rw [← e, Nat.mod_eq_sub_mod (by omega), Nat.mod_eq_of_lt (by omega)]
    rw [e2]
    simp only [List.getD]
    rw [List.getElem?_append_right (by omega)]
theorem Ok_twice {t : List Int} (h : t ≠ []) {c : Int} (hc : 0 ≤ c) (b : Nat) : Ok c (on (t ++ t)) (t ++ t).length b ↔ Ok c (on t) t.length b := by
  have hl : 0 < t.length := List.length_pos_iff.mpr h
  have q : on (t ++ t) = on t := funext (on_twice h)
  rw [q, List.length_append]
  constructor
  · exact fun g k hk => g k (by omega)
  · intro g k hk
    by_cases d : k < t.length
    · exact g k d
    · have h1 := g (k - t.length) (by omega)
      have h2 := g (t.length - 1) (by omega)
      have e : b + k + 1 = (b + (k - t.length) + 1) + t.length := by omega
      have e2 : b + (t.length - 1) + 1 = b + t.length := by omega
      rw [e2, P_per] at h2
      rw [e, P_per]
      omega
/-! how many begins there are -/
def mn (f : Nat → Int) : Nat → Int
  | 0 => f 0
  | k + 1 => min (mn f k) (f (k + 1))
theorem mn_le (f : Nat → Int) : ∀ n k, k ≤ n → mn f n ≤ f k
  | 0, k, h => by have : k = 0 := by omega
                  subst this; exact Int.le_refl _
  | n + 1, k, h => by
    show min (mn f n) (f (n + 1)) ≤ f k
    by_cases c : k ≤ n
    · have := mn_le f n k c; omega
    · have : k = n + 1 := by omega
      subst this; omega
theorem mn_at (f : Nat → Int) : ∀ n, ∃ k, k ≤ n ∧ mn f n = f k
  | 0 => ⟨0, Nat.le_refl _, rfl⟩
  | n + 1 => by
    obtain ⟨k, a, b⟩ := mn_at f n
    by_cases c : mn f n ≤ f (n + 1)
    · exact ⟨k, by omega, by show min (mn f n) (f (n + 1)) = f k; omega⟩
    · exact ⟨n + 1, Nat.le_refl _, by show min (mn f n) (f (n + 1)) = f (n + 1); omega⟩
theorem mn_step {Q : Nat → Int} {n : Nat} {s : Int} (hs : 0 ≤ s) (hp : ∀ b, Q (b + (n + 1)) = Q b + s) (b : Nat) : mn (fun k => Q (b + k)) n = min (Q b) (mn (fun k => Q (b + 1 + k)) n) := by
  obtain ⟨k0, a0, e0⟩ := mn_at (fun k => Q (b + k)) n
  obtain ⟨k1, a1, e1⟩ := mn_at (fun k => Q (b + 1 + k)) n
  have l0 := mn_le (fun k => Q (b + k)) n
  have l1 := mn_le (fun k => Q (b + 1 + k)) n
  have z := l0 0 (Nat.zero_le _)
  rw [Nat.add_zero] at z
  have p := hp b
  have u1 : mn (fun k => Q (b + k)) n ≤ mn (fun k => Q (b + 1 + k)) n := by
    by_cases c : k1 < n
    · have h := l0 (k1 + 1) (by omega)
      have : b + (k1 + 1) = b + 1 + k1 := by omega
      rw [this] at h; omega
    · have : b + 1 + k1 = b + (n + 1) := by omega
      rw [this] at e1; omega
  have u2 : min (Q b) (mn (fun k => Q (b + 1 + k)) n) ≤ mn (fun k => Q (b + k)) n := by
    by_cases c : k0 = 0
    · subst c; rw [Nat.add_zero] at e0; omega
    · have h := l1 (k0 - 1) (by omega)
      have : b + 1 + (k0 - 1) = b + k0 := by omega
      rw [this] at h; omega
  omega
theorem goods {T : Nat → Int} {n : Nat} {s : Int} (hs : 0 ≤ s) (h1 : ∀ j, T j ≤ 1) (hp : ∀ b, P T (b + (n + 1)) = P T b + s) (p : Nat → Bool) (hg : ∀ b, p b = true ↔ Ok 1 T (n + 1) b) :
    ∀ N, (((List.range N).filter p).length : Int) = mn (fun k => P T (N + k)) n - mn (fun k => P T (0 + k)) n
  | 0 => by simp
  | N + 1 => by
    have ih := goods hs h1 hp p hg N
    have st := mn_step hs hp N
    rw [List.range_succ, List.filter_append, List.length_append]
    obtain ⟨k1, a1, e1⟩ := mn_at (fun k => P T (N + 1 + k)) n
    have l1 := mn_le (fun k => P T (N + 1 + k)) n
    by_cases g : p N = true
    · have q := (hg N).mp g k1 (by omega)
      have z := l1 0 (Nat.zero_le _)
      have t : P T (N + 1 + 0) = P T N + T N := rfl
      have := h1 N
      have e : N + k1 + 1 = N + 1 + k1 := by omega
      rw [e] at q
      have f : (List.filter p [N]).length = 1 := by simp [g]
      omega
    · have q : mn (fun k => P T (N + 1 + k)) n ≤ P T N := by
        by_cases c : mn (fun k => P T (N + 1 + k)) n ≤ P T N
        · exact c
        · exact absurd ((hg N).mpr fun k hk => by
            have := l1 k (by omega)
            have e : N + k + 1 = N + 1 + k := by omega
            rw [e]; omega) g
      have f : (List.filter p [N]).length = 0 := by simp [g]
      omega
/-- the begins from which all sums are c or more -/
def st (c : Int) (t : List Int) : List Nat := (List.range t.length).filter fun b => decide (c ≤ lo (sums t b))
def stI (c : Int) (t : List Int) : List Int := (st c t).map fun (b : Nat) => (b : Int)
theorem mem_st {c : Int} {t : List Int} (h : t ≠ []) {b : Nat} : b ∈ st c t ↔ b < t.length ∧ Ok c (on t) t.length b := by simp [st, lo_sums h]
theorem on_le {t : List Int} {m : Int} (hm : 0 ≤ m) (h : ∀ x ∈ t, x ≤ m) (j : Nat) : on t j ≤ m := by
  unfold on
  simp only [List.getD]
  cases e : t[j % t.length]? with
  | none => exact hm
  | some x => exact h x (List.mem_of_getElem? e)
theorem len_ahead {t : List Int} (h : t ≠ []) (h1 : ∀ x ∈ t, x ≤ 1) : ((st 1 t).length : Int) = max 0 t.sum := by
  have hl : 0 < t.length := List.length_pos_iff.mpr h
  by_cases hs : 0 ≤ t.sum
  · have e : t.length - 1 + 1 = t.length := by omega
    have g := goods (T := on t) (n := t.length - 1) hs (on_le (by decide) h1) (fun b => by rw [e]; exact P_per t b) (fun b => decide (1 ≤ lo (sums t b))) (fun b => by rw [e]; simp [lo_sums h]) t.length
    have a := mn_at (fun k => P (on t) (t.length + k)) (t.length - 1)
    have b := mn_at (fun k => P (on t) (0 + k)) (t.length - 1)
    have a' := mn_le (fun k => P (on t) (t.length + k)) (t.length - 1)
    have b' := mn_le (fun k => P (on t) (0 + k)) (t.length - 1)
    obtain ⟨i, i1, i2⟩ := a
    obtain ⟨j, j1, j2⟩ := b
    have c1 := a' j j1
    have c2 := b' i i1
    have q := fun k => P_per t k
    have r1 := q i
    have r2 := q j
    rw [Nat.add_comm] at r1 r2
    rw [Nat.zero_add] at j2 c2
    show ((((List.range t.length).filter fun b => decide (1 ≤ lo (sums t b))).length : Nat) : Int) = _
    omega
  · have : st 1 t = [] := by
      rw [st, List.filter_eq_nil_iff]
      intro b hb
      simp only [decide_eq_true_eq, lo_sums h]
      intro g
      have := g (t.length - 1) (by omega)
      have e : b + (t.length - 1) + 1 = b + t.length := by omega
      rw [e, P_per] at this
      omega
    rw [this]
    simp; omega
theorem never_iff {t : List Int} (h : t ≠ []) : st 0 t ≠ [] ↔ 0 ≤ t.sum := by
  have hl : 0 < t.length := List.length_pos_iff.mpr h
  constructor
  · intro q
    obtain ⟨b, hb⟩ := List.exists_mem_of_ne_nil _ q
    have := ((mem_st h).mp hb).2 (t.length - 1) (by omega)
    have e : b + (t.length - 1) + 1 = b + t.length := by omega
    rw [e, P_per] at this
    omega
  · intro hs
    obtain ⟨b, hb, eb⟩ := mn_at (P (on t)) (t.length - 1)
    have l := mn_le (P (on t)) (t.length - 1)
    refine List.ne_nil_of_mem ((mem_st h).mpr ⟨(by omega : b < t.length), fun k hk => ?_⟩)
    by_cases c : b + k + 1 ≤ t.length - 1
    · have := l _ c; omega
    · have e : b + k + 1 = (b + k + 1 - t.length) + t.length := by omega
      rw [e, P_per]
      have := l (b + k + 1 - t.length) (by omega)
      omega
theorem st_congr {c c' : Int} {t t' : List Int} (h : t ≠ []) (hl : t.length = t'.length) (q : ∀ b, Ok c (on t) t.length b ↔ Ok c' (on t') t'.length b) : st c t = st c' t' := by
  have h' : t' ≠ [] := fun e => h (List.length_eq_zero_iff.mp (by rw [hl, e]; rfl))
  unfold st
  rw [hl]
  refine List.filter_congr fun b _ => decide_eq_decide.mpr ?_
  rw [lo_sums h, lo_sums h']
  exact q b
theorem st_scale {t : List Int} (h : t ≠ []) {m : Int} (hm : 1 ≤ m) : st 0 (t.map fun x => m * x) = st 0 t :=
  st_congr (by simpa using h) (by simp) fun b => by rw [List.length_map]; exact Ok_scale h hm b
theorem st_great {t : List Int} (h : t ≠ []) : st 0 (t.map fun x => ((t.length : Int) + 1) * x - 1) = st 1 t :=
  st_congr (by simpa using h) (by simp) fun b => by rw [List.length_map]; exact Ok_great h b
theorem st_twice {t : List Int} (h : t ≠ []) {c : Int} (hc : 0 ≤ c) : st c (t ++ t) = st c t ++ (st c t).map fun b => t.length + b := by
  have h' : t ++ t ≠ [] := by simpa using h
  unfold st
  rw [List.length_append, List.range_add, List.filter_append, List.filter_map]
  have a : ∀ b, (c ≤ lo (sums (t ++ t) b)) ↔ c ≤ lo (sums t b) := fun b => by rw [lo_sums h', lo_sums h, Ok_twice h hc]
  congr 1
  · exact List.filter_congr fun b _ => decide_eq_decide.mpr (a b)
  · congr 1
    refine List.filter_congr fun b _ => decide_eq_decide.mpr ?_
    rw [a, lo_sums h, lo_sums h]
    show Ok c (on t) t.length (t.length + b) ↔ _
    rw [Nat.add_comm, Ok_per]
theorem stI_twice {t : List Int} (h : t ≠ []) {c : Int} (hc : 0 ≤ c) : stI c (t ++ t) = stI c t ++ (stI c t).map fun (b : Int) => b + (t.length : Int) := by
  unfold stI
  rw [st_twice h hc, List.map_append, List.map_map, List.map_map]
  congr 1
  refine List.map_congr_left fun b _ => ?_
  simp only [Function.comp]
  omega
theorem st_lt {c : Int} {t : List Int} : (st c t).Pairwise fun a b => a < b := List.pairwise_lt_range.filter _
theorem turned {t : List Int} (h : t ≠ []) (c : Int) {r : Nat} (hr : r < t.length) : ((stI c t).map fun a => (a - (r : Int)).fmod t.length).mergeSort = stI c (t.drop r ++ t.take r) := by
  have hl : (t.drop r ++ t.take r).length = t.length := by simp; omega
  have hq : t.drop r ++ t.take r ≠ [] := fun e => by rw [e] at hl; simp at hl; omega
  have fm : ∀ a : Nat, a < t.length → ((a : Int) - (r : Int)).fmod t.length = ((if r ≤ a then a - r else a + t.length - r : Nat) : Int) := fun a ha => by
    rw [Int.fmod_eq_emod_of_nonneg _ (by omega)]
    split
    · rw [Int.emod_eq_of_lt (by omega) (by omega)]; omega
    · rw [← Int.add_emod_right, Int.emod_eq_of_lt (by omega) (by omega)]; omega
  refine sort_is ((List.perm_ext_iff_of_nodup ?_ ?_).mpr fun x => ?_) ?_
  · unfold stI
    rw [List.map_map, List.Nodup, List.pairwise_map]
    refine st_lt.imp_of_mem fun {a b} ha hb hab => ?_
    have h1 := ((mem_st h).mp ha).1
    have h2 := ((mem_st h).mp hb).1
    simp only [Function.comp, fm a h1, fm b h2]
    split <;> split <;> omega
  · unfold stI
    rw [List.Nodup, List.pairwise_map]
    exact st_lt.imp fun {a b} hab => by omega
  · simp only [stI, List.map_map, List.mem_map, Function.comp]
    constructor
    · rintro ⟨a, ha, rfl⟩
      obtain ⟨h1, h2⟩ := (mem_st h).mp ha
      refine ⟨if r ≤ a then a - r else a + t.length - r, (mem_st hq).mpr ?_, (fm a h1).symm⟩
      rw [hl, Ok_rot h (by omega)]
      split
      · have : r + (a - r) = a := by omega
        rw [this]; exact ⟨by omega, h2⟩
      · have : r + (a + t.length - r) = a + t.length := by omega
        rw [this, Ok_per]; exact ⟨by omega, h2⟩
    · rintro ⟨b, hb, rfl⟩
      obtain ⟨h1, h2⟩ := (mem_st hq).mp hb
      rw [hl] at h1 h2
      rw [Ok_rot h (by omega)] at h2
      by_cases g : r + b < t.length
      · refine ⟨r + b, (mem_st h).mpr ⟨g, h2⟩, ?_⟩
        rw [fm _ g, if_pos (by omega)]; omega
      · refine ⟨r + b - t.length, (mem_st h).mpr ⟨by omega, ?_⟩, ?_⟩
        · rw [← Ok_per]
          have : r + b - t.length + t.length = r + b := by omega
          rw [this]; exact h2
        · rw [fm _ (by omega), if_neg (by omega)]; omega
  · unfold stI
    rw [List.pairwise_map]
    exact st_lt.imp fun {a b} hab => by omega
end K04

set_option autoImplicit false
namespace K04
open PySem L2 DL
theorem is_integer (n : Int) (w : W) : d_is_integer [.int n] w = some (.bool true, w) := by
  simp [d_is_integer, y_is_integer, fnD]
theorem is_within {n a b : Int} (h : a ≤ n) (h' : n ≤ b) (w : W) : d_is_within [.int n, .int a, .int b] w = some (.bool true, w) := by
  simp [d_is_within, y_is_within, fnD, is_integer, h, h']
theorem is_sized {ds : List D} {a b : Int} (h : a ≤ ds.length) (h' : ds.length ≤ b) (w : W) : d_is_sized [.tuple ds, .int a, .int b] w = some (.bool true, w) := by
  simp [d_is_sized, y_is_sized, fnD, h, h']
theorem are_within {t : List Int} {a b : Int} (h : ∀ x ∈ t, a ≤ x ∧ x ≤ b) (w : W) : d_are_within [.tuple (t.map .int), .int a, .int b] w = some (.bool true, w) := by
  have e := lc_map (gs := gSet 3) (ft := bYes) (fe := eCall d_is_within (eA (eVar 3) (eA (eVar 1) (eA (eVar 2) eA0)))) (env := [.sh (.tuple (t.map .int)), .sh (.int a), .sh (.int b), .no]) (w := w) (g := fun _ => .bool true) (ds := t.map .int) (fun d hd => by
    obtain ⟨x, hx, rfl⟩ := List.mem_map.mp hd
    exact ⟨_, rfl, rfl, by simp [is_within (h x hx).1 (h x hx).2]⟩)
  have q : (t.map PyData.int).map (fun _ => PyData.bool true) = (t.map fun _ => true).map .bool := by simp
  rw [q] at e
  simp [d_are_within, y_are_within, fnD, e, -List.map_map]
/-- takings as the code wants them -/
def Good (t : List Int) : Prop := t ≠ [] ∧ t.length ≤ 24 ∧ ∀ x ∈ t, -9 ≤ x ∧ x ≤ 1
theorem len1 {t : List Int} (h : t ≠ []) : 1 ≤ t.length := List.length_pos_iff.mpr h
theorem check_takings {t : List Int} (h : Good t) (w : W) : d_check_takings [.tuple (t.map .int)] w = some (.none, w) := by
  have a := is_sized (ds := t.map .int) (a := 1) (b := 24) (by have := len1 h.1; simp; omega) (by have := h.2.1; simp; omega) w
  have b := are_within h.2.2 w
  simp [d_check_takings, y_check_takings, fnD, a, b]
def Fine (t : List Int) : Prop := t ≠ [] ∧ t.length ≤ 12 ∧ ∀ x ∈ t, 0 ≤ x ∧ x ≤ 1000
theorem check_fills {f g : List Int} (hf : Fine f) (hg : Fine g) (hl : f.length = g.length) (w : W) : d_check_fills [.tuple (f.map .int), .tuple (g.map .int)] w = some (.none, w) := by
  have a := is_sized (ds := f.map .int) (a := 1) (b := 12) (by have := len1 hf.1; simp; omega) (by have := hf.2.1; simp; omega) w
  have b := are_within hf.2.2 w
  have a' := is_sized (ds := g.map .int) (a := 1) (b := 12) (by have := len1 hg.1; simp; omega) (by have := hg.2.1; simp; omega) w
  have b' := are_within hg.2.2 w
  simp [d_check_fills, y_check_fills, fnD, loopD, a, b, a', b', hl]
theorem sums_loop {body : F1 Out} {row b : D} (hb : ∀ (x a : Int) (f : List Int) (w : W), f.length < 1000 → body [.sh row, .sh b, .sh (.int x), .ow (.list (f.map .int)), .sh (.int a)] w = some (.nx [.sh row, .sh b, .sh (.int x), .ow (.list ((f ++ [a + x]).map .int)), .sh (.int (a + x))], w)) (w : W) :
    ∀ (xs : List Int) (l : Slot) (f : List Int) (a : Int), f.length + xs.length ≤ 1000 → ∃ l' a', loopD (gSet 2) body (xs.map .int) [.sh row, .sh b, l, .ow (.list (f.map .int)), .sh (.int a)] w =
      some (.nx [.sh row, .sh b, l', .ow (.list ((f ++ ps a xs).map .int)), .sh (.int a')], w)
  | [], l, f, a, _ => ⟨l, a, by simp [loopD, ps]⟩
  | x :: xs, l, f, a, h => by
    simp only [List.length_cons] at h
    obtain ⟨l', a', e⟩ := sums_loop hb w xs (.sh (.int x)) (f ++ [a + x]) (a + x) (by simp; omega)
    refine ⟨l', a', ?_⟩
    rw [List.map_cons, loopD]
    simp only [v_gSet, List.set_cons_succ, List.set_cons_zero, b_some, hb x a f w (by omega)]
    rw [e, List.append_assoc]
    rfl
theorem body1 {row b : D} (x a : Int) (f : List Int) (w : W) (h : f.length < 1000) : (sSeq (sAug 4 gAddI (eVar 2)) (sApp 3 (eVar 4))) [.sh row, .sh b, .sh (.int x), .ow (.list (f.map .int)), .sh (.int a)] w = some (.nx [.sh row, .sh b, .sh (.int x), .ow (.list ((f ++ [a + x]).map .int)), .sh (.int (a + x))], w) := by
  refine seq_nx (e' := [.sh row, .sh b, .sh (.int x), .ow (.list (f.map .int)), .sh (.int (a + x))]) (w' := w) (by simp) ?_
  rw [v_app (ds := f.map .int) (d := .int (a + x)) (w' := w) rfl rfl (by simp; omega)]
  simp
theorem body2 {row b : D} (x a : Int) (f : List Int) (w : W) (h : f.length < 1000) : (sSeq (sSet 4 (e2 gAdd (eVar 4) (eVar 2))) (sApp 3 (eVar 4))) [.sh row, .sh b, .sh (.int x), .ow (.list (f.map .int)), .sh (.int a)] w = some (.nx [.sh row, .sh b, .sh (.int x), .ow (.list ((f ++ [a + x]).map .int)), .sh (.int (a + x))], w) := by
  refine seq_nx (e' := [.sh row, .sh b, .sh (.int x), .ow (.list (f.map .int)), .sh (.int (a + x))]) (w' := w) (by simp) ?_
  rw [v_app (ds := f.map .int) (d := .int (a + x)) (w' := w) rfl rfl (by simp; omega)]
  simp
theorem rotD {t : List Int} {b : Nat} (h : b ≤ t.length) (hl : t.length ≤ 1000) : gAdd (.tuple (cutD (t.map .int) (some (b : Int)) none)) (.tuple (cutD (t.map .int) none (some (b : Int)))) = some (.tuple ((t.drop b ++ t.take b).map .int)) := by
  rw [cutD_map, cutD_map, cut_from h, cut_to, v_gAddT _ _ (by simp only [List.length_map, List.length_drop, List.length_take]; exact le_SZ (by omega)), List.map_append]
theorem sums_round {t : List Int} {b : Nat} (h : b ≤ t.length) (hl : t.length ≤ 1000) (w : W) : d_sums_round [.tuple (t.map .int), .int b] w = some (.list ((sums t b).map .int), w) := by
  obtain ⟨l', a', e⟩ := sums_loop (row := .tuple (t.map .int)) (b := .int b) body1 w (t.drop b ++ t.take b) .no [] 0 (by simp; omega)
  rw [List.nil_append, ps_rot h] at e
  have it : iItems (e2 gAdd (eSl gSl (eVar 0) (oSome (eVar 1)) oNone) (eSl gSl (eVar 0) oNone (oSome (eVar 1)))) [.sh (.tuple (t.map .int)), .sh (.int b), .no, .ow (.list []), .sh (.int 0)] w = some ((t.drop b ++ t.take b).map .int, w) := by
    simp [rotD h hl, -List.map_append]
  exact fnD_rt (seq_nx (e' := [.sh (.tuple (t.map .int)), .sh (.int b), .no, .ow (.list []), .sh (.int 0)]) (w' := w) (by simp) (seq_nx (for_ok it e) rfl))
theorem law_sums {t : List Int} {b : Nat} (h : b ≤ t.length) (hl : t.length ≤ 1000) (w : W) : d__law_sums [.tuple (t.map .int), .int b] w = some (.list ((sums t b).map .int), w) := by
  obtain ⟨l', a', e⟩ := sums_loop (row := .tuple (t.map .int)) (b := .int b) body2 w (t.drop b ++ t.take b) .no [] 0 (by simp; omega)
  rw [List.nil_append, ps_rot h] at e
  have it : iItems (e2 gAdd (eSl gSl (eVar 0) (oSome (eVar 1)) oNone) (eSl gSl (eVar 0) oNone (oSome (eVar 1)))) [.sh (.tuple (t.map .int)), .sh (.int b), .no, .ow (.list []), .sh (.int 0)] w = some ((t.drop b ++ t.take b).map .int, w) := by
    simp [rotD h hl, -List.map_append]
  exact fnD_rt (seq_nx (e' := [.sh (.tuple (t.map .int)), .sh (.int b), .no, .ow (.list []), .sh (.int 0)]) (w' := w) (by simp) (seq_nx (for_ok it e) rfl))
theorem lo_cons {xs : List Int} (h : xs ≠ []) : gMin (.list (xs.map .int)) = some (.int (lo xs)) := by
  cases xs with
  | nil => exact absurd rfl h
  | cons x xs => exact v_gMinL x xs
theorem sums_ne {t : List Int} (h : t ≠ []) (b : Nat) : sums t b ≠ [] := by
  intro e
  have q := congrArg List.length e
  exact h (by simpa [sums] using q)
/-- the begins picked by a test on the least sum -/
theorem pick {t : List Int} (c : Int) (h : t ≠ []) {env : DL.Env} {w : W} {i : Nat} {ft : F1 Bool} {fe : F1 D} (hft : ∀ b : Nat, b < t.length → ft (env.set i (.sh (.int b))) w = some (decide (c ≤ lo (sums t b)), w)) (hfe : ∀ b : Nat, fe (env.set i (.sh (.int b))) w = some (.int b, w)) :
    lcD (gSet i) ft fe env (((List.range t.length).map fun (k : Nat) => (k : Int)).map .int) w = some ((stI c t).map .int, w) := by
  have e := lc_filter (gs := gSet i) (ft := ft) (fe := fe) (env := env) (w := w) (p := fun d => match d with | .int k => decide (c ≤ lo (sums t k.toNat)) | _ => false) (g := id) (ds := ((List.range t.length).map fun (k : Nat) => (k : Int)).map .int) (fun d hd => by
    obtain ⟨x, hx, rfl⟩ := List.mem_map.mp hd
    obtain ⟨b, hb, rfl⟩ := List.mem_map.mp hx
    exact ⟨_, rfl, hft b (List.mem_range.mp hb), fun _ => hfe b⟩)
  rw [e, List.map_id, List.filter_map, List.filter_map]
  rfl
theorem raw_begins {t : List Int} (h : t ≠ []) (hl : t.length ≤ 1000) (w : W) : d_raw_begins [.tuple (t.map .int)] w = some (.list ((stI 1 t).map .int), w) := by
  refine fnD_rt (ret_ok (lc_ok (v_iRange1 (n := t.length) (w' := w) (by simp) (by omega)) (pick 1 h (fun b hb => ?_) (fun b => ?_))))
  · have e := sums_round (t := t) (b := b) (by omega) hl w
    simp [e, lo_cons (sums_ne h b)]
    omega
  · simp
theorem begins_ahead {t : List Int} (h : Good t) (w : W) : d_begins_ahead [.tuple (t.map .int)] w = some (.tuple ((stI 1 t).map .int), w) := by
  have a := check_takings h w
  have b := raw_begins h.1 (by have := h.2.1; omega) w
  have c : eCall d_raw_begins (eA (eVar 0) eA0) [.sh (.tuple (t.map .int))] w = some (.list ((stI 1 t).map .int), w) := by simp [b]
  have c' : sDrop (eCall d_check_takings (eA (eVar 0) eA0)) [.sh (.tuple (t.map .int))] w = some (.nx [.sh (.tuple (t.map .int))], w) := by simp [a]
  exact fnD_rt (seq_nx c' (ret_ok (tup_ok c)))
theorem raw_stations {f g : List Int} (h : List.zipWith (fun x y => x - y) f g ≠ []) (hl : (List.zipWith (fun x y => x - y) f g).length ≤ 1000) (w : W) : d_raw_stations [.tuple (f.map .int), .tuple (g.map .int)] w = some (.list ((stI 0 (List.zipWith (fun x y => x - y) f g)).map .int), w) := by
  have z := lc_zip (fe := e2 gSub (eVar 4) (eVar 5)) (env := [.sh (.tuple (f.map .int)), .sh (.tuple (g.map .int)), .no, .no, .no, .no]) (w := w) (gs := gTupD 2 (gsCons (gSet 4) (gsCons (gSet 5) gsNil))) (fun x y => x - y) (fun x y => ⟨[.sh (.tuple (f.map .int)), .sh (.tuple (g.map .int)), .no, .no, .sh (.int x), .sh (.int y)], rfl, by simp⟩) f g
  generalize List.zipWith (fun x y => x - y) f g = r at h hl z ⊢
  have zi : iZipD (eVar 0) (eVar 1) [.sh (.tuple (f.map .int)), .sh (.tuple (g.map .int)), .no, .no, .no, .no] w = some (zipD (f.map .int) (g.map .int), w) := by simp
  refine fnD_rt (seq_nx (set_ok (tup_ok (lc_ok zi z))) (ret_ok (lc_ok (v_iRange1 (n := r.length) (w' := w) ?_ (by omega)) (pick 0 h (fun b hb => ?_) (fun b => ?_)))))
  · simp
  · have e := sums_round (t := r) (b := b) (by omega) hl w
    simp [e, lo_cons (sums_ne h b)]
  · simp
theorem zip_ne {f g : List Int} (hf : f ≠ []) (hl : f.length = g.length) : List.zipWith (fun x y => x - y) f g ≠ [] := by
  intro e
  have q := congrArg List.length e
  have := len1 hf
  rw [List.length_zipWith, List.length_nil] at q
  omega
theorem stations_round {f g : List Int} (hf : Fine f) (hg : Fine g) (hl : f.length = g.length) (w : W) : d_stations_round [.tuple (f.map .int), .tuple (g.map .int)] w = some (.tuple ((stI 0 (List.zipWith (fun x y => x - y) f g)).map .int), w) := by
  have a := check_fills hf hg hl w
  have b := raw_stations (zip_ne hf.1 hl) (by have := hf.2.1; simp; omega) w
  have c : eCall d_raw_stations (eA (eVar 0) (eA (eVar 1) eA0)) [.sh (.tuple (f.map .int)), .sh (.tuple (g.map .int))] w = some (.list ((stI 0 (List.zipWith (fun x y => x - y) f g)).map .int), w) := by simp [b]
  have c' : sDrop (eCall d_check_fills (eA (eVar 0) (eA (eVar 1) eA0))) [.sh (.tuple (f.map .int)), .sh (.tuple (g.map .int))] w = some (.nx [.sh (.tuple (f.map .int)), .sh (.tuple (g.map .int))], w) := by simp [a]
  exact fnD_rt (seq_nx c' (ret_ok (tup_ok c)))
theorem stI_list (c : Int) (t : List Int) : (stI c t = [] ∧ st c t = []) ∨ ∃ x xs, stI c t = x :: xs := by
  unfold stI
  cases st c t with
  | nil => exact Or.inl ⟨rfl, rfl⟩
  | cons b bs => exact Or.inr ⟨_, _, rfl⟩
theorem ahead_told {t : List Int} (h : Good t) {x : Int} {xs : List Int} (hs : stI 1 t = x :: xs) (w : W) : d_ahead_told [.tuple (t.map .int)] w = some (.tuple [.str "begin", .int x], w) := by
  have a := check_takings h w
  have b := raw_begins h.1 (by have := h.2.1; omega) w
  rw [hs] at b
  have c' : sDrop (eCall d_check_takings (eA (eVar 0) eA0)) [.sh (.tuple (t.map .int)), .no, .no] w = some (.nx [.sh (.tuple (t.map .int)), .no, .no], w) := by simp [a]
  have c : eCall d_raw_begins (eA (eVar 0) eA0) [.sh (.tuple (t.map .int)), .no, .no] w = some (.list ((x :: xs).map .int), w) := by simp [b]
  refine fnD_rt (seq_nx c' (seq_nx (set_ok c) ?_))
  simp
theorem station_told {f g r : List Int} (hf : Fine f) (hg : Fine g) (hl : f.length = g.length) (hr : List.zipWith (fun x y => x - y) f g = r) (w : W) :
    (∀ x xs, stI 0 r = x :: xs → d_station_told [.tuple (f.map .int), .tuple (g.map .int)] w = some (.tuple [.str "from", .int x], w)) ∧
    (stI 0 r = [] → d_station_told [.tuple (f.map .int), .tuple (g.map .int)] w = some (.tuple [.str "short", .int (g.sum - f.sum)], w)) := by
  have a := check_fills hf hg hl w
  have b := raw_stations (zip_ne hf.1 hl) (by have := hf.2.1; simp; omega) w
  rw [hr] at b
  have c' : sDrop (eCall d_check_fills (eA (eVar 0) (eA (eVar 1) eA0))) [.sh (.tuple (f.map .int)), .sh (.tuple (g.map .int)), .no] w = some (.nx [.sh (.tuple (f.map .int)), .sh (.tuple (g.map .int)), .no], w) := by simp [a]
  have c : eCall d_raw_stations (eA (eVar 0) (eA (eVar 1) eA0)) [.sh (.tuple (f.map .int)), .sh (.tuple (g.map .int)), .no] w = some (.list ((stI 0 r).map .int), w) := by simp [b]
  constructor
  · intro x xs hx
    rw [hx] at c
    refine fnD_rt (seq_nx c' (seq_nx (set_ok c) ?_))
    simp
  · intro hx
    rw [hx] at c
    refine fnD_rt (seq_nx c' (seq_nx (set_ok c) ?_))
    simp
theorem law_turned (l : List Int) (by_ many : Int) (h : many ≠ 0) (w : W) : d__law_turned [.tuple (l.map .int), .int by_, .int many] w = some (.tuple (((l.map fun a => (a - by_).fmod many).mergeSort).map .int), w) := by
  have e := lc_mapI (gs := gSet 3) (ft := bYes) (fe := e2 gMod (e1 gToInt (e2 gSub (eVar 3) (eVar 1))) (eVar 2)) (env := [.sh (.tuple (l.map .int)), .sh (.int by_), .sh (.int many), .no]) (w := w) (g := fun a => (a - by_).fmod many) (xs := l) (fun x hx => ⟨_, rfl, rfl, by simp [v_gMod h]⟩)
  refine fnD_rt (ret_ok (tup_ok (e1_ok (lc_ok ?_ e) (v_gSorted _))))
  simp
theorem draw {w : W} {m : Int} (hw : WOk w) (h1 : 1 ≤ m) (h2 : m < 1073741824) : ∃ r w', d__law_draw [hnd, .int m] w = some (.int r, w') ∧ 0 ≤ r ∧ r < m ∧ WOk w' := draw_ok hw h1 h2
theorem anyI {w : W} {xs : List Int} (hw : WOk w) (h : xs ≠ []) (h2 : xs.length < 100000) : ∃ x w', x ∈ xs ∧ d__law_any [hnd, .list (xs.map .int)] w = some (.int x, w') ∧ WOk w' := any_int hw h h2
theorem any {w : W} {xs : List D} (hw : WOk w) (h : xs ≠ []) (h2 : xs.length < 100000) : ∃ x w', x ∈ xs ∧ d__law_any [hnd, .list xs] w = some (x, w') ∧ WOk w' := any_ok hw h h2
def In1 (x : Int) : Prop := -9 ≤ x ∧ x ≤ 1
def Good12 (t : List Int) : Prop := t ≠ [] ∧ t.length ≤ 12 ∧ ∀ x ∈ t, -9 ≤ x ∧ x ≤ 1
theorem few_ok {found : List Int} {n m : Nat} (hf : found.length = n) (h1 : 1 ≤ n) (h12 : n ≤ 12) (hx : ∀ x ∈ found, -9 ≤ x ∧ x ≤ 1) (hm : 1 ≤ m) (hm3 : m ≤ 3) :
    Good12 (((List.replicate 12 (found.take m)).flatten).take ((found.take m).length * max 1 (n / (found.take m).length))) ∧ 1 ≤ (found.take m).length ∧ (found.take m).length ≤ 3 := by
  have hl : (found.take m).length = min m n := by simp [hf]
  have a : 1 ≤ (found.take m).length := by omega
  have b : (found.take m).length ≤ 3 := by omega
  refine ⟨?_, a, b⟩
  generalize hq : found.take m = q at a b hl
  have q1 : ∀ x ∈ q, -9 ≤ x ∧ x ≤ 1 := fun x hx' => hx x (List.mem_of_mem_take (by rw [hq]; exact hx'))
  have hd : q.length * (n / q.length) ≤ n := Nat.mul_div_le _ _
  have hk : 1 ≤ q.length * max 1 (n / q.length) := Nat.mul_pos a (by omega)
  have hk2 : q.length * max 1 (n / q.length) ≤ 12 := by
    by_cases c : n / q.length ≤ 1
    · have : max 1 (n / q.length) = 1 := by omega
      rw [this]; omega
    · have : max 1 (n / q.length) = n / q.length := by omega
      rw [this]; omega
  have hfl : ((List.replicate 12 q).flatten).length = 12 * q.length := by simp; omega
  refine ⟨fun e => ?_, ?_, fun x hx' => ?_⟩
  · have := congrArg List.length e
    rw [List.length_take, hfl, List.length_nil] at this
    omega
  · rw [List.length_take]; omega
  · have := List.mem_of_mem_take hx'
    rw [List.mem_flatten] at this
    obtain ⟨l, hl', hxl⟩ := this
    rw [List.eq_of_mem_replicate hl'] at hxl
    exact q1 x hxl
theorem law_takings {w : W} (hw : WOk w) : ∃ t w', d__law_takings [hnd] w = some (.tuple (t.map .int), w') ∧ Good12 t ∧ WOk w' := by
  obtain ⟨r0, w0, E0, a0, b0, k0⟩ := draw (m := 12) hw (by decide) (by decide)
  obtain ⟨n, w1, m1, E1, k1⟩ := anyI (xs := [12, 6, 1 + r0]) k0 (by simp) (by simp)
  have hn : 1 ≤ n ∧ n ≤ 12 := by
    simp only [List.mem_cons, List.not_mem_nil, or_false] at m1
    omega
  obtain ⟨odds, w2, m2, E2, k2⟩ := anyI (xs := [2, 3, 4]) k1 (by simp) (by simp)
  have ho : 2 ≤ odds ∧ odds ≤ 4 := by
    simp only [List.mem_cons, List.not_mem_nil, or_false] at m2
    omega
  simp only [List.map_cons, List.map_nil] at E1 E2
  have s1 : sPar 4 5 false true (eA (eCall d__law_any (eA (eVar 0) (eA (eLst (eA (eC (.int 12)) (eA (eC (.int 6)) (eA (e2 gAdd (eC (.int 1)) (eCall d__law_draw (eA (eVar 0) (eA (eC (.int 12)) eA0)))) eA0)))) eA0))) (eA (eLst eA0) eA0)) [.sh hnd, .no, .no, .no, .no, .no, .no] w =
      some (.nx [.sh hnd, .no, .no, .no, .sh (.int n), .ow (.list []), .no], w1) := par_ok (by simp [E0, E1])
  have s2 : sSet 1 (eCall d__law_any (eA (eVar 0) (eA (eLst (eA (eC (.int 2)) (eA (eC (.int 3)) (eA (eC (.int 4)) eA0)))) eA0))) [.sh hnd, .no, .no, .no, .sh (.int n), .ow (.list []), .no] w1 = some (.nx [.sh hnd, .sh (.int odds), .no, .no, .sh (.int n), .ow (.list []), .no], w2) := set_ok (by simp [E2])
  have hN : ∃ N : Nat, n = (N : Int) := ⟨n.toNat, by omega⟩
  obtain ⟨N, rfl⟩ := hN
  obtain ⟨e', w3, s3, s, c, f, rfl, hf, hx, k3⟩ := loop_inv (gs := gSet 2) (body := sSeq (sSet 6 (eCall d__law_any (eA (eVar 0) (eA (eLst (eA (eC (.int 0)) (eA (e1 gNeg (eC (.int 1))) (eA (e1 gNeg (eC (.int 1))) (eA (e1 gNeg (eC (.int 2))) (eA (e2 gSub (eC (.int 0)) (eCall d__law_draw (eA (eVar 0) (eA (eC (.int 10)) eA0)))) eA0)))))) eA0))))
      (sApp 5 (eIf (bV (e2 gEq (eCall d__law_draw (eA (eVar 0) (eA (eVar 1) eA0))) (eC (.int 0)))) (eVar 6) (eC (.int 1)))))
    (J := fun pre env w => ∃ (s c : Slot) (f : List Int), env = [.sh hnd, .sh (.int odds), s, .no, .sh (.int N), .ow (.list (f.map .int)), c] ∧ f.length = pre.length ∧ (∀ x ∈ f, -9 ≤ x ∧ x ≤ 1) ∧ WOk w)
    (ds := ((List.range N).map fun (k : Nat) => (k : Int)).map .int) (pre := []) (e := [.sh hnd, .sh (.int odds), .no, .no, .sh (.int N), .ow (.list []), .no]) (w := w2) ⟨.no, .no, [], rfl, rfl, by simp, k2⟩ (by
      rintro pre d post hds env w ⟨s, c, f, rfl, hf, hx, hw⟩
      have hlen := congrArg List.length hds
      simp at hlen
      simp at hf
      obtain ⟨r1, w1, E1, a1, b1, k1⟩ := draw (m := 10) hw (by decide) (by decide)
      obtain ⟨x, w2, m2, E2, k2⟩ := anyI (xs := [0, -1, -1, -2, -r1]) k1 (by simp) (by simp)
      obtain ⟨r3, w3, E3, a3, b3, k3⟩ := draw (m := odds) k2 (by omega) (by omega)
      simp only [List.mem_cons, List.not_mem_nil, or_false] at m2
      simp only [List.map_cons, List.map_nil] at E2
      refine ⟨[.sh hnd, .sh (.int odds), .sh d, .no, .sh (.int N), .ow (.list (f.map .int)), c], [.sh hnd, .sh (.int odds), .sh d, .no, .sh (.int N), .ow (.list ((f ++ [if r3 = 0 then x else 1]).map .int)), .sh (.int x)], w3, rfl, ?_, .sh d, .sh (.int x), f ++ [if r3 = 0 then x else 1], rfl, ?_, ?_, k3⟩
      · refine seq_nx (set_ok (d := .int x) (w' := w2) (by simp [E1, E2])) ?_
        refine (v_app (ds := f.map .int) (d := .int (if r3 = 0 then x else 1)) (w' := w3) rfl ?_ (by rw [List.length_map]; omega)).trans ?_
        · by_cases g : r3 = 0 <;> simp [E3, g]
        · simp
      · simp [hf]
      · intro y hy
        rcases List.mem_append.mp hy with hy | hy
        · exact hx y hy
        · simp only [List.mem_cons, List.not_mem_nil, or_false] at hy
          subst hy
          split <;> omega)
  simp only [List.nil_append, List.length_map, List.length_range] at hf
  obtain ⟨m, w4, m4, E4, k4⟩ := anyI (xs := [1, 2, 3]) k3 (by simp) (by simp)
  simp only [List.map_cons, List.map_nil] at E4
  have hm : 1 ≤ m ∧ m ≤ 3 := by
    simp only [List.mem_cons, List.not_mem_nil, or_false] at m4
    omega
  have hM : ∃ M : Nat, m = (M : Int) := ⟨m.toNat, by omega⟩
  obtain ⟨M, rfl⟩ := hM
  obtain ⟨q1, q2, q3⟩ := few_ok (m := M) hf (by omega) (by omega) hx (by omega) (by omega)
  have s4 : sSet 3 (eSl gSl (eBor 5) oNone (oSome (eCall d__law_any (eA (eVar 0) (eA (eLst (eA (eC (.int 1)) (eA (eC (.int 2)) (eA (eC (.int 3)) eA0)))) eA0))))) [.sh hnd, .sh (.int odds), s, .no, .sh (.int N), .ow (.list (f.map .int)), c] w3 =
      some (.nx [.sh hnd, .sh (.int odds), s, .sh (.list ((f.take M).map .int)), .sh (.int N), .ow (.list (f.map .int)), c], w4) := set_ok (by simp [E4, cutD_map, cut_to])
  generalize hq : f.take M = q at q1 q2 q3 s4
  have hrep : repOk (q.map PyData.int).length 12 = true := by
    have : q.length * 12 ≤ SZ := le_SZ (by omega)
    simp only [repOk, List.length_map, Bool.and_eq_true, decide_eq_true_eq]
    exact ⟨⟨by decide, by decide⟩, this⟩
  have hml : mulOk (q.length : Int) (max 1 (N / q.length) : Nat) = true := mulOk_l (small_of (by omega) (by omega))
  have hdv := fun i : Int => v_gDiv (i := i) (j := (q.length : Int)) (by omega) (by omega) (by omega)
  have hmx : (if ((N : Int).fdiv (q.length : Int)) > 1 then ((N : Int).fdiv (q.length : Int)) else 1) = ((max 1 (N / q.length) : Nat) : Int) := by
    rw [Int.fdiv_eq_ediv_of_nonneg _ (by omega), ← Int.natCast_ediv]
    split <;> omega
  have hcut : cutD ((List.replicate 12 (q.map PyData.int)).flatten) none (some ((q.length : Int) * ((max 1 (N / q.length) : Nat) : Int))) = (((List.replicate 12 q).flatten).take (q.length * max 1 (N / q.length))).map .int := by
    rw [← Int.natCast_mul, cut_to, List.map_take, List.map_flatten, List.map_replicate]
  obtain ⟨x, w5, m5, E5, k5⟩ := any (xs := [.list (f.map .int), .list (f.map .int), .list ((((List.replicate 12 q).flatten).take (q.length * max 1 (N / q.length))).map .int)]) k4 (by simp) (by simp)
  have hx : ∃ t : List Int, x = .list (t.map .int) ∧ Good12 t := by
    have g : Good12 f := ⟨fun e => by rw [e] at hf; simp at hf; omega, by omega, hx⟩
    simp only [List.mem_cons, List.not_mem_nil, or_false] at m5
    rcases m5 with rfl | rfl | rfl
    · exact ⟨f, rfl, g⟩
    · exact ⟨f, rfl, g⟩
    · exact ⟨_, rfl, q1⟩
  obtain ⟨t, rfl, ht⟩ := hx
  refine ⟨t, w5, fnD_rt (seq_nx s1 (seq_nx s2 (seq_nx (for_ok (v_iRange1 (n := N) (w' := w2) (by simp) (by omega)) s3) (seq_nx s4 ?_)))), ht, k5⟩
  simp only [v_sFrz, v_frzS, v_frz0]
  refine ret_ok (tup_ok ?_)
  have t12 : (12 : Int).toNat = 12 := rfl
  have sl : eSl gSl (e2 gMul (eVar 3) (eC (.int 12))) oNone (oSome (e2 gMul (e1 gLen (eVar 3)) (e2 gMax2 (eC (.int 1)) (e2 gDiv (eVar 4) (e1 gLen (eVar 3)))))) [.sh hnd, .sh (.int odds), s, .sh (.list (q.map .int)), .sh (.int N), .sh (.list (f.map .int)), c] w4 =
      some (.list ((((List.replicate 12 q).flatten).take (q.length * max 1 (N / q.length))).map .int), w4) := by
    simp only [v_eSl, v_e2, v_eVarS, v_eVar0, v_eC, b_some, m_some, v_gMulL hrep, v_oNone, v_oSome, v_e1, v_gLenL, List.length_map, hdv, v_gMax2, hmx, v_gMul hml, v_asI, v_gSlL, t12, hcut]
  simp only [v_eCall, v_eA, v_eA0, v_eVar0, v_eVarS, v_eLst, b_some, m_some, sl, E5]
theorem all2_facts {t N : List Int} (h : All2 (fun x n => 0 ≤ n - (if 0 - x > 0 then 0 - x else 0) ∧ n - (if 0 - x > 0 then 0 - x else 0) < 20) t N) (ht : ∀ x ∈ t, -9 ≤ x ∧ x ≤ 1) : (∀ n ∈ N, 0 ≤ n ∧ n ≤ 28) ∧ (∀ f ∈ List.zipWith (fun x y => x + y) t N, 0 ≤ f ∧ f ≤ 29) ∧ List.zipWith (fun x y => x - y) (List.zipWith (fun x y => x + y) t N) N = t ∧
    ∀ m d : Int, List.zipWith (fun x y => x - y) ((List.zipWith (fun x y => x + y) t N).map fun x => m * x) (N.map fun x => m * x + d) = t.map fun x => m * x - d := by
  induction h with
  | nil => simp
  | @cons x n xs ns q r ih =>
    obtain ⟨i1, i2, i3, i4⟩ := ih fun y hy => ht y (List.mem_cons_of_mem _ hy)
    have hx := ht x List.mem_cons_self
    refine ⟨fun y hy => ?_, fun y hy => ?_, ?_, fun m d => ?_⟩
    · rcases List.mem_cons.mp hy with e | hy
      · subst e; split at q <;> omega
      · exact i1 y hy
    · rw [List.zipWith_cons_cons] at hy
      rcases List.mem_cons.mp hy with e | hy
      · subst e; split at q <;> omega
      · exact i2 y hy
    · rw [List.zipWith_cons_cons, List.zipWith_cons_cons, i3]
      congr 1; omega
    · rw [List.zipWith_cons_cons, List.map_cons, List.map_cons, List.zipWith_cons_cons, i4 m d, List.map_cons, Int.mul_add]
      congr 1; omega
theorem mul_in {m x : Int} {a b : Int} (h1 : 0 ≤ m) (h2 : m ≤ a) (h3 : 0 ≤ x) (h4 : x ≤ b) : 0 ≤ m * x ∧ m * x ≤ a * b := ⟨Int.mul_nonneg h1 h3, Int.mul_le_mul h2 h4 h3 (by omega)⟩
theorem fine_map {l : List Int} {m d b : Int} (hl : l ≠ []) (h12 : l.length ≤ 12) (hx : ∀ x ∈ l, 0 ≤ x ∧ x ≤ 29) (h1 : 0 ≤ m) (h2 : m ≤ 22) (d0 : 0 ≤ d) (d1 : d ≤ 1) : Fine (l.map fun x => m * x + d) := by
  refine ⟨by simpa using hl, by simpa using h12, fun y hy => ?_⟩
  obtain ⟨x, hx', rfl⟩ := List.mem_map.mp hy
  have := mul_in h1 h2 (hx x hx').1 (hx x hx').2
  show 0 ≤ m * x + d ∧ m * x + d ≤ 1000
  omega
theorem ne_of_len {l : List Int} (h : 1 ≤ l.length) : l ≠ [] := List.length_pos_iff.mp h
theorem need_facts {t N F G M : List Int} (g : Good12 t) (h : All2 (fun x n => 0 ≤ n - (if 0 - x > 0 then 0 - x else 0) ∧ n - (if 0 - x > 0 then 0 - x else 0) < 20) t N) (hF : F = List.zipWith (fun x y => x + y) t N) (hG : G = F.map fun x => ((t.length : Int) + 1) * x) (hM : M = N.map fun x => ((t.length : Int) + 1) * x + 1) :
    N.length = t.length ∧ F.length = t.length ∧ Fine N ∧ Fine F ∧ Fine G ∧ Fine M ∧ List.zipWith (fun x y => x - y) F N = t ∧ List.zipWith (fun x y => x - y) G M = t.map fun x => ((t.length : Int) + 1) * x - 1 := by
  obtain ⟨a, b, c, d⟩ := all2_facts h g.2.2
  have l0 := len1 g.1
  have l1 := g.2.1
  have lN := h.len
  have lF : F.length = t.length := by rw [hF, List.length_zipWith]; omega
  rw [← hF] at b c d
  have nN : N ≠ [] := ne_of_len (by omega)
  have nF : F ≠ [] := ne_of_len (by omega)
  have bN : ∀ x ∈ N, 0 ≤ x ∧ x ≤ 29 := fun x hx => by have := a x hx; omega
  have fG := fine_map (m := (t.length : Int) + 1) (d := 0) (b := 0) nF (by omega) b (by omega) (by omega) (by decide) (by decide)
  have fM := fine_map (m := (t.length : Int) + 1) (d := 1) (b := 0) nN (by omega) bN (by omega) (by omega) (by decide) (by decide)
  refine ⟨lN, lF, ⟨nN, by omega, fun x hx => by have := a x hx; omega⟩, ⟨nF, by omega, fun x hx => by have := b x hx; omega⟩, ?_, ?_, c, ?_⟩
  · rw [hG]
    simpa using fG
  · rw [hM]; exact fM
  · rw [hG, hM]; exact d _ _
theorem often_facts {t N F Fo No : List Int} {o : Int} (g : Good12 t) (h : All2 (fun x n => 0 ≤ n - (if 0 - x > 0 then 0 - x else 0) ∧ n - (if 0 - x > 0 then 0 - x else 0) < 20) t N) (hF : F = List.zipWith (fun x y => x + y) t N) (o1 : 0 ≤ o) (o2 : o ≤ 22) (hFo : Fo = F.map fun x => o * x) (hNo : No = N.map fun x => o * x) :
    Fine Fo ∧ Fine No ∧ Fo.length = No.length ∧ List.zipWith (fun x y => x - y) Fo No = t.map fun x => o * x := by
  obtain ⟨a, b, c, d⟩ := all2_facts h g.2.2
  have l0 := len1 g.1
  have l1 := g.2.1
  have lN := h.len
  have lF : F.length = t.length := by rw [hF, List.length_zipWith]; omega
  rw [← hF] at b c d
  have nN : N ≠ [] := ne_of_len (by omega)
  have nF : F ≠ [] := ne_of_len (by omega)
  have bN : ∀ x ∈ N, 0 ≤ x ∧ x ≤ 29 := fun x hx => by have := a x hx; omega
  have fF := fine_map (m := o) (d := 0) (b := 0) nF (by omega) b o1 o2 (by decide) (by decide)
  have fN := fine_map (m := o) (d := 0) (b := 0) nN (by omega) bN o1 o2 (by decide) (by decide)
  have z := d o 0
  simp only [Int.add_zero, Int.sub_zero] at fF fN z
  exact ⟨hFo ▸ fF, hNo ▸ fN, by rw [hFo, hNo, List.length_map, List.length_map]; omega, by rw [hFo, hNo]; exact z⟩
theorem good_of {t : List Int} (g : Good12 t) : Good t := ⟨g.1, by have := g.2.1; omega, g.2.2⟩
theorem sum_sub : ∀ f g : List Int, f.length = g.length → (List.zipWith (fun x y => x - y) f g).sum = f.sum - g.sum
  | [], [], _ => rfl
  | x :: xs, y :: ys, h => by
    rw [List.zipWith_cons_cons, List.sum_cons, List.sum_cons, List.sum_cons, sum_sub xs ys (by simpa using h)]; omega
theorem sum_lin (m : Int) : ∀ t : List Int, (t.map fun x => m * x - 1).sum = m * t.sum - t.length
  | [] => by simp
  | x :: xs => by
    rw [List.map_cons, List.sum_cons, List.sum_cons, sum_lin m xs, Int.mul_add, List.length_cons]; omega
theorem mem_rot {α : Type} {l : List α} {r : Nat} {x : α} (h : x ∈ l.drop r ++ l.take r) : x ∈ l := by
  rcases List.mem_append.mp h with h | h
  · exact List.mem_of_mem_drop h
  · exact List.mem_of_mem_take h
theorem len_rot {α : Type} {l : List α} {r : Nat} (h : r ≤ l.length) : (l.drop r ++ l.take r).length = l.length := by simp; omega
theorem good_rot {t : List Int} {r : Nat} (g : Good t) (h : r ≤ t.length) : Good (t.drop r ++ t.take r) :=
  ⟨ne_of_len (by rw [len_rot h]; exact len1 g.1), by rw [len_rot h]; exact g.2.1, fun x hx => g.2.2 x (mem_rot hx)⟩
theorem fine_rot {t : List Int} {r : Nat} (g : Fine t) (h : r ≤ t.length) : Fine (t.drop r ++ t.take r) :=
  ⟨ne_of_len (by rw [len_rot h]; exact len1 g.1), by rw [len_rot h]; exact g.2.1, fun x hx => g.2.2 x (mem_rot hx)⟩
theorem zip_rot {f g : List Int} {r : Nat} (h : f.length = g.length) : List.zipWith (fun x y => x - y) (f.drop r ++ f.take r) (g.drop r ++ g.take r) = (List.zipWith (fun x y => x - y) f g).drop r ++ (List.zipWith (fun x y => x - y) f g).take r := by
  rw [List.zipWith_append (by simp; omega), List.drop_zipWith, List.take_zipWith]
theorem stI_len (c : Int) (t : List Int) : (stI c t).length ≤ t.length := by
  rw [stI, List.length_map, st]
  exact Nat.le_trans (List.length_filter_le _ _) (by simp)
theorem fine_twice {t : List Int} (g : Fine t) (h : t.length ≤ 6) : Fine (t ++ t) :=
  ⟨by simpa using g.1, by simp; omega, fun x hx => g.2.2 x (by simpa using hx)⟩
theorem good_twice {t : List Int} (g : Good12 t) : Good (t ++ t) :=
  ⟨by simpa using g.1, by have := g.2.1; simp; omega, fun x hx => g.2.2 x (by simpa using hx)⟩
theorem zip_twice {f g : List Int} (h : f.length = g.length) : List.zipWith (fun x y => x - y) (f ++ f) (g ++ g) = List.zipWith (fun x y => x - y) f g ++ List.zipWith (fun x y => x - y) f g := List.zipWith_append h
theorem zero_in {t : List Int} (h : t ≠ []) {n : Nat} (hn : n ∈ st 0 t) : decide ((0 : Int) ∈ sums t n) = !decide ((n : Int) ∈ stI 1 t) := by
  obtain ⟨h1, h2⟩ := (mem_st h).mp hn
  have a : ((n : Int) ∈ stI 1 t) ↔ Ok 1 (on t) t.length n := by
    constructor
    · intro q
      obtain ⟨m, hm, e⟩ := List.mem_map.mp q
      have : m = n := by omega
      subst this
      exact ((mem_st h).mp hm).2
    · exact fun q => List.mem_map.mpr ⟨n, (mem_st h).mpr ⟨h1, q⟩, rfl⟩
  have b : ((0 : Int) ∈ sums t n) ↔ ¬ Ok 1 (on t) t.length n := by
    constructor
    · intro q g
      obtain ⟨k, hk, e⟩ := List.mem_map.mp q
      have := g k (List.mem_range.mp hk)
      omega
    · intro q
      apply Classical.byContradiction
      intro z
      apply q
      intro k hk
      have p := h2 k hk
      by_cases c : P (on t) (n + k + 1) - P (on t) n = 0
      · exact absurd (List.mem_map.mpr ⟨k, List.mem_range.mpr hk, c⟩) z
      · omega
  by_cases c : Ok 1 (on t) t.length n <;> simp [a, b, c]
/-- what a need is, beside its taking -/
def Need (x n : Int) : Prop := 0 ≤ n - (if 0 - x > 0 then 0 - x else 0) ∧ n - (if 0 - x > 0 then 0 - x else 0) < 20
theorem right {w : W} (hw : WOk w) : ∃ w', d__law_is_right [hnd] w = some (.bool true, w') ∧ WOk w' := by
  obtain ⟨t, w1, et, g12, k1⟩ := law_takings hw
  have l0 := len1 g12.1
  have l12 := g12.2.1
  have s0 : (sSet 1 (eCall d__law_takings (eA (eVar 0) eA0))) [.sh hnd, .no, .no, .no, .no, .no, .no, .no, .no, .no, .no, .no, .no, .no, .no, .no, .no, .no] w = some (.nx [.sh hnd, .sh (.tuple (t.map .int)), .no, .no, .no, .no, .no, .no, .no, .no, .no, .no, .no, .no, .no, .no, .no, .no], w1) := set_ok (by simp [et])
  have s1 : (sAsg (eTup (eA (e1 gLen (eVar 1)) (eA (e1 gSum (eVar 1)) eA0))) (gTupD 2 (gsCons (gSet 11) (gsCons (gSet 12) gsNil)))) [.sh hnd, .sh (.tuple (t.map .int)), .no, .no, .no, .no, .no, .no, .no, .no, .no, .no, .no, .no, .no, .no, .no, .no] w1 = some (.nx [.sh hnd, .sh (.tuple (t.map .int)), .no, .no, .no, .no, .no, .no, .no, .no, .no, .sh (.int t.length), .sh (.int t.sum), .no, .no, .no, .no, .no], w1) := asg_ok (d := .tuple [.int t.length, .int t.sum]) (by simp) rfl
  have hN : ∃ (N : List Int) (w2 : W), lcD (gSet 16) bYes (e2 gAdd (eCall d__law_draw (eA (eVar 0) (eA (eC (.int 20)) eA0))) (e2 gMax2 (eC (.int 0)) (e2 gSub (eC (.int 0)) (eVar 16)))) [.sh hnd, .sh (.tuple (t.map .int)), .no, .no, .no, .no, .no, .no, .no, .no, .no, .sh (.int t.length), .sh (.int t.sum), .no, .no, .no, .no, .no] (t.map .int) w1 = some (N.map .int, w2) ∧ All2 Need t N ∧ WOk w2 :=
    lc_ints k1 (fun x hx w hw => by
      obtain ⟨r, w', E, a, b, k⟩ := draw (m := 20) hw (by decide) (by decide)
      refine ⟨_, r + (if 0 - x > 0 then 0 - x else 0), w', rfl, rfl, ?_, ⟨by split <;> omega, by split <;> omega⟩, k⟩
      simp only [List.set_cons_succ, List.set_cons_zero, v_e2, v_eCall, v_eA, v_eA0, v_eVar0, v_eVarS, v_eC, b_some, m_some, E, v_gSub, v_gMax2, v_gAdd])
  obtain ⟨N, w2, eN, aN, k2⟩ := hN
  obtain ⟨F, hF⟩ : ∃ F, F = List.zipWith (fun x y => x + y) t N := ⟨_, rfl⟩
  have s2 : (sSet 2 (e1 gTuple (eLc [16] (iItems (eVar 1)) (gSet 16) bYes (e2 gAdd (eCall d__law_draw (eA (eVar 0) (eA (eC (.int 20)) eA0))) (e2 gMax2 (eC (.int 0)) (e2 gSub (eC (.int 0)) (eVar 16))))))) [.sh hnd, .sh (.tuple (t.map .int)), .no, .no, .no, .no, .no, .no, .no, .no, .no, .sh (.int t.length), .sh (.int t.sum), .no, .no, .no, .no, .no] w1 = some (.nx [.sh hnd, .sh (.tuple (t.map .int)), .sh (.tuple (N.map .int)), .no, .no, .no, .no, .no, .no, .no, .no, .sh (.int t.length), .sh (.int t.sum), .no, .no, .no, .no, .no], w2) := set_ok (tup_ok (lc_ok (by simp) eN))
  have zF := lc_zip (fe := e2 gAdd (eVar 16) (eVar 17)) (env := [.sh hnd, .sh (.tuple (t.map .int)), .sh (.tuple (N.map .int)), .no, .no, .no, .no, .no, .no, .no, .no, .sh (.int t.length), .sh (.int t.sum), .no, .no, .no, .no, .no]) (w := w2) (gs := gTupD 2 (gsCons (gSet 16) (gsCons (gSet 17) gsNil))) (fun x y => x + y) (fun x y => ⟨_, rfl, by simp⟩) t N
  rw [← hF] at zF
  have s3 : (sSet 3 (e1 gTuple (eLc [16, 17] (iZipD (eVar 1) (eVar 2)) (gTupD 2 (gsCons (gSet 16) (gsCons (gSet 17) gsNil))) bYes (e2 gAdd (eVar 16) (eVar 17))))) [.sh hnd, .sh (.tuple (t.map .int)), .sh (.tuple (N.map .int)), .no, .no, .no, .no, .no, .no, .no, .no, .sh (.int t.length), .sh (.int t.sum), .no, .no, .no, .no, .no] w2 = some (.nx [.sh hnd, .sh (.tuple (t.map .int)), .sh (.tuple (N.map .int)), .sh (.tuple (F.map .int)), .no, .no, .no, .no, .no, .no, .no, .sh (.int t.length), .sh (.int t.sum), .no, .no, .no, .no, .no], w2) := set_ok (tup_ok (lc_ok (by simp) zF))
  have s4 : (sSet 4 (e1 gTuple (eLc [10] (iRange1 (eVar 11)) (gSet 10) (bV (e2 gGt (e1 gMin (eCall d__law_sums (eA (eVar 1) (eA (eVar 10) eA0)))) (eC (.int 0)))) (eVar 10)))) [.sh hnd, .sh (.tuple (t.map .int)), .sh (.tuple (N.map .int)), .sh (.tuple (F.map .int)), .no, .no, .no, .no, .no, .no, .no, .sh (.int t.length), .sh (.int t.sum), .no, .no, .no, .no, .no] w2 = some (.nx [.sh hnd, .sh (.tuple (t.map .int)), .sh (.tuple (N.map .int)), .sh (.tuple (F.map .int)), .sh (.tuple ((stI 1 t).map .int)), .no, .no, .no, .no, .no, .no, .sh (.int t.length), .sh (.int t.sum), .no, .no, .no, .no, .no], w2) := set_ok (tup_ok (lc_ok (v_iRange1 (n := t.length) (w' := w2) (by simp) (by omega)) (pick 1 g12.1 (fun b hb => by simp [law_sums (t := t) (b := b) (by omega) (by omega) w2, lo_cons (sums_ne g12.1 b)]; try omega) (fun b => by simp))))
  have s5 : (sSet 5 (e1 gTuple (eLc [10] (iRange1 (eVar 11)) (gSet 10) (bV (e2 gGe (e1 gMin (eCall d__law_sums (eA (eVar 1) (eA (eVar 10) eA0)))) (eC (.int 0)))) (eVar 10)))) [.sh hnd, .sh (.tuple (t.map .int)), .sh (.tuple (N.map .int)), .sh (.tuple (F.map .int)), .sh (.tuple ((stI 1 t).map .int)), .no, .no, .no, .no, .no, .no, .sh (.int t.length), .sh (.int t.sum), .no, .no, .no, .no, .no] w2 = some (.nx [.sh hnd, .sh (.tuple (t.map .int)), .sh (.tuple (N.map .int)), .sh (.tuple (F.map .int)), .sh (.tuple ((stI 1 t).map .int)), .sh (.tuple ((stI 0 t).map .int)), .no, .no, .no, .no, .no, .sh (.int t.length), .sh (.int t.sum), .no, .no, .no, .no, .no], w2) := set_ok (tup_ok (lc_ok (v_iRange1 (n := t.length) (w' := w2) (by simp) (by omega)) (pick 0 g12.1 (fun b hb => by simp [law_sums (t := t) (b := b) (by omega) (by omega) w2, lo_cons (sums_ne g12.1 b)]; try omega) (fun b => by simp))))
  obtain ⟨G, hG⟩ : ∃ G, G = F.map fun x => ((t.length : Int) + 1) * x := ⟨_, rfl⟩
  obtain ⟨M, hM⟩ : ∃ M, M = N.map fun x => ((t.length : Int) + 1) * x + 1 := ⟨_, rfl⟩
  have hmu : ∀ x : Int, gMul (.int ((t.length : Int) + 1)) (.int x) = some (.int (((t.length : Int) + 1) * x)) := fun x => v_gMul (mulOk_l (small_of (by omega) (by omega)))
  have zG := lc_mapI (gs := gSet 16) (ft := bYes) (fe := e2 gMul (e2 gAdd (eVar 11) (eC (.int 1))) (eVar 16)) (env := [.sh hnd, .sh (.tuple (t.map .int)), .sh (.tuple (N.map .int)), .sh (.tuple (F.map .int)), .sh (.tuple ((stI 1 t).map .int)), .sh (.tuple ((stI 0 t).map .int)), .no, .no, .no, .no, .no, .sh (.int t.length), .sh (.int t.sum), .no, .no, .no, .no, .no]) (w := w2) (g := fun x => ((t.length : Int) + 1) * x) (xs := F) (fun x hx => ⟨_, rfl, rfl, by simp [hmu]⟩)
  rw [← hG] at zG
  have s6 : (sSet 6 (e1 gTuple (eLc [16] (iItems (eVar 3)) (gSet 16) bYes (e2 gMul (e2 gAdd (eVar 11) (eC (.int 1))) (eVar 16))))) [.sh hnd, .sh (.tuple (t.map .int)), .sh (.tuple (N.map .int)), .sh (.tuple (F.map .int)), .sh (.tuple ((stI 1 t).map .int)), .sh (.tuple ((stI 0 t).map .int)), .no, .no, .no, .no, .no, .sh (.int t.length), .sh (.int t.sum), .no, .no, .no, .no, .no] w2 = some (.nx [.sh hnd, .sh (.tuple (t.map .int)), .sh (.tuple (N.map .int)), .sh (.tuple (F.map .int)), .sh (.tuple ((stI 1 t).map .int)), .sh (.tuple ((stI 0 t).map .int)), .sh (.tuple (G.map .int)), .no, .no, .no, .no, .sh (.int t.length), .sh (.int t.sum), .no, .no, .no, .no, .no], w2) := set_ok (tup_ok (lc_ok (by simp) zG))
  have zM := lc_mapI (gs := gSet 16) (ft := bYes) (fe := e2 gAdd (e2 gMul (e2 gAdd (eVar 11) (eC (.int 1))) (eVar 16)) (eC (.int 1))) (env := [.sh hnd, .sh (.tuple (t.map .int)), .sh (.tuple (N.map .int)), .sh (.tuple (F.map .int)), .sh (.tuple ((stI 1 t).map .int)), .sh (.tuple ((stI 0 t).map .int)), .sh (.tuple (G.map .int)), .no, .no, .no, .no, .sh (.int t.length), .sh (.int t.sum), .no, .no, .no, .no, .no]) (w := w2) (g := fun x => ((t.length : Int) + 1) * x + 1) (xs := N) (fun x hx => ⟨_, rfl, rfl, by simp [hmu]⟩)
  rw [← hM] at zM
  have s7 : (sSet 7 (e1 gTuple (eLc [16] (iItems (eVar 2)) (gSet 16) bYes (e2 gAdd (e2 gMul (e2 gAdd (eVar 11) (eC (.int 1))) (eVar 16)) (eC (.int 1)))))) [.sh hnd, .sh (.tuple (t.map .int)), .sh (.tuple (N.map .int)), .sh (.tuple (F.map .int)), .sh (.tuple ((stI 1 t).map .int)), .sh (.tuple ((stI 0 t).map .int)), .sh (.tuple (G.map .int)), .no, .no, .no, .no, .sh (.int t.length), .sh (.int t.sum), .no, .no, .no, .no, .no] w2 = some (.nx [.sh hnd, .sh (.tuple (t.map .int)), .sh (.tuple (N.map .int)), .sh (.tuple (F.map .int)), .sh (.tuple ((stI 1 t).map .int)), .sh (.tuple ((stI 0 t).map .int)), .sh (.tuple (G.map .int)), .sh (.tuple (M.map .int)), .no, .no, .no, .sh (.int t.length), .sh (.int t.sum), .no, .no, .no, .no, .no], w2) := set_ok (tup_ok (lc_ok (by simp) zM))
  obtain ⟨lN, lF, fN, fF, fG, fM, zd, zg⟩ := need_facts g12 aN hF hG hM
  obtain ⟨A, hA⟩ : ∃ A, A = stI 1 t := ⟨_, rfl⟩
  obtain ⟨B, hB⟩ : ∃ B, B = stI 0 t := ⟨_, rfl⟩
  have nF : F.length = N.length := by omega
  have nG : G.length = M.length := by rw [hG, hM, List.length_map, List.length_map]; exact nF
  have good := good_of g12
  have rA := begins_ahead good
  have rB := stations_round fF fN nF
  have rG := stations_round fG fM nG
  have hsg : stI 0 (List.zipWith (fun x y => x - y) G M) = A := by rw [zg, hA, stI, stI, st_great g12.1]
  rw [hsg] at rG
  rw [zd, ← hB] at rB
  rw [← hA] at rA
  rw [← hA] at s4 s5 s6 s7
  rw [← hB] at s5 s6 s7
  have lA : (A.length : Int) = if t.sum > 0 then t.sum else 0 := by
    rw [hA, stI, List.length_map, len_ahead g12.1 (fun x hx => (g12.2.2 x hx).2)]
    split <;> omega
  have nB : decide (B = []) = decide (¬ 0 ≤ t.sum) := by
    refine decide_eq_decide.mpr ?_
    rw [← never_iff g12.1, hB, stI, List.map_eq_nil_iff]
    exact Classical.not_not.symm
  have s8 : (sIf (bOr (bV (e2 gNe (eCall d_begins_ahead (eA (eVar 1) eA0)) (eVar 4))) (bOr (bV (e2 gNe (eCall d_stations_round (eA (eVar 6) (eA (eVar 7) eA0))) (eVar 4))) (bV (e2 gNe (e1 gLen (eVar 4)) (e2 gMax2 (eC (.int 0)) (eVar 12)))))) (sRet (eC (.bool false))) sNext) [.sh hnd, .sh (.tuple (t.map .int)), .sh (.tuple (N.map .int)), .sh (.tuple (F.map .int)), .sh (.tuple (A.map .int)), .sh (.tuple (B.map .int)), .sh (.tuple (G.map .int)), .sh (.tuple (M.map .int)), .no, .no, .no, .sh (.int t.length), .sh (.int t.sum), .no, .no, .no, .no, .no] w2 = some (.nx [.sh hnd, .sh (.tuple (t.map .int)), .sh (.tuple (N.map .int)), .sh (.tuple (F.map .int)), .sh (.tuple (A.map .int)), .sh (.tuple (B.map .int)), .sh (.tuple (G.map .int)), .sh (.tuple (M.map .int)), .no, .no, .no, .sh (.int t.length), .sh (.int t.sum), .no, .no, .no, .no, .no], w2) := pass_if (by simp [rA, rG, lA])
  have s9 : (sIf (bOr (bV (e2 gNe (eCall d_stations_round (eA (eVar 3) (eA (eVar 2) eA0))) (eVar 5))) (bV (e2 gNe (e2 gNe (eVar 5) (eTup eA0)) (e2 gGe (eVar 12) (eC (.int 0)))))) (sRet (eC (.bool false))) sNext) [.sh hnd, .sh (.tuple (t.map .int)), .sh (.tuple (N.map .int)), .sh (.tuple (F.map .int)), .sh (.tuple (A.map .int)), .sh (.tuple (B.map .int)), .sh (.tuple (G.map .int)), .sh (.tuple (M.map .int)), .no, .no, .no, .sh (.int t.length), .sh (.int t.sum), .no, .no, .no, .no, .no] w2 = some (.nx [.sh hnd, .sh (.tuple (t.map .int)), .sh (.tuple (N.map .int)), .sh (.tuple (F.map .int)), .sh (.tuple (A.map .int)), .sh (.tuple (B.map .int)), .sh (.tuple (G.map .int)), .sh (.tuple (M.map .int)), .no, .no, .no, .sh (.int t.length), .sh (.int t.sum), .no, .no, .no, .no, .no], w2) := pass_if (by simp [rB, nB, dec_lt])
  have toldB := station_told fF fN nF zd
  have toldG := station_told fG fM nG zg
  rw [← hB] at toldB
  rw [show stI 0 (t.map fun x => ((t.length : Int) + 1) * x - 1) = A by rw [hA, stI, stI, st_great g12.1]] at toldG
  have sumB : N.sum - F.sum = 0 - t.sum := by
    have := sum_sub F N nF
    rw [zd] at this; omega
  have sumG : M.sum - G.sum = t.length - ((t.length : Int) + 1) * t.sum := by
    have := sum_sub G M nG
    rw [zg, sum_lin] at this; omega
  obtain ⟨due, hdue, okdue, tdue⟩ : ∃ due : D, (∀ w : W, eIf (bV (e2 gNe (eVar 5) (eTup eA0))) (eTup (eA (eC (.str "from")) (eA (e2 gIx (eVar 5) (eC (.int 0))) eA0))) (eTup (eA (eC (.str "short")) (eA (e2 gSub (eC (.int 0)) (eVar 12)) eA0))) [.sh hnd, .sh (.tuple (t.map .int)), .sh (.tuple (N.map .int)), .sh (.tuple (F.map .int)), .sh (.tuple (A.map .int)), .sh (.tuple (B.map .int)), .sh (.tuple (G.map .int)), .sh (.tuple (M.map .int)), .no, .no, .no, .sh (.int t.length), .sh (.int t.sum), .no, .no, .no, .no, .no] w = some (due, w)) ∧ okD due = true ∧ ∀ w, d_station_told [.tuple (F.map .int), .tuple (N.map .int)] w = some (due, w) := by
    cases hc : B with
    | nil =>
      refine ⟨.tuple [.str "short", .int (0 - t.sum)], fun w => by simp, by simp [okD, PyData.plain, PyData.plainAll, PyData.depth, PyData.depthAll], fun w => ?_⟩
      rw [← sumB]
      exact (toldB w).2 hc
    | cons x xs =>
      exact ⟨.tuple [.str "from", .int x], fun w => by simp, by simp [okD, PyData.plain, PyData.plainAll, PyData.depth, PyData.depthAll], fun w => (toldB w).1 x xs hc⟩
  have s10 : (sSet 8 (eIf (bV (e2 gNe (eVar 5) (eTup eA0))) (eTup (eA (eC (.str "from")) (eA (e2 gIx (eVar 5) (eC (.int 0))) eA0))) (eTup (eA (eC (.str "short")) (eA (e2 gSub (eC (.int 0)) (eVar 12)) eA0))))) [.sh hnd, .sh (.tuple (t.map .int)), .sh (.tuple (N.map .int)), .sh (.tuple (F.map .int)), .sh (.tuple (A.map .int)), .sh (.tuple (B.map .int)), .sh (.tuple (G.map .int)), .sh (.tuple (M.map .int)), .no, .no, .no, .sh (.int t.length), .sh (.int t.sum), .no, .no, .no, .no, .no] w2 = some (.nx [.sh hnd, .sh (.tuple (t.map .int)), .sh (.tuple (N.map .int)), .sh (.tuple (F.map .int)), .sh (.tuple (A.map .int)), .sh (.tuple (B.map .int)), .sh (.tuple (G.map .int)), .sh (.tuple (M.map .int)), .sh (due), .no, .no, .sh (.int t.length), .sh (.int t.sum), .no, .no, .no, .no, .no], w2) := set_ok (hdue w2)
  have s11 : (sIf (bOr (bV (e2 gNe (eCall d_station_told (eA (eVar 3) (eA (eVar 2) eA0))) (eVar 8))) (bAnd (bV (e2 gNe (eVar 4) (eTup eA0))) (bV (e2 gNe (eCall d_ahead_told (eA (eVar 1) eA0)) (eTup (eA (eC (.str "begin")) (eA (e2 gIx (eVar 4) (eC (.int 0))) eA0))))))) (sRet (eC (.bool false))) sNext) [.sh hnd, .sh (.tuple (t.map .int)), .sh (.tuple (N.map .int)), .sh (.tuple (F.map .int)), .sh (.tuple (A.map .int)), .sh (.tuple (B.map .int)), .sh (.tuple (G.map .int)), .sh (.tuple (M.map .int)), .sh (due), .no, .no, .sh (.int t.length), .sh (.int t.sum), .no, .no, .no, .no, .no] w2 = some (.nx [.sh hnd, .sh (.tuple (t.map .int)), .sh (.tuple (N.map .int)), .sh (.tuple (F.map .int)), .sh (.tuple (A.map .int)), .sh (.tuple (B.map .int)), .sh (.tuple (G.map .int)), .sh (.tuple (M.map .int)), .sh (due), .no, .no, .sh (.int t.length), .sh (.int t.sum), .no, .no, .no, .no, .no], w2) := pass_if (by
    cases hc : A with
    | nil => simp [tdue, gNe_same okdue]
    | cons x xs =>
      have q := ahead_told good (by rw [← hA]; exact hc) w2
      have o : okD (.tuple [.str "begin", .int x]) = true := by simp [okD, PyData.plain, PyData.plainAll, PyData.depth, PyData.depthAll]
      simp [tdue, gNe_same okdue, q, gNe_same o])
  have s12 : (sIf (bV (e2 gNe (eCall d_station_told (eA (eVar 6) (eA (eVar 7) eA0))) (eIf (bV (e2 gNe (eVar 4) (eTup eA0))) (eTup (eA (eC (.str "from")) (eA (e2 gIx (eVar 4) (eC (.int 0))) eA0))) (eTup (eA (eC (.str "short")) (eA (e2 gSub (eVar 11) (e2 gMul (e2 gAdd (eVar 11) (eC (.int 1))) (eVar 12))) eA0)))))) (sRet (eC (.bool false))) sNext) [.sh hnd, .sh (.tuple (t.map .int)), .sh (.tuple (N.map .int)), .sh (.tuple (F.map .int)), .sh (.tuple (A.map .int)), .sh (.tuple (B.map .int)), .sh (.tuple (G.map .int)), .sh (.tuple (M.map .int)), .sh (due), .no, .no, .sh (.int t.length), .sh (.int t.sum), .no, .no, .no, .no, .no] w2 = some (.nx [.sh hnd, .sh (.tuple (t.map .int)), .sh (.tuple (N.map .int)), .sh (.tuple (F.map .int)), .sh (.tuple (A.map .int)), .sh (.tuple (B.map .int)), .sh (.tuple (G.map .int)), .sh (.tuple (M.map .int)), .sh (due), .no, .no, .sh (.int t.length), .sh (.int t.sum), .no, .no, .no, .no, .no], w2) := pass_if (by
    cases hc : A with
    | nil =>
      have q := (toldG w2).2 hc
      rw [sumG] at q
      have o : okD (.tuple [.str "short", .int (t.length - ((t.length : Int) + 1) * t.sum)]) = true := by simp [okD, PyData.plain, PyData.plainAll, PyData.depth, PyData.depthAll]
      simp [q, hmu, gNe_same o]
    | cons x xs =>
      have q := (toldG w2).1 x xs hc
      have o : okD (.tuple [.str "from", .int x]) = true := by simp [okD, PyData.plain, PyData.plainAll, PyData.depth, PyData.depthAll]
      simp [q, gNe_same o])
  obtain ⟨r, w3, er, ar, br, k3⟩ := draw (m := t.length) k2 (by omega) (by omega)
  obtain ⟨R, rfl⟩ : ∃ R : Nat, r = (R : Int) := ⟨r.toNat, by omega⟩
  have hR : R < t.length := by omega
  obtain ⟨o, w4, eo, ao, bo, k4⟩ := draw (m := 20) k3 (by decide) (by decide)
  have s13 : (sAsg (eTup (eA (eCall d__law_draw (eA (eVar 0) (eA (eVar 11) eA0))) (eA (e2 gAdd (eC (.int 2)) (eCall d__law_draw (eA (eVar 0) (eA (eC (.int 20)) eA0)))) eA0))) (gTupD 2 (gsCons (gSet 13) (gsCons (gSet 14) gsNil)))) [.sh hnd, .sh (.tuple (t.map .int)), .sh (.tuple (N.map .int)), .sh (.tuple (F.map .int)), .sh (.tuple (A.map .int)), .sh (.tuple (B.map .int)), .sh (.tuple (G.map .int)), .sh (.tuple (M.map .int)), .sh (due), .no, .no, .sh (.int t.length), .sh (.int t.sum), .no, .no, .no, .no, .no] w2 = some (.nx [.sh hnd, .sh (.tuple (t.map .int)), .sh (.tuple (N.map .int)), .sh (.tuple (F.map .int)), .sh (.tuple (A.map .int)), .sh (.tuple (B.map .int)), .sh (.tuple (G.map .int)), .sh (.tuple (M.map .int)), .sh (due), .no, .no, .sh (.int t.length), .sh (.int t.sum), .sh (.int R), .sh (.int (2 + o)), .no, .no, .no], w4) := asg_ok (d := .tuple [.int R, .int (2 + o)]) (by simp [er, eo]) rfl
  obtain ⟨tr, htr⟩ : ∃ l, l = t.drop R ++ t.take R := ⟨_, rfl⟩
  obtain ⟨Fr, hFr⟩ : ∃ l, l = F.drop R ++ F.take R := ⟨_, rfl⟩
  obtain ⟨Nr, hNr⟩ : ∃ l, l = N.drop R ++ N.take R := ⟨_, rfl⟩
  have gt := rotD (t := t) (b := R) (by omega) (by omega)
  have gF := rotD (t := F) (b := R) (by omega) (by omega)
  have gN := rotD (t := N) (b := R) (by omega) (by omega)
  rw [← htr] at gt
  rw [← hFr] at gF
  rw [← hNr] at gN
  have s14 : (sSet 9 (e2 gAdd (eSl gSl (eVar 1) (oSome (eVar 13)) oNone) (eSl gSl (eVar 1) oNone (oSome (eVar 13))))) [.sh hnd, .sh (.tuple (t.map .int)), .sh (.tuple (N.map .int)), .sh (.tuple (F.map .int)), .sh (.tuple (A.map .int)), .sh (.tuple (B.map .int)), .sh (.tuple (G.map .int)), .sh (.tuple (M.map .int)), .sh (due), .no, .no, .sh (.int t.length), .sh (.int t.sum), .sh (.int R), .sh (.int (2 + o)), .no, .no, .no] w4 = some (.nx [.sh hnd, .sh (.tuple (t.map .int)), .sh (.tuple (N.map .int)), .sh (.tuple (F.map .int)), .sh (.tuple (A.map .int)), .sh (.tuple (B.map .int)), .sh (.tuple (G.map .int)), .sh (.tuple (M.map .int)), .sh (due), .sh (.tuple (tr.map .int)), .no, .sh (.int t.length), .sh (.int t.sum), .sh (.int R), .sh (.int (2 + o)), .no, .no, .no], w4) := set_ok (by simp [gt])
  have goodr : Good tr := by rw [htr]; exact good_rot good (by omega)
  have fFr : Fine Fr := by rw [hFr]; exact fine_rot fF (by omega)
  have fNr : Fine Nr := by rw [hNr]; exact fine_rot fN (by omega)
  have lr : Fr.length = Nr.length := by rw [hFr, hNr]; simp; omega
  have zr : List.zipWith (fun x y => x - y) Fr Nr = tr := by rw [hFr, hNr, htr, zip_rot nF, zd]
  have rAr := begins_ahead goodr
  have rBr := stations_round fFr fNr lr
  rw [zr, htr, ← turned g12.1 0 hR, ← hB] at rBr
  rw [show stI 1 tr = ((A.map fun a => (a - (R : Int)).fmod t.length).mergeSort) by rw [htr, ← turned g12.1 1 hR, hA]] at rAr
  have tA := law_turned A R t.length (by omega)
  have tB := law_turned B R t.length (by omega)
  generalize (A.map fun a => (a - (R : Int)).fmod t.length).mergeSort = A' at rAr tA
  generalize (B.map fun a => (a - (R : Int)).fmod t.length).mergeSort = B' at rBr tB
  have s15 : (sIf (bV (e2 gNe (eCall d_begins_ahead (eA (eVar 9) eA0)) (eCall d__law_turned (eA (eVar 4) (eA (eVar 13) (eA (eVar 11) eA0)))))) (sRet (eC (.bool false))) sNext) [.sh hnd, .sh (.tuple (t.map .int)), .sh (.tuple (N.map .int)), .sh (.tuple (F.map .int)), .sh (.tuple (A.map .int)), .sh (.tuple (B.map .int)), .sh (.tuple (G.map .int)), .sh (.tuple (M.map .int)), .sh (due), .sh (.tuple (tr.map .int)), .no, .sh (.int t.length), .sh (.int t.sum), .sh (.int R), .sh (.int (2 + o)), .no, .no, .no] w4 = some (.nx [.sh hnd, .sh (.tuple (t.map .int)), .sh (.tuple (N.map .int)), .sh (.tuple (F.map .int)), .sh (.tuple (A.map .int)), .sh (.tuple (B.map .int)), .sh (.tuple (G.map .int)), .sh (.tuple (M.map .int)), .sh (due), .sh (.tuple (tr.map .int)), .no, .sh (.int t.length), .sh (.int t.sum), .sh (.int R), .sh (.int (2 + o)), .no, .no, .no], w4) := pass_if (by simp [rAr, tA])
  have s16 : (sIf (bV (e2 gNe (eCall d_stations_round (eA (e2 gAdd (eSl gSl (eVar 3) (oSome (eVar 13)) oNone) (eSl gSl (eVar 3) oNone (oSome (eVar 13)))) (eA (e2 gAdd (eSl gSl (eVar 2) (oSome (eVar 13)) oNone) (eSl gSl (eVar 2) oNone (oSome (eVar 13)))) eA0))) (eCall d__law_turned (eA (eVar 5) (eA (eVar 13) (eA (eVar 11) eA0)))))) (sRet (eC (.bool false))) sNext) [.sh hnd, .sh (.tuple (t.map .int)), .sh (.tuple (N.map .int)), .sh (.tuple (F.map .int)), .sh (.tuple (A.map .int)), .sh (.tuple (B.map .int)), .sh (.tuple (G.map .int)), .sh (.tuple (M.map .int)), .sh (due), .sh (.tuple (tr.map .int)), .no, .sh (.int t.length), .sh (.int t.sum), .sh (.int R), .sh (.int (2 + o)), .no, .no, .no] w4 = some (.nx [.sh hnd, .sh (.tuple (t.map .int)), .sh (.tuple (N.map .int)), .sh (.tuple (F.map .int)), .sh (.tuple (A.map .int)), .sh (.tuple (B.map .int)), .sh (.tuple (G.map .int)), .sh (.tuple (M.map .int)), .sh (due), .sh (.tuple (tr.map .int)), .no, .sh (.int t.length), .sh (.int t.sum), .sh (.int R), .sh (.int (2 + o)), .no, .no, .no], w4) := pass_if (by simp [gF, gN, rBr, tB])
  have hmo : ∀ x : Int, gMul (.int (2 + o)) (.int x) = some (.int ((2 + o) * x)) := fun x => v_gMul (mulOk_l (small_of (by omega) (by omega)))
  obtain ⟨Fo, hFo⟩ : ∃ l, l = F.map fun x => (2 + o) * x := ⟨_, rfl⟩
  obtain ⟨No, hNo⟩ : ∃ l, l = N.map fun x => (2 + o) * x := ⟨_, rfl⟩
  have zFo := lc_mapI (gs := gSet 16) (ft := bYes) (fe := e2 gMul (eVar 14) (eVar 16)) (env := [.sh hnd, .sh (.tuple (t.map .int)), .sh (.tuple (N.map .int)), .sh (.tuple (F.map .int)), .sh (.tuple (A.map .int)), .sh (.tuple (B.map .int)), .sh (.tuple (G.map .int)), .sh (.tuple (M.map .int)), .sh (due), .sh (.tuple (tr.map .int)), .no, .sh (.int t.length), .sh (.int t.sum), .sh (.int R), .sh (.int (2 + o)), .no, .no, .no]) (w := w4) (g := fun x => (2 + o) * x) (xs := F) (fun x hx => ⟨_, rfl, rfl, by simp [hmo]⟩)
  have zNo := lc_mapI (gs := gSet 16) (ft := bYes) (fe := e2 gMul (eVar 14) (eVar 16)) (env := [.sh hnd, .sh (.tuple (t.map .int)), .sh (.tuple (N.map .int)), .sh (.tuple (F.map .int)), .sh (.tuple (A.map .int)), .sh (.tuple (B.map .int)), .sh (.tuple (G.map .int)), .sh (.tuple (M.map .int)), .sh (due), .sh (.tuple (tr.map .int)), .no, .sh (.int t.length), .sh (.int t.sum), .sh (.int R), .sh (.int (2 + o)), .no, .no, .no]) (w := w4) (g := fun x => (2 + o) * x) (xs := N) (fun x hx => ⟨_, rfl, rfl, by simp [hmo]⟩)
  rw [← hFo] at zFo
  rw [← hNo] at zNo
  have eFo := tup_ok (lc_ok (vs := [16]) (fi := iItems (eVar 3)) (e := [.sh hnd, .sh (.tuple (t.map .int)), .sh (.tuple (N.map .int)), .sh (.tuple (F.map .int)), .sh (.tuple (A.map .int)), .sh (.tuple (B.map .int)), .sh (.tuple (G.map .int)), .sh (.tuple (M.map .int)), .sh (due), .sh (.tuple (tr.map .int)), .no, .sh (.int t.length), .sh (.int t.sum), .sh (.int R), .sh (.int (2 + o)), .no, .no, .no]) (w := w4) (by simp) zFo)
  have eNo := tup_ok (lc_ok (vs := [16]) (fi := iItems (eVar 2)) (e := [.sh hnd, .sh (.tuple (t.map .int)), .sh (.tuple (N.map .int)), .sh (.tuple (F.map .int)), .sh (.tuple (A.map .int)), .sh (.tuple (B.map .int)), .sh (.tuple (G.map .int)), .sh (.tuple (M.map .int)), .sh (due), .sh (.tuple (tr.map .int)), .no, .sh (.int t.length), .sh (.int t.sum), .sh (.int R), .sh (.int (2 + o)), .no, .no, .no]) (w := w4) (by simp) zNo)
  obtain ⟨fFo, fNo, lo', zo⟩ := often_facts g12 aN hF (o := 2 + o) (by omega) (by omega) hFo hNo
  have rO := stations_round fFo fNo lo'
  rw [zo, show stI 0 (t.map fun x => (2 + o) * x) = B by rw [hB, stI, stI, st_scale g12.1 (by omega)]] at rO
  have s17 : (sIf (bV (e2 gNe (eCall d_stations_round (eA (e1 gTuple (eLc [16] (iItems (eVar 3)) (gSet 16) bYes (e2 gMul (eVar 14) (eVar 16)))) (eA (e1 gTuple (eLc [16] (iItems (eVar 2)) (gSet 16) bYes (e2 gMul (eVar 14) (eVar 16)))) eA0))) (eVar 5))) (sRet (eC (.bool false))) sNext) [.sh hnd, .sh (.tuple (t.map .int)), .sh (.tuple (N.map .int)), .sh (.tuple (F.map .int)), .sh (.tuple (A.map .int)), .sh (.tuple (B.map .int)), .sh (.tuple (G.map .int)), .sh (.tuple (M.map .int)), .sh (due), .sh (.tuple (tr.map .int)), .no, .sh (.int t.length), .sh (.int t.sum), .sh (.int R), .sh (.int (2 + o)), .no, .no, .no] w4 = some (.nx [.sh hnd, .sh (.tuple (t.map .int)), .sh (.tuple (N.map .int)), .sh (.tuple (F.map .int)), .sh (.tuple (A.map .int)), .sh (.tuple (B.map .int)), .sh (.tuple (G.map .int)), .sh (.tuple (M.map .int)), .sh (due), .sh (.tuple (tr.map .int)), .no, .sh (.int t.length), .sh (.int t.sum), .sh (.int R), .sh (.int (2 + o)), .no, .no, .no], w4) := pass_if (by
    simp only [v_bV, v_e2, v_eCall, v_eA, v_eA0, eFo, eNo, b_some, m_some, rO, v_eVar0, v_eVarS, v_gNeT, v_asB]
    simp)
  have B2 := lc_mapI (gs := gSet 10) (ft := bYes) (fe := e2 gAdd (eVar 10) (eVar 11)) (env := [.sh hnd, .sh (.tuple (t.map .int)), .sh (.tuple (N.map .int)), .sh (.tuple (F.map .int)), .sh (.tuple (A.map .int)), .sh (.tuple (B.map .int)), .sh (.tuple (G.map .int)), .sh (.tuple (M.map .int)), .sh (due), .sh (.tuple (tr.map .int)), .no, .sh (.int t.length), .sh (.int t.sum), .sh (.int R), .sh (.int (2 + o)), .no, .no, .no]) (w := w4) (g := fun x => x + (t.length : Int)) (xs := B) (fun x hx => ⟨_, rfl, rfl, by simp⟩)
  have A2 := lc_mapI (gs := gSet 10) (ft := bYes) (fe := e2 gAdd (eVar 10) (eVar 11)) (env := [.sh hnd, .sh (.tuple (t.map .int)), .sh (.tuple (N.map .int)), .sh (.tuple (F.map .int)), .sh (.tuple (A.map .int)), .sh (.tuple (B.map .int)), .sh (.tuple (G.map .int)), .sh (.tuple (M.map .int)), .sh (due), .sh (.tuple (tr.map .int)), .no, .sh (.int t.length), .sh (.int t.sum), .sh (.int R), .sh (.int (2 + o)), .no, .no, .no]) (w := w4) (g := fun x => x + (t.length : Int)) (xs := A) (fun x hx => ⟨_, rfl, rfl, by simp⟩)
  have lB : B.length ≤ 12 := by rw [hB]; exact Nat.le_trans (stI_len 0 t) g12.2.1
  have lA' : A.length ≤ 12 := by rw [hA]; exact Nat.le_trans (stI_len 1 t) g12.2.1
  have jB : gAdd (.tuple (B.map .int)) (.tuple ((B.map fun x => x + (t.length : Int)).map .int)) = some (.tuple ((B ++ B.map fun x => x + (t.length : Int)).map .int)) := by
    rw [v_gAddT _ _ (by simp only [List.length_map]; exact le_SZ (by omega)), List.map_append]
  have jA : gAdd (.tuple (A.map .int)) (.tuple ((A.map fun x => x + (t.length : Int)).map .int)) = some (.tuple ((A ++ A.map fun x => x + (t.length : Int)).map .int)) := by
    rw [v_gAddT _ _ (by simp only [List.length_map]; exact le_SZ (by omega)), List.map_append]
  have dF : gAdd (.tuple (F.map .int)) (.tuple (F.map .int)) = some (.tuple ((F ++ F).map .int)) := by
    rw [v_gAddT _ _ (by simp only [List.length_map]; exact le_SZ (by omega)), List.map_append]
  have dN : gAdd (.tuple (N.map .int)) (.tuple (N.map .int)) = some (.tuple ((N ++ N).map .int)) := by
    rw [v_gAddT _ _ (by simp only [List.length_map]; exact le_SZ (by omega)), List.map_append]
  have dt : gAdd (.tuple (t.map .int)) (.tuple (t.map .int)) = some (.tuple ((t ++ t).map .int)) := by
    rw [v_gAddT _ _ (by simp only [List.length_map]; exact le_SZ (by omega)), List.map_append]
  have s18 : (sIf (bAnd (bV (e2 gLe (eVar 11) (eC (.int 6)))) (bV (e2 gNe (eCall d_stations_round (eA (e2 gAdd (eVar 3) (eVar 3)) (eA (e2 gAdd (eVar 2) (eVar 2)) eA0))) (e2 gAdd (eVar 5) (e1 gTuple (eLc [10] (iItems (eVar 5)) (gSet 10) bYes (e2 gAdd (eVar 10) (eVar 11)))))))) (sRet (eC (.bool false))) sNext) [.sh hnd, .sh (.tuple (t.map .int)), .sh (.tuple (N.map .int)), .sh (.tuple (F.map .int)), .sh (.tuple (A.map .int)), .sh (.tuple (B.map .int)), .sh (.tuple (G.map .int)), .sh (.tuple (M.map .int)), .sh (due), .sh (.tuple (tr.map .int)), .no, .sh (.int t.length), .sh (.int t.sum), .sh (.int R), .sh (.int (2 + o)), .no, .no, .no] w4 = some (.nx [.sh hnd, .sh (.tuple (t.map .int)), .sh (.tuple (N.map .int)), .sh (.tuple (F.map .int)), .sh (.tuple (A.map .int)), .sh (.tuple (B.map .int)), .sh (.tuple (G.map .int)), .sh (.tuple (M.map .int)), .sh (due), .sh (.tuple (tr.map .int)), .no, .sh (.int t.length), .sh (.int t.sum), .sh (.int R), .sh (.int (2 + o)), .no, .no, .no], w4) := pass_if (by
    by_cases c : (t.length : Int) ≤ 6
    · have rD := stations_round (fine_twice fF (by omega)) (fine_twice fN (by omega)) (by simp; omega) w4
      rw [zip_twice nF, zd, stI_twice g12.1 (by decide), ← hB] at rD
      have eB := tup_ok (lc_ok (vs := [10]) (fi := iItems (eVar 5)) (e := [.sh hnd, .sh (.tuple (t.map .int)), .sh (.tuple (N.map .int)), .sh (.tuple (F.map .int)), .sh (.tuple (A.map .int)), .sh (.tuple (B.map .int)), .sh (.tuple (G.map .int)), .sh (.tuple (M.map .int)), .sh (due), .sh (.tuple (tr.map .int)), .no, .sh (.int t.length), .sh (.int t.sum), .sh (.int R), .sh (.int (2 + o)), .no, .no, .no]) (w := w4) (by simp) B2)
      simp only [v_bAnd, v_bV, v_e2, v_eCall, v_eA, v_eA0, eB, b_some, m_some, rD, v_eVar0, v_eVarS, v_gNeT, v_asB, v_eC, v_gCmp, decide_eq_true c, if_true, dF, dN, jB]
      simp
    · simp [c])
  have s19 : (sIf (bV (e2 gNe (eCall d_begins_ahead (eA (e2 gAdd (eVar 1) (eVar 1)) eA0)) (eIf (bV (e2 gGt (eVar 12) (eC (.int 0)))) (e2 gAdd (eVar 4) (e1 gTuple (eLc [10] (iItems (eVar 4)) (gSet 10) bYes (e2 gAdd (eVar 10) (eVar 11))))) (eTup eA0)))) (sRet (eC (.bool false))) sNext) [.sh hnd, .sh (.tuple (t.map .int)), .sh (.tuple (N.map .int)), .sh (.tuple (F.map .int)), .sh (.tuple (A.map .int)), .sh (.tuple (B.map .int)), .sh (.tuple (G.map .int)), .sh (.tuple (M.map .int)), .sh (due), .sh (.tuple (tr.map .int)), .no, .sh (.int t.length), .sh (.int t.sum), .sh (.int R), .sh (.int (2 + o)), .no, .no, .no] w4 = some (.nx [.sh hnd, .sh (.tuple (t.map .int)), .sh (.tuple (N.map .int)), .sh (.tuple (F.map .int)), .sh (.tuple (A.map .int)), .sh (.tuple (B.map .int)), .sh (.tuple (G.map .int)), .sh (.tuple (M.map .int)), .sh (due), .sh (.tuple (tr.map .int)), .no, .sh (.int t.length), .sh (.int t.sum), .sh (.int R), .sh (.int (2 + o)), .no, .no, .no], w4) := pass_if (by
    have rD := begins_ahead (good_twice g12) w4
    rw [stI_twice g12.1 (by decide), ← hA] at rD
    by_cases c : 0 < t.sum
    · have eA' := tup_ok (lc_ok (vs := [10]) (fi := iItems (eVar 4)) (e := [.sh hnd, .sh (.tuple (t.map .int)), .sh (.tuple (N.map .int)), .sh (.tuple (F.map .int)), .sh (.tuple (A.map .int)), .sh (.tuple (B.map .int)), .sh (.tuple (G.map .int)), .sh (.tuple (M.map .int)), .sh (due), .sh (.tuple (tr.map .int)), .no, .sh (.int t.length), .sh (.int t.sum), .sh (.int R), .sh (.int (2 + o)), .no, .no, .no]) (w := w4) (by simp) A2)
      simp only [v_bV, v_e2, v_eIf, v_eCall, v_eA, v_eA0, eA', b_some, m_some, rD, v_eVar0, v_eVarS, v_gNeT, v_asB, v_eC, v_gCmp, decide_eq_true c, if_true, dt, jA]
      simp
    · have n0 : A = [] := List.length_eq_zero_iff.mp (by rw [if_neg c] at lA; omega)
      rw [n0] at rD ⊢
      simp [dt, rD, c, -List.map_append])
  obtain ⟨e', w5, s20, -, -, -, hw5⟩ := loop_inv (gs := gSet 10) (body := (sSeq (sSet 15 (eCall d__law_sums (eA (eVar 1) (eA (eVar 10) eA0)))) (sIf (bV (e2 gNe (e2 (gIn false) (eC (.int 0)) (eVar 15)) (e2 (gIn true) (eVar 10) (eVar 4)))) (sRet (eC (.bool false))) sNext))) (J := fun pre env w => ∃ a b : DL.Slot, env = [.sh hnd, .sh (.tuple (t.map .int)), .sh (.tuple (N.map .int)), .sh (.tuple (F.map .int)), .sh (.tuple (A.map .int)), .sh (.tuple (B.map .int)), .sh (.tuple (G.map .int)), .sh (.tuple (M.map .int)), .sh (due), .sh (.tuple (tr.map .int)), a, .sh (.int t.length), .sh (.int t.sum), .sh (.int R), .sh (.int (2 + o)), b, .no, .no] ∧ w = w4) (ds := B.map .int) (pre := []) (e := [.sh hnd, .sh (.tuple (t.map .int)), .sh (.tuple (N.map .int)), .sh (.tuple (F.map .int)), .sh (.tuple (A.map .int)), .sh (.tuple (B.map .int)), .sh (.tuple (G.map .int)), .sh (.tuple (M.map .int)), .sh (due), .sh (.tuple (tr.map .int)), .no, .sh (.int t.length), .sh (.int t.sum), .sh (.int R), .sh (.int (2 + o)), .no, .no, .no]) (w := w4) ⟨.no, .no, rfl, rfl⟩ (by
    rintro pre d post hds env w ⟨a, b, rfl, rfl⟩
    have hd : d ∈ B.map PyData.int := by rw [hds]; simp
    obtain ⟨x, hx, rfl⟩ := List.mem_map.mp hd
    rw [hB] at hx
    obtain ⟨n, hn, rfl⟩ := List.mem_map.mp hx
    obtain ⟨h1, h2⟩ := (mem_st g12.1).mp hn
    have ls := law_sums (t := t) (b := n) (by omega) (by omega) w
    have key : decide ((0 : Int) ∈ sums t n) = !decide ((n : Int) ∈ A) := by rw [hA]; exact zero_in g12.1 hn
    refine ⟨[.sh hnd, .sh (.tuple (t.map .int)), .sh (.tuple (N.map .int)), .sh (.tuple (F.map .int)), .sh (.tuple (A.map .int)), .sh (.tuple (B.map .int)), .sh (.tuple (G.map .int)), .sh (.tuple (M.map .int)), .sh (due), .sh (.tuple (tr.map .int)), .sh (.int n), .sh (.int t.length), .sh (.int t.sum), .sh (.int R), .sh (.int (2 + o)), b, .no, .no], [.sh hnd, .sh (.tuple (t.map .int)), .sh (.tuple (N.map .int)), .sh (.tuple (F.map .int)), .sh (.tuple (A.map .int)), .sh (.tuple (B.map .int)), .sh (.tuple (G.map .int)), .sh (.tuple (M.map .int)), .sh (due), .sh (.tuple (tr.map .int)), .sh (.int n), .sh (.int t.length), .sh (.int t.sum), .sh (.int R), .sh (.int (2 + o)), .sh (.list ((sums t n).map .int)), .no, .no], w, rfl, seq_nx (set_ok (d := .list ((sums t n).map .int)) (w' := w) (by simp [ls])) (pass_if ?_), _, _, rfl, rfl⟩
    simp [key])
  subst hw5
  exact ⟨w5, fnD_rt (seq_nx s0 (seq_nx s1 (seq_nx s2 (seq_nx s3 (seq_nx s4 (seq_nx s5 (seq_nx s6 (seq_nx s7 (seq_nx s8 (seq_nx s9 (seq_nx s10 (seq_nx s11 (seq_nx s12 (seq_nx s13 (seq_nx s14 (seq_nx s15 (seq_nx s16 (seq_nx s17 (seq_nx s18 (seq_nx s19 (seq_nx (for_ok (by simp) s20) rfl))))))))))))))))))))), k4⟩
theorem math : ∀ ns : List Int, ns.length ≤ 63 → ∃ w', y_law (Slot.no :: Slot.sh hnd :: List.replicate (n_law.length - 2) Slot.no) (hw ns) = some (.rt (.bool true), w') := by
  intro ns _
  have hw0 : WOk (hw ns) := Int.le_refl _
  generalize hw ns = w0 at hw0
  have b1 := begins_ahead (t := [1, 1, -1, 1, -1]) ⟨by simp, by decide, by decide⟩ w0
  have b2 := stations_round (f := [1, 0]) (g := [0, 1]) ⟨by simp, by decide, by decide⟩ ⟨by simp, by decide, by decide⟩ rfl w0
  have c1 : stI 1 [1, 1, -1, 1, -1] = [0] := by decide
  have c2 : stI 0 (List.zipWith (fun x y => x - y) [1, 0] [0, 1]) = [0] := by decide
  have o : gNe (.tuple [.int 0]) (.tuple [.int 0]) = some (.bool false) := v_gNeT [0] [0]
  rw [c1] at b1
  rw [c2] at b2
  simp only [List.map_cons, List.map_nil] at b1 b2
  have s1 : sIf (bOr (bV (e2 gNe (eCall d_begins_ahead (eA (eTup (eA (eC (.int 1)) (eA (eC (.int 1)) (eA (e1 gNeg (eC (.int 1))) (eA (eC (.int 1)) (eA (e1 gNeg (eC (.int 1))) eA0)))))) eA0)) (eTup (eA (eC (.int 0)) eA0)))) (bV (e2 gNe (eCall d_stations_round (eA (eTup (eA (eC (.int 1)) (eA (eC (.int 0)) eA0))) (eA (eTup (eA (eC (.int 0)) (eA (eC (.int 1)) eA0))) eA0))) (eTup (eA (eC (.int 0)) eA0))))) (sRet (eC (.bool false))) sNext [.no, .sh hnd, .no] w0 =
      some (.nx [.no, .sh hnd, .no], w0) := pass_if (by simp [b1, b2, o])
  obtain ⟨w', e, _⟩ := lc_true (gs := gSet 2) (ft := bYes) (fe := eCall d__law_is_right (eA (eVar 1) eA0)) (env := [.no, .sh hnd, .no]) (I := WOk) (ds := ((List.range 8).map fun (k : Nat) => (k : Int)).map .int) (w := w0) hw0 (fun d _ w hw => by
    obtain ⟨w', h1, h2⟩ := right hw
    exact ⟨[.no, .sh hnd, .sh d], w', rfl, rfl, by simp [h1], h2⟩)
  refine ⟨w', ?_⟩
  show y_law [.no, .sh hnd, .no] w0 = _
  refine seq_nx s1 (ret_ok (e1_ok (lc_ok (v_iRange1 (n := 8) (w' := w0) rfl (by decide)) e) ?_))
  rw [v_gAll, all_rep]
end K04

open PySem PySem.W PyProof.Rows in
set_option maxRecDepth 100000 in
set_option maxHeartbeats 0 in
theorem PySem.Challenge.cw_wayriddles_k04_whole_begins_ahead_as_sta_holds : PySem.Challenge.rw_wayriddles_k04_whole_begins_ahead_as_sta.Holds := by
  w_on; o_law; k_head; (case hw => w_witness2)
  k_fill
  refine K04.walk (l := PySem.Challenge.rw_wayriddles_k04_whole_begins_ahead_as_sta) rfl rfl (fun w h Y => PySem.W.kIn_of Y) ?F
  case F =>
    intro w mg fa h KX G hmg
    refine' K04.all_mk KX G hmg K04.math (.of ?x0 ?l0 ?c0 ?k0) (.of ?x1 ?l1 ?c1 ?k1) (.of ?x2 ?l2 ?c2 ?k2) (.of ?x3 ?l3 ?c3 ?k3) (.of ?x4 ?l4 ?c4 ?k4) (.of ?x5 ?l5 ?c5 ?k5) (.of ?x6 ?l6 ?c6 ?k6) (.of ?x7 ?l7 ?c7 ?k7) (.of ?x8 ?l8 ?c8 ?k8) (.of ?x9 ?l9 ?c9 ?k9) (.of ?x10 ?l10 ?c10 ?k10) (.of ?x11 ?l11 ?c11 ?k11) (.of ?x12 ?l12 ?c12 ?k12) (.of ?x13 ?l13 ?c13 ?k13) (.of ?x14 ?l14 ?c14 ?k14) (.of ?x15 ?l15 ?c15 ?k15) (.of ?x16 ?l16 ?c16 ?k16) (.of ?x17 ?l17 ?c17 ?k17) (.of ?x18 ?l18 ?c18 ?k18) (.of ?x19 ?l19 ?c19 ?k19) (.of ?x20 ?l20 ?c20 ?k20) (.of ?x21 ?l21 ?c21 ?k21) ?z_abs ?z_all ?z_bool ?z_int ?z_isinstance ?z_len ?z_max ?z_min ?z_range ?z_sorted ?z_sum ?z_tuple ?z_zip ?y_FALLS_SHORT ?y_FROM_BEGIN ?y_GOES_FROM ?y_LEAST_TAKING ?y_MOST_FILL ?y_MOST_STATIONS ?y_MOST_TAKINGS
    (case x0 => k_is)
    (case l0 => k_is)
    (case c0 => k_is)
    (case k0 => k_is)
    (case x1 => k_is)
    (case l1 => k_is)
    (case c1 => k_is)
    (case k1 => k_is)
    (case x2 => k_is)
    (case l2 => k_is)
    (case c2 => k_is)
    (case k2 => k_is)
    (case x3 => k_is)
    (case l3 => k_is)
    (case c3 => k_is)
    (case k3 => k_is)
    (case x4 => k_is)
    (case l4 => k_is)
    (case c4 => k_is)
    (case k4 => k_is)
    (case x5 => k_is)
    (case l5 => k_is)
    (case c5 => k_is)
    (case k5 => k_is)
    (case x6 => k_is)
    (case l6 => k_is)
    (case c6 => k_is)
    (case k6 => k_is)
    (case x7 => k_is)
    (case l7 => k_is)
    (case c7 => k_is)
    (case k7 => k_is)
    (case x8 => k_is)
    (case l8 => k_is)
    (case c8 => k_is)
    (case k8 => k_is)
    (case x9 => k_is)
    (case l9 => k_is)
    (case c9 => k_is)
    (case k9 => k_is)
    (case x10 => k_is)
    (case l10 => k_is)
    (case c10 => k_is)
    (case k10 => k_is)
    (case x11 => k_is)
    (case l11 => k_is)
    (case c11 => k_is)
    (case k11 => k_is)
    (case x12 => k_is)
    (case l12 => k_is)
    (case c12 => k_is)
    (case k12 => k_is)
    (case x13 => k_is)
    (case l13 => k_is)
    (case c13 => k_is)
    (case k13 => k_is)
    (case x14 => k_is)
    (case l14 => k_is)
    (case c14 => k_is)
    (case k14 => k_is)
    (case x15 => k_is)
    (case l15 => k_is)
    (case c15 => k_is)
    (case k15 => k_is)
    (case x16 => k_is)
    (case l16 => k_is)
    (case c16 => k_is)
    (case k16 => k_is)
    (case x17 => k_is)
    (case l17 => k_is)
    (case c17 => k_is)
    (case k17 => k_is)
    (case x18 => k_is)
    (case l18 => k_is)
    (case c18 => k_is)
    (case k18 => k_is)
    (case x19 => k_is)
    (case l19 => k_is)
    (case c19 => k_is)
    (case k19 => k_is)
    (case x20 => k_is)
    (case l20 => k_is)
    (case c20 => k_is)
    (case k20 => k_is)
    (case x21 => k_is)
    (case l21 => k_is)
    (case c21 => k_is)
    (case k21 => k_is)
    (case z_abs => k_is)
    (case z_all => k_is)
    (case z_bool => k_is)
    (case z_int => k_is)
    (case z_isinstance => k_is)
    (case z_len => k_is)
    (case z_max => k_is)
    (case z_min => k_is)
    (case z_range => k_is)
    (case z_sorted => k_is)
    (case z_sum => k_is)
    (case z_tuple => k_is)
    (case z_zip => k_is)
    (case y_FALLS_SHORT => k_is)
    (case y_FROM_BEGIN => k_is)
    (case y_GOES_FROM => k_is)
    (case y_LEAST_TAKING => k_is)
    (case y_MOST_FILL => k_is)
    (case y_MOST_STATIONS => k_is)
    (case y_MOST_TAKINGS => k_is)

