import PyProof.Rows.All
import Wide.All
import OpenK.AllK
import Wide.FinOn
import HandS.Base
import HandS.Words
import PySem.Challenge.RW_twobesides_k63_whole_scripts_parted
import HandS.ForMost
import HandS.TupAny
import HandS.Zip
import HandS.Deep
import HandS.Exc
import HandS.Defaults
import KE.SortData
import KE.KDictSum
import HandS.Conv
import KE.KDictPairs
import KE.KDictKeyed
import KE.KDictCopyH
import HandS.IsInst
import KE.Datum
import KE.KStateDown
import Lean
import HandS.Call
import HandS.Ends
import HandS.More
import HandS.WordsExc
import HandS.Head0
import HandS.Head1
import HandS.Head2
import HandS.HeadEnd
import HandS.HeadHook1
import HandS.HeadHook2
set_option Elab.async false
set_option linter.all false
set_option maxRecDepth 100000
set_option maxHeartbeats 4000000
/-! TbTop: the text by places; what the module's names hold. -/
namespace T2
open PySem PySem.Spec PyProof.Rows L2
def top (i : Nat) : Stmt := PySem.Challenge.pw_twobesides_k63_whole_scripts_parted.main.body.getD i (.Pass ⟨0, 0, 0, 0⟩)
abbrev sis_whole : Stmt := top 8
abbrev sis_tuple_of : Stmt := top 9
abbrev sare_whole : Stmt := top 10
abbrev spairs_of : Stmt := top 11
abbrev spair_of : Stmt := top 12
abbrev sfits_tie : Stmt := top 13
abbrev sfits_company : Stmt := top 14
abbrev scompany_by : Stmt := top 15
abbrev sties_in : Stmt := top 16
abbrev sneed_named : Stmt := top 17
abbrev sneed_company : Stmt := top 18
abbrev sanswer_of : Stmt := top 20
abbrev sbehind : Stmt := top 21
abbrev srun_by : Stmt := top 22
abbrev sare_two_named : Stmt := top 27
abbrev sare_answers : Stmt := top 28
abbrev sfits_deed : Stmt := top 29
abbrev sfits_choice : Stmt := top 30
abbrev sitems_in : Stmt := top 31
abbrev sfits_script : Stmt := top 32
abbrev sneed_scripts : Stmt := top 34
abbrev sneed_start : Stmt := top 35
abbrev stwos_of : Stmt := top 36
abbrev sparted_in : Stmt := top 37
abbrev slots_within : Stmt := top 38
abbrev sviews_at : Stmt := top 39
abbrev sparting_views : Stmt := top 40
abbrev sparted_by : Stmt := top 41
abbrev sparted_at : Stmt := top 42
abbrev s_law_cup : Stmt := top 44
abbrev s_law_roll : Stmt := top 45
abbrev s_law_some : Stmt := top 46
abbrev s_law_two : Stmt := top 47
abbrev s_law_pairs : Stmt := top 48
abbrev s_law_knows : Stmt := top 49
abbrev s_law_behind : Stmt := top 50
abbrev s_law_done : Stmt := top 51
abbrev s_law_answers : Stmt := top 52
abbrev s_law_deed : Stmt := top 53
abbrev s_law_items : Stmt := top 54
abbrev s_law_count : Stmt := top 55
abbrev s_law_script : Stmt := top 56
abbrev s_law_company : Stmt := top 57
abbrev s_law_k : Stmt := top 58
abbrev s_law_scripts : Stmt := top 59
abbrev s_law_parted : Stmt := top 60
abbrev s_law_starts : Stmt := top 61
abbrev s_law_parted_at : Stmt := top 62
abbrev s_law_right : Stmt := top 63
abbrev slaw : Stmt := top 64
structure Mg (K : PySem.W.Frag) (mg : Str → Option Value) : Prop where
  len : mg "len" = Option.none
  range : mg "range" = Option.none
  min : mg "min" = Option.none
  max : mg "max" = Option.none
  isinstance : mg "isinstance" = Option.none
  int : mg "int" = Option.none
  bool : mg "bool" = Option.none
  str : mg "str" = Option.none
  tuple : mg "tuple" = Option.none
  list : mg "list" = Option.none
  dict : mg "dict" = Option.none
  all : mg "all" = Option.none
  sum : mg "sum" = Option.none
  sorted : mg "sorted" = Option.none
  zip : mg "zip" = Option.none
  abs : mg "abs" = Option.none
  NAMED : ∃ t, mg "NAMED" = some (.int 3 t)
  PEOPLE : ∃ t, mg "PEOPLE" = some (.int 9 t)
  ITEMS : ∃ t, mg "ITEMS" = some (.int 30 t)
  DEEPEST : ∃ t, mg "DEEPEST" = some (.int 4 t)
  WORDS : ∃ a, mg "WORDS" = some (.ref a) ∧ ∀ H, SqT K H a [.str "know", .str "part", .str "turn"]
end T2

set_option Elab.async false
set_option linter.all false
set_option maxRecDepth 100000
set_option maxHeartbeats 4000000
/-! TbW: the layer's judgements turned pointwise (WE ..), values as data (Rep), slots as data (En), what an expression is worth (ED, TD, AD ..). -/
namespace T2
open PySem PySem.Spec PyProof.Rows L2
section
variable {X : Cx}
/-! ### all readings of a piece at once -/
def WE (X : Cx) (e : Expr) : TE := fun σ H Q => ∃ t, PE X e t ∧ t σ H Q
def WT (X : Cx) (e : Expr) : TT := fun σ H Q => ∃ t, PT X e t ∧ t σ H Q
def WW (X : Cx) (e : Expr) : TT := fun σ H Q => ∃ t, PW X e t ∧ t σ H Q
def WA (X : Cx) (es : List Expr) : TA := fun σ H Q => ∃ t, PA X es t ∧ t σ H Q
def WO (X : Cx) (e : Option Expr) : TO := fun σ H Q => ∃ t, PO X e t ∧ t σ H Q
def WS (X : Cx) (st : Stmt) : TS := fun D σ H => ∃ t, PS X st t ∧ t D σ H
def WSs (X : Cx) (st : List Stmt) : TS := fun D σ H => ∃ t, PSs X st t ∧ t D σ H
def WTs (X : Cx) (ifs : List Expr) : TT := fun σ H Q => ∃ t, PTs X ifs t ∧ t σ H Q
def WG (X : Cx) (tg : Expr) : TG := fun v σ H Q => ∃ t, PG X tg t ∧ t v σ H Q
def WGs (X : Cx) (tg : List Expr) : TGs := fun v σ H Q => ∃ t, PGs X tg t ∧ t v σ H Q
def WI (X : Cx) (tg iter : Expr) : TI := fun σ H R => ∃ t, PI X tg iter t ∧ t σ H R
theorem WE.p {e : Expr} : PE X e (WE X e) := ⟨fun pins s σ H Q I ⟨t, h, q⟩ => h.run pins s σ H Q I q⟩
theorem WT.p {e : Expr} : PT X e (WT X e) := ⟨fun pins s σ H Q I ⟨t, h, q⟩ => h.run pins s σ H Q I q⟩
theorem WW.p {e : Expr} : PW X e (WW X e) := ⟨fun wh pins s σ H Q I ⟨t, h, q⟩ => h.run wh pins s σ H Q I q⟩
theorem WA.p {es : List Expr} : PA X es (WA X es) := ⟨fun pos pins s σ H Q I ⟨t, h, q⟩ => h.run pos pins s σ H Q I q⟩
theorem WO.p {e : Option Expr} : PO X e (WO X e) := ⟨fun pins s σ H Q I ⟨t, h, q⟩ => h.run pins s σ H Q I q⟩
theorem WS.p {st : Stmt} : PS X st (WS X st) := ⟨fun pins s σ H D I ⟨t, h, q⟩ => h.run pins s σ H D I q⟩
theorem WSs.p {st : List Stmt} : PSs X st (WSs X st) := ⟨fun pins s σ H D I ⟨t, h, q⟩ => h.run pins s σ H D I q⟩
theorem WTs.p {ifs : List Expr} : PTs X ifs (WTs X ifs) := ⟨fun pins s σ H Q I ⟨t, h, q⟩ => h.run pins s σ H Q I q⟩
theorem WG.p {tg : Expr} : PG X tg (WG X tg) := ⟨fun pins s σ H v u Q I r ⟨t, h, q⟩ => h.run pins s σ H v u Q I r q⟩
theorem WGs.p {tg : List Expr} : PGs X tg (WGs X tg) := ⟨fun pins s σ H v u Q I r ⟨t, h, q⟩ => h.run pins s σ H v u Q I r q⟩
theorem WI.p {tg iter : Expr} : PI X tg iter (WI X tg iter) := ⟨fun pins s σ H R I ⟨t, h, q⟩ => h.run pins s σ H R I q⟩
end

/-! ### values as data; C: addresses apart (they may change) -/
def kD : Key → PyData
  | .inl i => .int i
  | .inr x => .str x
mutual
inductive Rep (C : Addr → Prop) (H : Hp) : V → PyData → Prop
  | non : Rep C H .non .none
  | bl (b : Bool) : Rep C H (.bl b) (.bool b)
  | int (i : Int) : Rep C H (.int i) (.int i)
  | str (x : Str) : Rep C H (.str x) (.str x)
  | lst {a : Addr} {xs : List V} {ds : List PyData} : ¬ C a → H a = some (.lst xs) → RepAll C H xs ds → Rep C H (.ref a) (.list ds)
  | tup {a : Addr} {xs : List V} {ds : List PyData} : ¬ C a → H a = some (.tup xs) → RepAll C H xs ds → Rep C H (.ref a) (.tuple ds)
  | dic {a : Addr} {ks : List (List Key × V)} {ds : List (PyData × PyData)} : ¬ C a → H a = some (.dT ks) → RepKs C H ks ds → Rep C H (.ref a) (.dict ds)
inductive RepAll (C : Addr → Prop) (H : Hp) : List V → List PyData → Prop
  | nil : RepAll C H [] []
  | cons {v : V} {vs : List V} {d : PyData} {ds : List PyData} : Rep C H v d → RepAll C H vs ds → RepAll C H (v :: vs) (d :: ds)
inductive RepKs (C : Addr → Prop) (H : Hp) : List (List Key × V) → List (PyData × PyData) → Prop
  | nil : RepKs C H [] []
  | cons {p : List Key} {v : V} {ks : List (List Key × V)} {d : PyData} {ds : List (PyData × PyData)} : Rep C H v d → RepKs C H ks ds → RepKs C H ((p, v) :: ks) ((.tuple (p.map kD), d) :: ds)
end
def SameB (C : Addr → Prop) (H H' : Hp) : Prop := ∀ a o, ¬ C a → H a = some o → H' a = some o
theorem SameB.refl {C : Addr → Prop} (H : Hp) : SameB C H H := fun _ _ _ h => h
theorem SameB.trans {C : Addr → Prop} {H H1 H2 : Hp} (a : SameB C H H1) (b : SameB C H1 H2) : SameB C H H2 := fun x o c h => b x o c (a x o c h)
theorem toB {C : Addr → Prop} {H H' : Hp} (e : Same H H') : SameB C H H' := fun a o _ h => e a o h
mutual
theorem Rep.mono {C : Addr → Prop} {H H' : Hp} (e : SameB C H H') : ∀ {v : V} {d : PyData}, Rep C H v d → Rep C H' v d
  | _, _, .non => .non
  | _, _, .bl b => .bl b
  | _, _, .int i => .int i
  | _, _, .str x => .str x
  | _, _, .lst hc h r => .lst hc (e _ _ hc h) (RepAll.mono e r)
  | _, _, .tup hc h r => .tup hc (e _ _ hc h) (RepAll.mono e r)
  | _, _, .dic hc h r => .dic hc (e _ _ hc h) (RepKs.mono e r)
theorem RepAll.mono {C : Addr → Prop} {H H' : Hp} (e : SameB C H H') : ∀ {vs : List V} {ds : List PyData}, RepAll C H vs ds → RepAll C H' vs ds
  | _, _, .nil => .nil
  | _, _, .cons h t => .cons (Rep.mono e h) (RepAll.mono e t)
theorem RepKs.mono {C : Addr → Prop} {H H' : Hp} (e : SameB C H H') : ∀ {ks : List (List Key × V)} {ds : List (PyData × PyData)}, RepKs C H ks ds → RepKs C H' ks ds
  | _, _, .nil => .nil
  | _, _, .cons h t => .cons (Rep.mono e h) (RepKs.mono e t)
end
theorem Rep.same {C : Addr → Prop} {H H' : Hp} {v : V} {d : PyData} (e : Same H H') (h : Rep C H v d) : Rep C H' v d := h.mono (toB e)
theorem RepAll.same {C : Addr → Prop} {H H' : Hp} {v : List V} {d : List PyData} (e : Same H H') (h : RepAll C H v d) : RepAll C H' v d := h.mono (toB e)
/- other addresses apart -/
mutual
theorem Rep.apart {C C' : Addr → Prop} {H : Hp} (e : ∀ a o, H a = some o → ¬ C a → ¬ C' a) : ∀ {v : V} {d : PyData}, Rep C H v d → Rep C' H v d
  | _, _, .non => .non
  | _, _, .bl b => .bl b
  | _, _, .int i => .int i
  | _, _, .str x => .str x
  | _, _, .lst hc h r => .lst (e _ _ h hc) h (RepAll.apart e r)
  | _, _, .tup hc h r => .tup (e _ _ h hc) h (RepAll.apart e r)
  | _, _, .dic hc h r => .dic (e _ _ h hc) h (RepKs.apart e r)
theorem RepAll.apart {C C' : Addr → Prop} {H : Hp} (e : ∀ a o, H a = some o → ¬ C a → ¬ C' a) : ∀ {vs : List V} {ds : List PyData}, RepAll C H vs ds → RepAll C' H vs ds
  | _, _, .nil => .nil
  | _, _, .cons h t => .cons (Rep.apart e h) (RepAll.apart e t)
theorem RepKs.apart {C C' : Addr → Prop} {H : Hp} (e : ∀ a o, H a = some o → ¬ C a → ¬ C' a) : ∀ {ks : List (List Key × V)} {ds : List (PyData × PyData)}, RepKs C H ks ds → RepKs C' H ks ds
  | _, _, .nil => .nil
  | _, _, .cons h t => .cons (Rep.apart e h) (RepKs.apart e t)
end
section
variable {C : Addr → Prop} {H H' : Hp} {K : PySem.W.Frag}
theorem RepAll.length : ∀ {vs : List V} {ds : List PyData}, RepAll C H vs ds → vs.length = ds.length
  | _, _, .nil => rfl
  | _, _, .cons _ t => congrArg Nat.succ (RepAll.length t)
theorem RepAll.append : ∀ {vs ws : List V} {ds es : List PyData}, RepAll C H vs ds → RepAll C H ws es → RepAll C H (vs ++ ws) (ds ++ es)
  | _, _, _, _, .nil, s => s
  | _, _, _, _, .cons h t, s => .cons h (RepAll.append t s)
theorem RepAll.get : ∀ {vs : List V} {ds : List PyData} {i : Nat} {d : PyData}, RepAll C H vs ds → ds[i]? = some d → ∃ v, vs[i]? = some v ∧ Rep C H v d
  | _, _, _, _, .nil, h => by simp at h
  | _, _, 0, _, .cons h _, e => by simp at e; subst e; exact ⟨_, rfl, h⟩
  | _, _, i + 1, d, .cons _ t, e => by
    obtain ⟨v, h1, h2⟩ := RepAll.get (i := i) (d := d) t (by simpa using e)
    exact ⟨v, by simpa using h1, h2⟩
theorem RepAll.drop : ∀ {vs : List V} {ds : List PyData} (n : Nat), RepAll C H vs ds → RepAll C H (vs.drop n) (ds.drop n)
  | _, _, 0, r => r
  | _, _, _ + 1, .nil => .nil
  | _, _, n + 1, .cons _ t => RepAll.drop n t
theorem RepAll.take : ∀ {vs : List V} {ds : List PyData} (n : Nat), RepAll C H vs ds → RepAll C H (vs.take n) (ds.take n)
  | _, _, 0, _ => .nil
  | _, _, _ + 1, .nil => .nil
  | _, _, n + 1, .cons h t => .cons h (RepAll.take n t)
theorem RepAll.snoc {vs : List V} {ds : List PyData} {v : V} {d : PyData} (h : RepAll C H vs ds) (r : Rep C H v d) : RepAll C H (vs ++ [v]) (ds ++ [d]) := h.append (.cons r .nil)
theorem RepAll.ints : ∀ {vs : List V} {ns : List Int}, RepAll C H vs (ns.map .int) → vs = ns.map V.int
  | _, [], h => by cases h; rfl
  | _, n :: ns, h => by
    rw [List.map_cons] at h
    cases h with
    | cons h1 t => cases h1; rw [List.map_cons, ← RepAll.ints t]
theorem RepAll.bls : ∀ {vs : List V} {bs : List Bool}, RepAll C H vs (bs.map .bool) → vs = bs.map V.bl
  | _, [], h => by cases h; rfl
  | _, n :: ns, h => by
    rw [List.map_cons] at h
    cases h with
    | cons h1 t => cases h1; rw [List.map_cons, ← RepAll.bls t]
theorem RepAll.strs : ∀ {vs : List V} {bs : List Str}, RepAll C H vs (bs.map .str) → vs = bs.map V.str
  | _, [], h => by cases h; rfl
  | _, n :: ns, h => by
    rw [List.map_cons] at h
    cases h with
    | cons h1 t => cases h1; rw [List.map_cons, ← RepAll.strs t]
theorem repInts : ∀ ns : List Int, RepAll C H (ns.map V.int) (ns.map .int)
  | [] => .nil
  | n :: ns => .cons (.int n) (repInts ns)
mutual
theorem Rep.dp : ∀ {v : V} {d : PyData}, Rep C H v d → d.canLay0 = true → Dp K H v d
  | _, _, .non, _ => .non
  | _, _, .bl b, _ => .bl b
  | _, _, .int i, _ => .int i
  | _, _, .str x, _ => .str x
  | _, _, .lst _ h r, l => .lst (SqL.of h) (RepAll.dp r (by rw [PyData.canLay0] at l; exact l))
  | _, _, .tup _ h r, l => .tup (SqT.of h) (RepAll.dp r (by rw [PyData.canLay0] at l; exact l))
  | _, _, .dic _ _ _, l => absurd l (by simp [PyData.canLay0])
theorem RepAll.dp : ∀ {vs : List V} {ds : List PyData}, RepAll C H vs ds → PyData.canLayAll0 ds = true → DpAll K H vs ds
  | _, _, .nil, _ => .nil
  | _, _, .cons h t, l => by
    rw [PyData.canLayAll0, Bool.and_eq_true] at l
    exact .cons (Rep.dp h l.1) (RepAll.dp t l.2)
end
end

/-! ### slots as data -/
inductive Sd where
  | any | dat (d : PyData) | val (v : V)
def SdOk (C : Addr → Prop) (H : Hp) (s : Option (Option V)) : Sd → Prop
  | .any => True
  | .dat d => ∃ v, s = some (some v) ∧ Rep C H v d
  | .val v => s = some (some v)
/-- what stands apart are lists -/
def Th (C : Addr → Prop) (H : Hp) : Prop := ∀ a, C a → ∃ zs, H a = some (.lst zs)
theorem Th.fresh {C : Addr → Prop} {H : Hp} (h : Th C H) {p : Addr} (e : H p = none) : ¬ C p := fun c => by
  obtain ⟨zs, q⟩ := h p c
  rw [e] at q
  cases q
theorem Th.same {C : Addr → Prop} {H H' : Hp} (h : Th C H) (e : Same H H') : Th C H' := fun a c => by
  obtain ⟨zs, q⟩ := h a c
  exact ⟨zs, e _ _ q⟩
theorem Th.tup {C : Addr → Prop} {H : Hp} (h : Th C H) {p : Addr} {xs : List V} (e : H p = some (.tup xs)) : ¬ C p := fun c => by
  obtain ⟨zs, q⟩ := h p c
  rw [e] at q
  cases q
structure En (C : Addr → Prop) (H : Hp) (σ : L2.St) (Γ : List Sd) : Prop where
  there : Th C H
  len : σ.length = Γ.length
  sl : ∀ (i : Nat) (s : Sd), Γ[i]? = some s → SdOk C H σ[i]? s
section
variable {C : Addr → Prop} {H H' : Hp} {σ σ' : L2.St} {Γ Γ' : List Sd}
theorem SdOk.mono (e : SameB C H H') {s : Option (Option V)} : ∀ {d : Sd}, SdOk C H s d → SdOk C H' s d
  | .any, _ => trivial
  | .dat _, ⟨v, h, r⟩ => ⟨v, h, r.mono e⟩
  | .val _, h => h
theorem En.mono (hE : En C H σ Γ) (e : SameB C H H') (ht : Th C H') : En C H' σ Γ := ⟨ht, hE.len, fun i s h => (hE.sl i s h).mono e⟩
theorem En.same (hE : En C H σ Γ) (e : Same H H') : En C H' σ Γ := hE.mono (toB e) (hE.there.same e)
theorem SdOk.apart {C1 : Addr → Prop} (e : ∀ a o, H a = some o → ¬ C a → ¬ C1 a) {s : Option (Option V)} : ∀ {d : Sd}, SdOk C H s d → SdOk C1 H s d
  | .any, _ => trivial
  | .dat _, ⟨v, h, r⟩ => ⟨v, h, r.apart e⟩
  | .val _, h => h
theorem En.apart {C1 : Addr → Prop} (hE : En C H σ Γ) (e : ∀ a o, H a = some o → ¬ C a → ¬ C1 a) (s : Same H H') (ht : Th C1 H') : En C1 H' σ Γ :=
  ⟨ht, hE.len, fun i t h => ((hE.sl i t h).apart e).mono (toB s)⟩
theorem En.fresh (hE : En C H σ Γ) {p : Addr} (h : H p = none) : ¬ C p := hE.there.fresh h
theorem same_new {H : Hp} {p : Addr} {o : HO} (h : H p = none) : Same H (upd H p o) := fun b x e => by
  rw [upd_ne (ne_of_none e h)]
  exact e
theorem En.put (hE : En C H σ Γ) {i : Nat} {v : V} {s : Sd} (h : SdOk C H (some (some v)) s) : En C H (σ.set i (some v)) (Γ.set i s) := by
  refine ⟨hE.there, by rw [List.length_set, List.length_set, hE.len], fun j t e => ?_⟩
  by_cases hj : i = j
  · subst hj
    rw [List.getElem?_set] at e
    rw [List.getElem?_set]
    simp only [if_true] at e ⊢
    split at e
    · rename_i hl
      cases e
      rw [if_pos (by rw [hE.len]; exact hl)]
      exact h
    · cases e
  · rw [List.getElem?_set_ne hj] at e
    rw [List.getElem?_set_ne hj]
    exact hE.sl j t e
theorem En.set (hE : En C H σ Γ) {i : Nat} {v : V} {d : PyData} (r : Rep C H v d) : En C H (σ.set i (some v)) (Γ.set i (.dat d)) := hE.put ⟨v, rfl, r⟩
/-- what is less known -/
theorem En.weak (hE : En C H σ Γ) (hl : Γ'.length = Γ.length) (h : ∀ (i : Nat) (s : Sd), Γ'[i]? = some s → s = .any ∨ Γ[i]? = some s) : En C H σ Γ' := by
  refine ⟨hE.there, hE.len.trans hl.symm, fun i s e => ?_⟩
  rcases h i s e with rfl | q
  · trivial
  · exact hE.sl i s q
/-- the slots of a block's own names forgotten -/
def wipeG (Γ : List Sd) : List Nat → List Sd
  | [] => Γ
  | v :: vs => (wipeG Γ vs).set v .any
theorem En.wipe (hE : En C H σ Γ) : ∀ vs : List Nat, En C H (wipe σ vs) (wipeG Γ vs)
  | [] => hE
  | v :: vs => by
    have ih := En.wipe hE vs
    refine ⟨ih.there, ?_, fun j t e => ?_⟩
    · show ((L2.wipe σ vs).set v none).length = ((wipeG Γ vs).set v .any).length
      rw [List.length_set, List.length_set, ih.len]
    · have e : ((wipeG Γ vs).set v .any)[j]? = some t := e
      show SdOk C H ((L2.wipe σ vs).set v none)[j]? t
      by_cases hj : v = j
      · subst hj
        rw [List.getElem?_set] at e
        simp only [if_true] at e
        split at e
        · cases e; trivial
        · cases e
      · rw [List.getElem?_set_ne hj] at e
        rw [List.getElem?_set_ne hj]
        exact ih.sl j t e
theorem wipe_set {σ : L2.St} {i : Nat} {v : Option V} : ∀ {vs : List Nat}, i ∈ vs → wipe (σ.set i v) vs = wipe σ vs := by
  intro vs hi
  have key : ∀ (vs : List Nat) (i j : Nat) (v : Option V), (wipe (σ.set i v) vs)[j]? = if j = i ∧ i ∉ vs ∧ i < σ.length then some v else (wipe σ vs)[j]? := by
    intro vs
    induction vs with
    | nil =>
      intro i j v
      show (σ.set i v)[j]? = _
      rw [List.getElem?_set]
      by_cases h : i = j
      · subst h
        by_cases hl : i < σ.length
        · simp [hl, wipe]
        · simp [hl, wipe]
      · rw [if_neg h, if_neg (fun q => h q.1.symm)]
        rfl
    | cons w ws ih =>
      intro i j v
      show ((wipe (σ.set i v) ws).set w none)[j]? = if j = i ∧ i ∉ w :: ws ∧ i < σ.length then some v else ((wipe σ ws).set w none)[j]?
      by_cases hw : w = j
      · subst hw
        rw [List.getElem?_set, List.getElem?_set]
        simp only [if_true, wipe_length, List.length_set]
        rw [if_neg (show ¬ (w = i ∧ i ∉ w :: ws ∧ i < σ.length) from fun q => q.2.1 (by rw [← q.1]; exact List.mem_cons_self))]
      · rw [List.getElem?_set_ne hw, List.getElem?_set_ne hw, ih]
        by_cases hj : j = i
        · subst hj
          have : (j ∉ w :: ws) ↔ (j ∉ ws) := by
            simp only [List.mem_cons, not_or]
            exact ⟨fun q => q.2, fun q => ⟨fun e => hw e.symm, q⟩⟩
          simp only [this]
        · rw [if_neg (fun q => hj q.1), if_neg (fun q => hj q.1)]
  apply List.ext_getElem?
  intro j
  rw [key, if_neg]
  rintro ⟨_, q, _⟩
  exact q hi
end

/-! ### what a piece is worth -/
section
variable (X : Cx) (C : Addr → Prop)
def ED (e : Expr) (Γ : List Sd) (d : PyData) : Prop := ∀ σ H, En C H σ Γ → ∀ Q : VK, (∀ v H', Same H H' → Rep C H' v d → Q v H') → WE X e σ H Q
def TD (e : Expr) (Γ : List Sd) (b : Bool) : Prop := ∀ σ H, En C H σ Γ → ∀ Q : Bool → Hp → Prop, (∀ H', Same H H' → Q b H') → WT X e σ H Q
def WD (e : Expr) (Γ : List Sd) (b : Bool) : Prop := ∀ σ H, En C H σ Γ → ∀ Q : Bool → Hp → Prop, (∀ H', Same H H' → Q b H') → WW X e σ H Q
def TsD (e : List Expr) (Γ : List Sd) (b : Bool) : Prop := ∀ σ H, En C H σ Γ → ∀ Q : Bool → Hp → Prop, (∀ H', Same H H' → Q b H') → WTs X e σ H Q
def AD (es : List Expr) (Γ : List Sd) (ds : List PyData) : Prop := ∀ σ H, En C H σ Γ → ∀ Q : List V → Hp → Prop, (∀ vs H', Same H H' → RepAll C H' vs ds → Q vs H') → WA X es σ H Q
def OD (e : Option Expr) (Γ : List Sd) (o : Option Int) : Prop := ∀ σ H, En C H σ Γ → ∀ Q : Option Int → Hp → Prop, (∀ H', Same H H' → Q o H') → WO X e σ H Q
/-- a two-place operation on values; a one-place one; a call on values -/
def RD2 (r : R2) (d1 d2 d : PyData) : Prop := ∀ H v u, Th C H → Rep C H v d1 → Rep C H u d2 → ∀ Q : VK, (∀ z H', Same H H' → Rep C H' z d → Q z H') → r v u H Q
def RDc (r : List V → Hp → VK → Prop) (ds : List PyData) (d : PyData) : Prop := ∀ H vs, Th C H → RepAll C H vs ds → ∀ Q : VK, (∀ z H', Same H H' → Rep C H' z d → Q z H') → r vs H Q
/-- a walk: at every turn the next datum; g: the target takes it -/
structure Walk (H0 : Hp) (J : It) (ds : List PyData) : Prop where
  go : ∀ (C1 : Addr → Prop) i H, (∀ a o, H0 a = some o → ¬ C a → ¬ C1 a) → SameB C1 H0 H → i < ds.length → J.go i H
  yld : ∀ (C1 : Addr → Prop) i H x H', (∀ a o, H0 a = some o → ¬ C a → ¬ C1 a) → Th C1 H → SameB C1 H0 H → J.yld i H x H' → Same H H' ∧ ∀ d, ds[i]? = some d → Rep C1 H' x d
  stop : ∀ (C1 : Addr → Prop) i H, (∀ a o, H0 a = some o → ¬ C a → ¬ C1 a) → SameB C1 H0 H → ds.length ≤ i → J.stop i H
def ID (tg iter : Expr) (Γ : List Sd) (ds : List PyData) : Prop := ∀ σ H, En C H σ Γ → ∀ R : It → Hp → Prop, (∀ J H', Same H H' → Walk C H' J ds → R J H') → WI X tg iter σ H R
/-- a target takes a datum; ws: the slots that it writes -/
def GD (tg : Expr) (Γ : List Sd) (d : PyData) (Γ' : List Sd) (ws : List Nat) : Prop := ∀ σ H v, En C H σ Γ → Rep C H v d → ∀ Q : L2.St → Hp → Prop,
  (∀ σ' H', Same H H' → En C H' σ' Γ' → (∀ vs, (∀ i ∈ ws, i ∈ vs) → wipe σ' vs = wipe σ vs) → Q σ' H') → WG X tg v σ H Q
def GsD (tg : List Expr) (Γ : List Sd) (ds : List PyData) (Γ' : List Sd) (ws : List Nat) : Prop := ∀ σ H v, En C H σ Γ → RepAll C H v ds → ∀ Q : L2.St → Hp → Prop,
  (∀ σ' H', Same H H' → En C H' σ' Γ' → (∀ vs, (∀ i ∈ ws, i ∈ vs) → wipe σ' vs = wipe σ vs) → Q σ' H') → WGs X tg v σ H Q
end
section
variable {X : Cx} {C : Addr → Prop} {Γ : List Sd} {e a b c : Expr} {es : List Expr} {d d1 d2 d3 : PyData} {ds : List PyData} {pos : Pos}
theorem ED.is {d' : PyData} (h : ED X C e Γ d) (q : d = d') : ED X C e Γ d' := q ▸ h
theorem TD.is {k k' : Bool} (h : TD X C e Γ k) (q : k = k') : TD X C e Γ k' := q ▸ h
theorem ed_var (i : Nat) {x : Str} (hN : X.N[i]? = some x := by rfl) (hv : Vis X.env.scope x := by first | exact Or.inl rfl | exact Or.inr (Or.inl rfl) | exact Or.inr (Or.inr rfl)) (hΓ : Γ[i]? = some (.dat d) := by rfl)
    (hd : (x == ("__debug__" : Str)) = false := by decide) (hcd : (x == ("__classdict__" : Str)) = false := by decide) : ED X C (.Name x pos) Γ d := fun σ H hE Q k => by
  obtain ⟨v, h1, h2⟩ := hE.sl i _ hΓ
  exact ⟨_, pe_var hN hv hd hcd, v, h1, k v H (Same.refl H) h2⟩
theorem ed_int {i : Int} {j} : ED X C (.Constant (.int i) j pos) Γ (.int i) := fun σ H _ Q k => ⟨_, pe_int, k _ H (Same.refl H) (.int i)⟩
theorem ed_bl {i : Bool} {j} : ED X C (.Constant (.bool i) j pos) Γ (.bool i) := fun σ H _ Q k => ⟨_, pe_bl, k _ H (Same.refl H) (.bl i)⟩
theorem ed_non {j} : ED X C (.Constant .none j pos) Γ .none := fun σ H _ Q k => ⟨_, pe_non, k _ H (Same.refl H) .non⟩
theorem ed_str {i : Str} {j} : ED X C (.Constant (.str i) j pos) Γ (.str i) := fun σ H _ Q k => ⟨_, pe_str, k _ H (Same.refl H) (.str i)⟩
theorem ed_globI {x : Str} {i : Int} (hm : ∃ t, X.mg x = some (.int i t)) (hg : Gl X x := by rfl) (hd : (x == ("__debug__" : Str)) = false := by decide) : ED X C (.Name x pos) Γ (.int i) := fun σ H _ Q k => by
  obtain ⟨t, hm⟩ := hm
  exact ⟨_, pe_glob (v := .int i) hg hm ⟨t, rfl⟩ hd, k _ H (Same.refl H) (.int i)⟩
theorem ad_nil : AD X C [] Γ [] := fun σ H _ Q k => ⟨_, pa_nil, k _ H (Same.refl H) .nil⟩
theorem ad_cons (h : ED X C e Γ d) (t : AD X C es Γ ds) (hs : starEach (e :: es) X.env = (false, eval e X.env) :: starEach es X.env := by rfl) : AD X C (e :: es) Γ (d :: ds) := fun σ H hE Q k =>
  ⟨_, pa_cons WE.p WA.p hs, h σ H hE _ fun v H1 s1 r1 => t σ H1 (hE.same s1) _ fun vs H2 s2 r2 => k _ H2 (s1.trans s2) (.cons (r1.same s2) r2)⟩
theorem ed_tup {x1} (h : AD X C es Γ ds) (hl : ds.length ≤ sizeLine := by exact Nat.le_of_ble_eq_true rfl) : ED X C (.Tuple es x1 pos) Γ (.tuple ds) := fun σ H hE Q k =>
  ⟨_, pe_tup WA.p, h σ H hE _ fun vs H1 s1 r1 => ⟨by rw [r1.length]; exact hl, fun p hp => k _ _ (s1.trans (same_new hp)) (.tup ((hE.same s1).fresh hp) upd_same (r1.same (same_new hp)))⟩⟩
theorem ed_lst (h : AD X C es Γ ds) (hl : ds.length ≤ sizeLine := by exact Nat.le_of_ble_eq_true rfl) : ED X C (.List es pos) Γ (.list ds) := fun σ H hE Q k =>
  ⟨_, pe_lst WA.p, h σ H hE _ fun vs H1 s1 r1 => ⟨by rw [r1.length]; exact hl, fun p hp => k _ _ (s1.trans (same_new hp)) (.lst ((hE.same s1).fresh hp) upd_same (r1.same (same_new hp)))⟩⟩
theorem ed_bin {op : Operator} {r : R2} (ho : OpR X (binaryOp op) r) (hr : RD2 C r d1 d2 d) (ha : ED X C a Γ d1) (hb : ED X C b Γ d2) : ED X C (.BinOp a op b pos) Γ d := fun σ H hE Q k =>
  ⟨_, pe_op ho WE.p WE.p, ha σ H hE _ fun v H1 s1 r1 => hb σ H1 (hE.same s1) _ fun u H2 s2 r2 => hr H2 v u ((hE.same s1).same s2).there (r1.same s2) r2 Q fun z H3 s3 r3 => k z H3 ((s1.trans s2).trans s3) r3⟩
theorem ed_cmp {op : CmpOp} {r : R2} (ho : OpR X (compareOp op) r) (hr : RD2 C r d1 d2 d) (ha : ED X C a Γ d1) (hb : ED X C b Γ d2) (hm : behindInMarks op b = false := by first | exact nomark _ | rfl | with_unfolding_all rfl) : ED X C (.Compare a [op] [b] pos) Γ d := fun σ H hE Q k =>
  ⟨_, pe_cmpR ho WE.p WE.p hm, ha σ H hE _ fun v H1 s1 r1 => hb σ H1 (hE.same s1) _ fun u H2 s2 r2 => hr H2 v u ((hE.same s1).same s2).there (r1.same s2) r2 Q fun z H3 s3 r3 => k z H3 ((s1.trans s2).trans s3) r3⟩
theorem td_cmp {op : CmpOp} {r : R2} {k0 : Bool} (ho : OpR X (compareOp op) r) (hr : RD2 C r d1 d2 (.bool k0)) (ha : ED X C a Γ d1) (hb : ED X C b Γ d2) (hm : behindInMarks op b = false := by first | exact nomark _ | rfl | with_unfolding_all rfl) : TD X C (.Compare a [op] [b] pos) Γ k0 := fun σ H hE Q k =>
  ⟨_, pt_cmpR ho WE.p WE.p hm, ha σ H hE _ fun v H1 s1 r1 => hb σ H1 (hE.same s1) _ fun u H2 s2 r2 => hr H2 v u ((hE.same s1).same s2).there (r1.same s2) r2 _ fun z H3 s3 r3 => by
    cases r3
    exact ⟨_, rfl, k H3 ((s1.trans s2).trans s3)⟩⟩
/-- a op b op' c -/
theorem ed_chain {op op' : CmpOp} {r r' : R2} {k1 k2 : Bool} (ho : OpR X (compareOp op) r) (ho' : OpR X (compareOp op') r') (hr : RD2 C r d1 d2 (.bool k1)) (hr' : RD2 C r' d2 d3 (.bool k2)) (ha : ED X C a Γ d1) (hb : ED X C b Γ d2) (hc : ED X C c Γ d3)
    (hm : lastMarks [op, op'] [b, c] = false := by with_unfolding_all rfl) : ED X C (.Compare a [op, op'] [b, c] pos) Γ (.bool (k1 && k2)) := fun σ H hE Q k =>
  ⟨_, pe_chain ho ho' WE.p WE.p WE.p hm, ha σ H hE _ fun v H1 s1 r1 => hb σ H1 (hE.same s1) _ fun u H2 s2 r2 => hr H2 v u ((hE.same s1).same s2).there (r1.same s2) r2 _ fun z H3 s3 r3 => by
    cases r3
    refine ⟨_, rfl, ?_⟩
    have e3 := ((hE.same s1).same s2).same s3
    cases k1 with
    | false => exact iteF (k _ H3 ((s1.trans s2).trans s3) (.bl _))
    | true => exact iteT (hc σ H3 e3 _ fun y H4 s4 r4 => hr' H4 u y (e3.same s4).there (r2.same (s3.trans s4)) r4 Q fun z H5 s5 r5 => k z H5 ((((s1.trans s2).trans s3).trans s4).trans s5) r5)⟩
/-! ### subscripts -/
theorem ed_sub {r : R2} (hx : IxR X r) (hr : RD2 C r d1 d2 d) (ha : ED X C a Γ d1) (hb : ED X C b Γ d2) (hs : PlainIx b := by exact fun _ _ => rfl) : ED X C (.Subscript a b pos) Γ d := fun σ H hE Q k =>
  ⟨_, pe_ix hx WE.p WE.p hs, ha σ H hE _ fun v H1 s1 r1 => hb σ H1 (hE.same s1) _ fun u H2 s2 r2 => hr H2 v u ((hE.same s1).same s2).there (r1.same s2) r2 Q fun z H3 s3 r3 => k z H3 ((s1.trans s2).trans s3) r3⟩
theorem atI_rep {vs : List V} {ds : List PyData} {i : Int} {d : PyData} {H : Hp} (r : RepAll C H vs ds) (h : atI ds i = some d) : ∃ v, atI vs i = some v ∧ Rep C H v d := by
  unfold atI at h ⊢
  rw [r.length]
  cases e : ixN ds.length i with
  | none => rw [e] at h; cases h
  | some j =>
    rw [e] at h
    exact r.get h
theorem rd_ixT {i : Int} (h : atI ds i = some d) : RD2 C (rIxT X.K) (.tuple ds) (.int i) d := fun H v u _ r1 r2 Q k => by
  cases r2
  cases r1 with
  | tup hc hh ha =>
    obtain ⟨y, h1, h2⟩ := atI_rep ha h
    exact ⟨_, _, _, y, rfl, rfl, SqT.of hh, h1, k y H (Same.refl H) h2⟩
theorem rd_ixL {i : Int} (h : atI ds i = some d) : RD2 C (rIxL X.K) (.list ds) (.int i) d := fun H v u _ r1 r2 Q k => by
  cases r2
  cases r1 with
  | lst hc hh ha =>
    obtain ⟨y, h1, h2⟩ := atI_rep ha h
    exact ⟨_, _, _, y, rfl, rfl, SqL.of hh, h1, k y H (Same.refl H) h2⟩
theorem ed_ixT {i : Int} (ha : ED X C a Γ (.tuple ds)) (hb : ED X C b Γ (.int i)) (h : atI ds i = some d := by rfl) (hs : PlainIx b := by exact fun _ _ => rfl) : ED X C (.Subscript a b pos) Γ d := ed_sub ix_tup (rd_ixT h) ha hb hs
theorem ed_ixL {i : Int} (ha : ED X C a Γ (.list ds)) (hb : ED X C b Γ (.int i)) (h : atI ds i = some d := by rfl) (hs : PlainIx b := by exact fun _ _ => rfl) : ED X C (.Subscript a b pos) Γ d := ed_sub ix_list (rd_ixL h) ha hb hs
theorem od_none : OD X C none Γ none := fun σ H _ Q k => ⟨_, po_none, k H (Same.refl H)⟩
theorem od_some {i : Int} (h : ED X C e Γ (.int i)) : OD X C (some e) Γ (some i) := fun σ H hE Q k => ⟨_, po_some WE.p, h σ H hE _ fun v H1 s1 r1 => by
  cases r1
  exact ⟨_, rfl, k H1 s1⟩⟩
def cutD (xs : List PyData) (lo hi : Option Int) : List PyData := (xs.drop (HT.sIx xs.length 0 lo)).take (HT.sIx xs.length xs.length hi - HT.sIx xs.length 0 lo)
theorem RepAll.cut {vs : List V} {H : Hp} {lo hi : Option Int} (r : RepAll C H vs ds) : RepAll C H (cutV vs lo hi) (cutD ds lo hi) := by
  unfold cutV cutD
  rw [r.length]
  exact (r.drop _).take _
theorem ed_slL {p2 : Pos} {lo hi : Option Expr} {l h : Option Int} (ha : ED X C a Γ (.list ds)) (hl : OD X C lo Γ l) (hh : OD X C hi Γ h) : ED X C (.Subscript a (.Slice lo hi none p2) pos) Γ (.list (cutD ds l h)) := fun σ H hE Q k =>
  ⟨_, pe_slice sl_list WE.p WO.p WO.p, ha σ H hE _ fun v H1 s1 r1 => hl σ H1 (hE.same s1) _ fun H2 s2 => hh σ H2 ((hE.same s1).same s2) _ fun H3 s3 => by
    have r3 := r1.same (s2.trans s3)
    cases r3 with
    | lst hc hx hr => exact ⟨_, _, rfl, SqL.of hx, fun p hp => k _ _ (((s1.trans s2).trans s3).trans (same_new hp)) (.lst ((((hE.same s1).same s2).same s3).fresh hp) upd_same (hr.cut.same (same_new hp)))⟩⟩
theorem ed_slT {p2 : Pos} {lo hi : Option Expr} {l h : Option Int} (ha : ED X C a Γ (.tuple ds)) (hl : OD X C lo Γ l) (hh : OD X C hi Γ h) : ED X C (.Subscript a (.Slice lo hi none p2) pos) Γ (.tuple (cutD ds l h)) := fun σ H hE Q k =>
  ⟨_, pe_slice sl_tupA WE.p WO.p WO.p, ha σ H hE _ fun v H1 s1 r1 => hl σ H1 (hE.same s1) _ fun H2 s2 => hh σ H2 ((hE.same s1).same s2) _ fun H3 s3 => by
    have r3 := r1.same (s2.trans s3)
    cases r3 with
    | tup hc hx hr =>
      have s4 := (s1.trans s2).trans s3
      refine ⟨_, _, rfl, SqT.of hx, fun q => ?_, fun q p hp => k _ _ (s4.trans (same_new hp)) (.tup ((((hE.same s1).same s2).same s3).fresh hp) upd_same (hr.cut.same (same_new hp)))⟩
      have e : cutD ds l h = ds := by
        unfold cutD
        rw [hr.length] at q
        rw [q.1, q.2, List.drop_zero, Nat.sub_zero, List.take_length]
      rw [e] at k
      exact k _ _ s4 (.tup hc hx hr)⟩
/-! ### and, or, not, if as values and as tests -/
theorem ed_one {op} (h : ED X C a Γ d) : ED X C (.BoolOp op [a] pos) Γ d := fun σ H hE Q k => ⟨_, pe_one WE.p, h σ H hE Q k⟩
theorem ed_and {rest : List Expr} {k1 k2 : Bool} (ha : ED X C a Γ (.bool k1)) (hb : k1 = true → ED X C (.BoolOp .And (b :: rest) pos) Γ (.bool k2)) : ED X C (.BoolOp .And (a :: b :: rest) pos) Γ (.bool (k1 && k2)) := fun σ H hE Q k =>
  ⟨_, pe_and WE.p WE.p, ha σ H hE _ fun v H1 s1 r1 => by
    cases r1
    refine ⟨_, rfl, ?_⟩
    cases k1 with
    | false => exact iteF (k _ H1 s1 (.bl _))
    | true => exact iteT (hb rfl σ H1 (hE.same s1) Q fun u H2 s2 r2 => k u H2 (s1.trans s2) r2)⟩
theorem ed_or {rest : List Expr} {k1 k2 : Bool} (ha : ED X C a Γ (.bool k1)) (hb : k1 = false → ED X C (.BoolOp .Or (b :: rest) pos) Γ (.bool k2)) : ED X C (.BoolOp .Or (a :: b :: rest) pos) Γ (.bool (k1 || k2)) := fun σ H hE Q k =>
  ⟨_, pe_or WE.p WE.p, ha σ H hE _ fun v H1 s1 r1 => by
    cases r1
    refine ⟨_, rfl, ?_⟩
    cases k1 with
    | true => exact iteT (k _ H1 s1 (.bl _))
    | false => exact iteF (hb rfl σ H1 (hE.same s1) Q fun u H2 s2 r2 => k u H2 (s1.trans s2) r2)⟩
theorem ed_not {k1 : Bool} (ha : ED X C a Γ (.bool k1)) : ED X C (.UnaryOp .Not a pos) Γ (.bool (!k1)) := fun σ H hE Q k =>
  ⟨_, pe_not WE.p, ha σ H hE _ fun v H1 s1 r1 => by
    cases r1
    exact ⟨_, rfl, k _ H1 s1 (.bl _)⟩⟩
theorem ed_if {k0 : Bool} (hc : TD X C c Γ k0) (ha : k0 = true → ED X C a Γ d) (hb : k0 = false → ED X C b Γ d) : ED X C (.IfExp c a b pos) Γ d := fun σ H hE Q k =>
  ⟨_, pe_ifExp WT.p WE.p WE.p, hc σ H hE _ fun H1 s1 => by
    cases k0 with
    | true => exact iteT (ha rfl σ H1 (hE.same s1) Q fun u H2 s2 r2 => k u H2 (s1.trans s2) r2)
    | false => exact iteF (hb rfl σ H1 (hE.same s1) Q fun u H2 s2 r2 => k u H2 (s1.trans s2) r2)⟩
theorem td_val {k0 : Bool} (h : ED X C e Γ (.bool k0)) (he : ∀ whole, isTrue e X.env whole = (do let v ← whole; standAt e.pos; holding [v] (truthy v)) := by intro _; rfl) : TD X C e Γ k0 := fun σ H hE Q k =>
  ⟨_, pt_val WE.p he, h σ H hE _ fun v H1 s1 r1 => by
    cases r1
    exact ⟨_, rfl, k H1 s1⟩⟩
theorem td_w {k0 : Bool} (h : WD X C e Γ k0) : TD X C e Γ k0 := fun σ H hE Q k => ⟨_, PW.pt WW.p, h σ H hE Q k⟩
theorem wd_and1 {k0 : Bool} (h : TD X C a Γ k0) : WD X C (.BoolOp .And [a] pos) Γ k0 := fun σ H hE Q k => ⟨_, pw_and1 WT.p, h σ H hE Q k⟩
theorem wd_or1 {k0 : Bool} (h : TD X C a Γ k0) : WD X C (.BoolOp .Or [a] pos) Γ k0 := fun σ H hE Q k => ⟨_, pw_or1 WT.p, h σ H hE Q k⟩
theorem wd_and {rest : List Expr} {k1 k2 : Bool} (ha : TD X C a Γ k1) (hb : k1 = true → WD X C (.BoolOp .And (b :: rest) pos) Γ k2) : WD X C (.BoolOp .And (a :: b :: rest) pos) Γ (k1 && k2) := fun σ H hE Q k =>
  ⟨_, pw_and WT.p WW.p, ha σ H hE _ fun H1 s1 => by
    cases k1 with
    | false => exact iteF (k H1 s1)
    | true => exact iteT (hb rfl σ H1 (hE.same s1) Q fun H2 s2 => k H2 (s1.trans s2))⟩
theorem wd_or {rest : List Expr} {k1 k2 : Bool} (ha : TD X C a Γ k1) (hb : k1 = false → WD X C (.BoolOp .Or (b :: rest) pos) Γ k2) : WD X C (.BoolOp .Or (a :: b :: rest) pos) Γ (k1 || k2) := fun σ H hE Q k =>
  ⟨_, pw_or WT.p WW.p, ha σ H hE _ fun H1 s1 => by
    cases k1 with
    | true => exact iteT (k H1 s1)
    | false => exact iteF (hb rfl σ H1 (hE.same s1) Q fun H2 s2 => k H2 (s1.trans s2))⟩
theorem td_not {k0 : Bool} (h : TD X C a Γ k0) : TD X C (.UnaryOp .Not a pos) Γ (!k0) := fun σ H hE Q k => ⟨_, pt_not WT.p, h σ H hE _ fun H1 s1 => k H1 s1⟩
theorem tsd_nil : TsD X C [] Γ true := fun σ H _ Q k => ⟨_, pts_nil, k H (Same.refl H)⟩
theorem tsd_one {k0 : Bool} (h : TD X C c Γ k0) : TsD X C [c] Γ k0 := fun σ H hE Q k => ⟨_, pts_one WT.p, h σ H hE Q k⟩
/-! ### operators -/
theorem rd_I0 {g : Int → Int → V} {i j : Int} (h : ∀ H, Rep C H (g i j) d) : RD2 C (rI0 g) (.int i) (.int j) d := fun H v u _ r1 r2 Q k => by
  cases r1; cases r2
  exact ⟨_, _, rfl, rfl, k _ H (Same.refl H) (h H)⟩
theorem rd_I {P : Int → Int → Prop} {g : Int → Int → V} {i j : Int} (hp : P i j) (h : ∀ H, Rep C H (g i j) d) : RD2 C (rI P g) (.int i) (.int j) d := fun H v u _ r1 r2 Q k => by
  cases r1; cases r2
  exact ⟨_, _, rfl, rfl, hp, k _ H (Same.refl H) (h H)⟩
theorem ed_add {i j : Int} (ha : ED X C a Γ (.int i)) (hb : ED X C b Γ (.int j)) : ED X C (.BinOp a .Add b pos) Γ (.int (i + j)) := ed_bin op_add (rd_I0 fun _ => .int _) ha hb
theorem ed_subI {i j : Int} (ha : ED X C a Γ (.int i)) (hb : ED X C b Γ (.int j)) : ED X C (.BinOp a .Sub b pos) Γ (.int (i - j)) := ed_bin op_sub (rd_I0 fun _ => .int _) ha hb
theorem ed_mul {i j : Int} (ha : ED X C a Γ (.int i)) (hb : ED X C b Γ (.int j)) (h : CMul i j) : ED X C (.BinOp a .Mult b pos) Γ (.int (i * j)) := ed_bin op_mul (rd_I h fun _ => .int _) ha hb
theorem ed_fdiv {i j : Int} (ha : ED X C a Γ (.int i)) (hb : ED X C b Γ (.int j)) (h : CDiv i j) : ED X C (.BinOp a .FloorDiv b pos) Γ (.int (i / j)) := ed_bin op_fdiv (rd_I h fun _ => .int _) ha hb
theorem ed_mod {i j : Int} (ha : ED X C a Γ (.int i)) (hb : ED X C b Γ (.int j)) (h : 0 < j) : ED X C (.BinOp a .Mod b pos) Γ (.int (i % j)) := ed_bin op_mod (rd_I h fun _ => .int _) ha hb
theorem ed_pow {i j : Int} (ha : ED X C a Γ (.int i)) (hb : ED X C b Γ (.int j)) (h : CPow i j) : ED X C (.BinOp a .Pow b pos) Γ (.int (i ^ j.toNat)) := ed_bin op_pow (rd_I h fun _ => .int _) ha hb
theorem rd_catT {ds es : List PyData} (hz : ds.length + es.length ≤ sizeLine) : RD2 C (rCatA X.K) (.tuple ds) (.tuple es) (.tuple (ds ++ es)) := fun H v u ht r1 r2 Q k => by
  cases r1 with
  | tup hc hx hr =>
    cases r2 with
    | tup hc' hx' hr' =>
      refine ⟨_, _, _, _, rfl, rfl, SqT.of hx, SqT.of hx', by rw [hr.length, hr'.length]; exact hz, fun e => ?_, fun _ e => ?_, fun _ _ p hp => ?_⟩
      · subst e
        cases hr
        exact k _ H (Same.refl H) (.tup hc' hx' hr')
      · subst e
        cases hr'
        rw [List.append_nil] at k
        exact k _ H (Same.refl H) (.tup hc hx hr)
      · exact k _ _ (same_new hp) (.tup (ht.fresh hp) upd_same ((hr.append hr').same (same_new hp)))
theorem ed_catT {ds es : List PyData} (ha : ED X C a Γ (.tuple ds)) (hb : ED X C b Γ (.tuple es)) (hz : ds.length + es.length ≤ sizeLine := by exact Nat.le_of_ble_eq_true rfl) : ED X C (.BinOp a .Add b pos) Γ (.tuple (ds ++ es)) := ed_bin op_catA (rd_catT hz) ha hb
theorem rd_catL {ds es : List PyData} (hz : ds.length + es.length ≤ sizeLine) : RD2 C rCat (.list ds) (.list es) (.list (ds ++ es)) := fun H v u ht r1 r2 Q k => by
  cases r1 with
  | lst hc hx hr =>
    cases r2 with
    | lst hc' hx' hr' =>
      exact ⟨_, _, _, _, rfl, rfl, hx, hx', by rw [hr.length, hr'.length]; exact hz, fun p hp => k _ _ (same_new hp) (.lst (ht.fresh hp) upd_same ((hr.append hr').same (same_new hp)))⟩
theorem ed_catL {ds es : List PyData} (ha : ED X C a Γ (.list ds)) (hb : ED X C b Γ (.list es)) (hz : ds.length + es.length ≤ sizeLine := by exact Nat.le_of_ble_eq_true rfl) : ED X C (.BinOp a .Add b pos) Γ (.list (ds ++ es)) := ed_bin op_cat (rd_catL hz) ha hb
theorem rd_lt {i j : Int} : RD2 C (rI0 fun i j => .bl (decide (i < j))) (.int i) (.int j) (.bool (decide (i < j))) := rd_I0 fun _ => .bl _
theorem rd_le {i j : Int} : RD2 C (rI0 fun i j => .bl (decide (i ≤ j))) (.int i) (.int j) (.bool (decide (i ≤ j))) := rd_I0 fun _ => .bl _
theorem rd_gt {i j : Int} : RD2 C (rI0 fun i j => .bl (decide (j < i))) (.int i) (.int j) (.bool (decide (j < i))) := rd_I0 fun _ => .bl _
theorem rd_ge {i j : Int} : RD2 C (rI0 fun i j => .bl (decide (j ≤ i))) (.int i) (.int j) (.bool (decide (j ≤ i))) := rd_I0 fun _ => .bl _
theorem int_beq {i j : Int} : (i == j) = decide (i = j) := by
  rw [Bool.eq_iff_iff]
  simp
theorem rd_eqI {i j : Int} : RD2 C rEq (.int i) (.int j) (.bool (decide (i = j))) := fun H v u _ r1 r2 Q k => by
  cases r1; cases r2
  exact ⟨rfl, k _ H (Same.refl H) (by rw [dec_int, int_beq]; exact .bl _)⟩
theorem rd_neI {i j : Int} : RD2 C rNe (.int i) (.int j) (.bool (!decide (i = j))) := fun H v u _ r1 r2 Q k => by
  cases r1; cases r2
  exact ⟨rfl, k _ H (Same.refl H) (by rw [dec_int, int_beq]; exact .bl _)⟩
theorem rd_eqS {i j : Str} : RD2 C rEq (.str i) (.str j) (.bool (i == j)) := fun H v u _ r1 r2 Q k => by
  cases r1; cases r2
  exact ⟨rfl, k _ H (Same.refl H) (by rw [dec_str]; exact .bl _)⟩
theorem rd_neS {i j : Str} : RD2 C rNe (.str i) (.str j) (.bool (!(i == j))) := fun H v u _ r1 r2 Q k => by
  cases r1; cases r2
  exact ⟨rfl, k _ H (Same.refl H) (by rw [dec_str]; exact .bl _)⟩
theorem rd_eqB {i j : Bool} : RD2 C rEq (.bool i) (.bool j) (.bool (i == j)) := fun H v u _ r1 r2 Q k => by
  cases r1; cases r2
  exact ⟨rfl, k _ H (Same.refl H) (by rw [dec_bl]; exact .bl _)⟩
theorem rd_eqD (h1 : SeqAt.shaped d1 = true) (h2 : SeqAt.shaped d2 = true) : RD2 C (rEqD X.K) d1 d2 (.bool (PyData.eqv d1 d2)) := fun H v u _ r1 r2 Q k =>
  ⟨d1, d2, r1.dp (SeqAt.canLay_of_shaped h1), r2.dp (SeqAt.canLay_of_shaped h2), h1, h2, k _ H (Same.refl H) (.bl _)⟩
theorem rd_neD (h1 : SeqAt.shaped d1 = true) (h2 : SeqAt.shaped d2 = true) : RD2 C (rNeD X.K) d1 d2 (.bool (!PyData.eqv d1 d2)) := fun H v u _ r1 r2 Q k =>
  ⟨d1, d2, r1.dp (SeqAt.canLay_of_shaped h1), r2.dp (SeqAt.canLay_of_shaped h2), h1, h2, k _ H (Same.refl H) (.bl _)⟩
theorem inV_ints {x : Int} : ∀ {ns : List Int}, inV (.int x) (ns.map V.int) = decide (x ∈ ns)
  | [] => rfl
  | n :: ns => by
    have ih := inV_ints (x := x) (ns := ns)
    unfold inV at ih ⊢
    rw [List.map_cons, List.any_cons, ih]
    have e : eqV (.int n) (.int x) = decide (x = n) := by
      show (n == x) = decide (x = n)
      rw [int_beq]
      exact decide_eq_decide.mpr ⟨fun e => e.symm, fun e => e.symm⟩
    rw [e]
    simp only [List.mem_cons, Bool.decide_or]
theorem flat_ints : ∀ {ns : List Int}, (ns.map V.int).all flatV = true
  | [] => rfl
  | n :: ns => by
    rw [List.map_cons, List.all_cons, flat_ints (ns := ns)]
    rfl
theorem rd_inI {x : Int} {ns : List Int} : RD2 C (rIn X.K false) (.int x) (.tuple (ns.map .int)) (.bool (decide (x ∈ ns))) := fun H v u _ r1 r2 Q k => by
  cases r1
  cases r2 with
  | tup hc hx hr =>
    have e := hr.ints
    subst e
    exact ⟨_, _, rfl, .inr (SqT.of hx), rfl, flat_ints, k _ H (Same.refl H) (by rw [if_neg Bool.false_ne_true, inV_ints]; exact .bl _)⟩
theorem rd_niI {x : Int} {ns : List Int} : RD2 C (rIn X.K true) (.int x) (.tuple (ns.map .int)) (.bool (!decide (x ∈ ns))) := fun H v u _ r1 r2 Q k => by
  cases r1
  cases r2 with
  | tup hc hx hr =>
    have e := hr.ints
    subst e
    exact ⟨_, _, rfl, .inr (SqT.of hx), rfl, flat_ints, k _ H (Same.refl H) (by rw [if_pos rfl, inV_ints]; exact .bl _)⟩
theorem rd_ltT {ns ms : List Int} : RD2 C (rLtT X.K) (.tuple (ns.map .int)) (.tuple (ms.map .int)) (.bool (HT.lexLt ns ms)) := fun H v u _ r1 r2 Q k => by
  cases r1 with
  | tup hc hx hr =>
    cases r2 with
    | tup hc' hx' hr' =>
      have e := hr.ints
      have e' := hr'.ints
      subst e e'
      exact ⟨_, _, _, _, rfl, rfl, SqT.of hx, SqT.of hx', k _ H (Same.refl H) (.bl _)⟩
/-! ### calls of what is built in -/
theorem ed_callB {id : String} {x : Str} {p : Pos} {r : List V → Hp → VK → Prop} (hc : CallR X (.builtin id) r) (hr : RDc C r ds d) (hm : X.mg x = none) (hv : bootBuiltins x = some (.builtin id)) (ha : AD X C (e :: es) Γ ds) (hg : Gl X x := by rfl) (hn : x ≠ "__name__" := by decide) (hdb : (x == ("__debug__" : Str)) = false := by decide)
    (he : starEach (e :: es) X.env = (false, eval e X.env) :: starEach es X.env := by rfl) (hpl : (backTo pos (starEach es X.env)).any (·.1) = false := by rfl) : ED X C (.Call (.Name x p) (e :: es) [] pos) Γ d := fun σ H hE Q k =>
  ⟨_, pe_callB hc hg hm hv WA.p hn hdb he hpl, ha σ H hE _ fun vs H1 s1 r1 => hr H1 vs (hE.same s1).there r1 Q fun z H2 s2 r2 => k z H2 (s1.trans s2) r2⟩
theorem ed_callTy {T : String} {x : Str} {p : Pos} {r : List V → Hp → VK → Prop} (hc : CallR X (.type T) r) (hr : RDc C r ds d) (hm : X.mg x = none) (hv : bootBuiltins x = some (.type T)) (ha : AD X C (e :: es) Γ ds) (hg : Gl X x := by rfl) (hn : x ≠ "__name__" := by decide) (hdb : (x == ("__debug__" : Str)) = false := by decide)
    (he : starEach (e :: es) X.env = (false, eval e X.env) :: starEach es X.env := by rfl) (hpl : (backTo pos (starEach es X.env)).any (·.1) = false := by rfl) : ED X C (.Call (.Name x p) (e :: es) [] pos) Γ d := fun σ H hE Q k =>
  ⟨_, pe_callTy hc hg hm hv WA.p hn hdb he hpl, ha σ H hE _ fun vs H1 s1 r1 => hr H1 vs (hE.same s1).there r1 Q fun z H2 s2 r2 => k z H2 (s1.trans s2) r2⟩
theorem rep1 {H : Hp} {vs : List V} (r : RepAll C H vs [d]) : ∃ v, vs = [v] ∧ Rep C H v d := by
  cases r with
  | cons h t => cases t; exact ⟨_, rfl, h⟩
theorem rep2 {H : Hp} {vs : List V} (r : RepAll C H vs [d1, d2]) : ∃ v u, vs = [v, u] ∧ Rep C H v d1 ∧ Rep C H u d2 := by
  cases r with
  | cons h t =>
    obtain ⟨u, rfl, h2⟩ := rep1 t
    exact ⟨_, _, rfl, h, h2⟩
abbrev rLen1 (K : PySem.W.Frag) : List V → Hp → VK → Prop := fun xs H Q => ∃ p ys, xs = [.ref p] ∧ (SqL K H p ys ∨ SqT K H p ys) ∧ Q (.int ys.length) H
theorem rc_lenT {ds : List PyData} : RDc C (rLen1 X.K) [.tuple ds] (.int ds.length) := fun H vs _ r Q k => by
  obtain ⟨v, rfl, h⟩ := rep1 r
  cases h with
  | tup hc hx hr => exact ⟨_, _, rfl, .inr (SqT.of hx), k _ H (Same.refl H) (by rw [hr.length]; exact .int _)⟩
theorem rc_lenL {ds : List PyData} : RDc C (rLen1 X.K) [.list ds] (.int ds.length) := fun H vs _ r Q k => by
  obtain ⟨v, rfl, h⟩ := rep1 r
  cases h with
  | lst hc hx hr => exact ⟨_, _, rfl, .inl (SqL.of hx), k _ H (Same.refl H) (by rw [hr.length]; exact .int _)⟩
theorem ed_lenT {p : Pos} (hm : X.mg "len" = none) (ha : ED X C a Γ (.tuple ds)) (hg : Gl X "len" := by rfl) (he : starEach [a] X.env = (false, eval a X.env) :: starEach [] X.env := by rfl) : ED X C (.Call (.Name "len" p) [a] [] pos) Γ (.int ds.length) :=
  ed_callB call_len_seq rc_lenT hm PySem.boot_len (ad_cons ha ad_nil he) hg (by decide) (by decide) he rfl
theorem ed_lenL {p : Pos} (hm : X.mg "len" = none) (ha : ED X C a Γ (.list ds)) (hg : Gl X "len" := by rfl) (he : starEach [a] X.env = (false, eval a X.env) :: starEach [] X.env := by rfl) : ED X C (.Call (.Name "len" p) [a] [] pos) Γ (.int ds.length) :=
  ed_callB call_len_seq rc_lenL hm PySem.boot_len (ad_cons ha ad_nil he) hg (by decide) (by decide) he rfl
abbrev rListOf (K : PySem.W.Frag) : List V → Hp → VK → Prop := fun xs H Q => ∃ p ys, xs = [.ref p] ∧ (SqL K H p ys ∨ SqT K H p ys) ∧ ∀ l, H l = none → Q (.ref l) (upd H l (.lst ys))
theorem rc_listT {ds : List PyData} : RDc C (rListOf X.K) [.tuple ds] (.list ds) := fun H vs ht r Q k => by
  obtain ⟨v, rfl, h⟩ := rep1 r
  cases h with
  | tup hc hx hr => exact ⟨_, _, rfl, .inr (SqT.of hx), fun l hl => k _ _ (same_new hl) (.lst (ht.fresh hl) upd_same (hr.same (same_new hl)))⟩
abbrev rTupOf (K : PySem.W.Frag) : List V → Hp → VK → Prop := fun xs H Q => ∃ p ys, xs = [.ref p] ∧ ((SqL K H p ys ∧ ∀ l, H l = none → Q (.ref l) (upd H l (.tup ys))) ∨ (SqT K H p ys ∧ Q (.ref p) H))
theorem rc_tupL {ds : List PyData} : RDc C (rTupOf X.K) [.list ds] (.tuple ds) := fun H vs ht r Q k => by
  obtain ⟨v, rfl, h⟩ := rep1 r
  cases h with
  | lst hc hx hr => exact ⟨_, _, rfl, .inl ⟨SqL.of hx, fun l hl => k _ _ (same_new hl) (.tup (ht.fresh hl) upd_same (hr.same (same_new hl)))⟩⟩
theorem ed_listT {p : Pos} (hm : X.mg "list" = none) (ha : ED X C a Γ (.tuple ds)) (hg : Gl X "list" := by rfl) (he : starEach [a] X.env = (false, eval a X.env) :: starEach [] X.env := by rfl) : ED X C (.Call (.Name "list" p) [a] [] pos) Γ (.list ds) :=
  ed_callTy call_list_of rc_listT hm (by decide +kernel) (ad_cons ha ad_nil he) hg (by decide) (by decide) he rfl
theorem ed_tupL {p : Pos} (hm : X.mg "tuple" = none) (ha : ED X C a Γ (.list ds)) (hg : Gl X "tuple" := by rfl) (he : starEach [a] X.env = (false, eval a X.env) :: starEach [] X.env := by rfl) : ED X C (.Call (.Name "tuple" p) [a] [] pos) Γ (.tuple ds) :=
  ed_callTy call_tuple_of rc_tupL hm (by decide +kernel) (ad_cons ha ad_nil he) hg (by decide) (by decide) he rfl
abbrev rInt1 : List V → Hp → VK → Prop := fun xs H Q => (∃ i, xs = [.int i] ∧ Q (.int i) H) ∨ ∃ k, xs = [.bl k] ∧ Q (.int (if k then 1 else 0)) H
theorem ed_intI {p : Pos} {i : Int} (hm : X.mg "int" = none) (ha : ED X C a Γ (.int i)) (hg : Gl X "int" := by rfl) (he : starEach [a] X.env = (false, eval a X.env) :: starEach [] X.env := by rfl) : ED X C (.Call (.Name "int" p) [a] [] pos) Γ (.int i) :=
  ed_callTy (r := rInt1) call_int1 (fun H vs _ r Q k => by
    obtain ⟨v, rfl, h⟩ := rep1 r
    cases h
    exact .inl ⟨_, rfl, k _ H (Same.refl H) (.int _)⟩) hm boot_int (ad_cons ha ad_nil he) hg (by decide) (by decide) he rfl
theorem ed_intB {p : Pos} {i : Bool} (hm : X.mg "int" = none) (ha : ED X C a Γ (.bool i)) (hg : Gl X "int" := by rfl) (he : starEach [a] X.env = (false, eval a X.env) :: starEach [] X.env := by rfl) : ED X C (.Call (.Name "int" p) [a] [] pos) Γ (.int (if i then 1 else 0)) :=
  ed_callTy (r := rInt1) call_int1 (fun H vs _ r Q k => by
    obtain ⟨v, rfl, h⟩ := rep1 r
    cases h
    exact .inr ⟨_, rfl, k _ H (Same.refl H) (.int _)⟩) hm boot_int (ad_cons ha ad_nil he) hg (by decide) (by decide) he rfl
end
end T2

set_option Elab.async false
set_option linter.all false
set_option maxRecDepth 100000
set_option maxHeartbeats 4000000
/-! TbX: statements, loops, comprehensions, calls of one's own defs, over data. -/
namespace T2
open PySem PySem.Spec PyProof.Rows L2
/-! ### defs: a promise over data -/
def spF (R : List PyData → PyData → Prop) : Sp := fun vs H Q _ => ∃ (C : Addr → Prop) (ds : List PyData) (d : PyData), Th C H ∧ RepAll C H vs ds ∧ R ds d ∧ ∀ v H', Same H H' → Rep C H' v d → Q v H'
structure Dfn (P : Program) (w : World) (K : PySem.W.Frag) (mg : Str → Option Value) (base : Heap) (x : Str) (ps : List Str) (k : Nat) (sp : Sp) : Prop where
  ex : ∃ (f : Addr) (fd : FuncData), mg x = some (.ref f) ∧ PySem.W.keepIn K (.ref f) = true ∧ Binds K fd ps [] ∧ FnOk P w K mg base CX0 k f fd ps sp
/-- a def of the text as it stands behind the top -/
structure At (K : PySem.W.Frag) (mg : Str → Option Value) (x : Str) (st : Stmt) : Prop where
  ex : ∃ (f : Addr) (fd : FuncData), mg x = some (.ref f) ∧ FunD K x x (defArgs st) (defBody st) (defScope st) [] [] f fd
abbrev CxD (P : Program) (w : World) (K : PySem.W.Frag) (mg : Str → Option Value) (base : Heap) (N : List Str) (x : Str) (st : Stmt) (f : Addr) (cdv : Value) (A : Around) (outer : List Env) (s : Shared) (H : Hp) (E : XK) : Cx :=
  (cxOf CX0 P w K mg base N x (defScope st) f cdv A outer s H E).nox
def startG (N : List Str) (ds : List PyData) : List Sd := ds.map .dat ++ List.replicate (N.length - ds.length) .any
theorem start_en {C : Addr → Prop} {H : Hp} {N : List Str} {vs : List V} {ds : List PyData} (ht : Th C H) (r : RepAll C H vs ds) : En C H (L2.start N vs) (startG N ds) := by
  have hl := r.length
  refine ⟨ht, ?_, fun i s e => ?_⟩
  · unfold L2.start startG
    rw [List.length_append, List.length_append, List.length_map, List.length_map, List.length_replicate, List.length_replicate, hl]
  · unfold startG at e
    unfold L2.start
    by_cases hi : i < ds.length
    · rw [List.getElem?_append_left (by simpa using hi), List.getElem?_map] at e
      rw [List.getElem?_append_left (by simpa [hl] using hi), List.getElem?_map]
      cases q : ds[i]? with
      | none => rw [q] at e; cases e
      | some d =>
        rw [q] at e
        cases e
        obtain ⟨v, h1, h2⟩ := r.get q
        exact ⟨v, by rw [h1]; rfl, h2⟩
    · rw [List.getElem?_append_right (by simpa using hi), List.getElem?_replicate] at e
      split at e
      · cases e; trivial
      · cases e
section
variable {P : Program} {w : World} {K : PySem.W.Frag} {mg : Str → Option Value} {base : Heap}
/-- THE RULE for a def -/
theorem dfn_of {x : Str} {st : Stmt} {N ps : List Str} {k : Nat} {R : List PyData → PyData → Prop} (T : At K mg x st) (S : FnScope N ps (defScope st))
    (hb : ∀ (kV doc pm : Value) (an : Option Addr) (cdv ct : Value) (us : List Value), us.length = ps.length → bindArgs (PySem.W.fnOf x x (defArgs st) (defBody st) (defScope st) .none kV doc pm an cdv ct) ⟨us, []⟩ = pure (ps.zip us))
    (len : ∀ ds d, R ds d → ds.length = ps.length)
    (body : ∀ (f : Addr) (cdv : Value) (A : Around) (outer : List Env) (s : Shared) (H : Hp) (E : XK), Room k (A.deeper (envOfC x (defScope st) s.heap.objs.size f cdv)) → ∀ (C : Addr → Prop) (ds : List PyData) (d : PyData) (σ : L2.St), R ds d → En C H σ (startG N ds) →
      ∀ Q : VK, (∀ v H', Same H H' → Rep C H' v d → Q v H') → WSs (CxD P w K mg base N x st f cdv A outer s H E) (defBody st) { nx := fun _ H' => Q .non H', rt := Q } σ H) :
    Dfn P w K mg base x ps (k + 1) (spF R) := by
  obtain ⟨f, fd, hm, F⟩ := T.ex
  refine ⟨f, fd, hm, F.kp, ?_, F.ok S (fun vs H Q E h => ?_) (fun cdv A outer s H vs Q E hr h => ?_)⟩
  · obtain ⟨oc, od, dV, kV, doc, pm, an, cdv, ct, osl, rfl, lk, hcd, hD, _⟩ := F.ex
    rcases hD with ⟨_, rfl⟩ | ⟨z, _⟩
    · exact .all (hb kV doc pm an cdv ct)
    · exact absurd rfl z
  · obtain ⟨C, ds, d, _, r, hR, _⟩ := h
    rw [r.length]
    exact len ds d hR
  · obtain ⟨C, ds, d, ht, r, hR, q⟩ := h
    exact ⟨_, WSs.p.nox, body f cdv A outer s H E hr C ds d _ hR (start_en ht r) Q q⟩
theorem Dfn.mono {x : Str} {ps : List Str} {j k : Nat} {sp : Sp} (G : Dfn P w K mg base x ps j sp) (h : j ≤ k) : Dfn P w K mg base x ps k sp := by
  obtain ⟨f, fd, h1, h2, h3, F⟩ := G.ex
  exact ⟨f, fd, h1, h2, h3, F.mono h⟩
end
section
variable {X : Cx} {C : Addr → Prop} {Γ Γ' : List Sd} {e a b c : Expr} {es : List Expr} {d d1 d2 d3 : PyData} {ds : List PyData} {pos : Pos}
theorem ed_call {x : Str} {p : Pos} {ps : List Str} {k0 : Nat} {R : List PyData → PyData → Prop} (G : Dfn X.prog X.w X.K X.mg X.base x ps k0 (spF R)) (hr : Room k0 X.A) (hR : R ds d) (ha : AD X C (e :: es) Γ ds) (hg : Gl X x := by rfl) (hdb : (x == ("__debug__" : Str)) = false := by decide)
    (he : starEach (e :: es) X.env = (false, eval e X.env) :: starEach es X.env := by rfl) (hpl : (backTo pos (starEach es X.env)).any (·.1) = false := by rfl) : ED X C (.Call (.Name x p) (e :: es) [] pos) Γ d := fun σ H hE Q k => by
  obtain ⟨f, fd, h1, h2, h3, F⟩ := G.ex
  refine ⟨_, pe_call F hr hg h1 h2 h3 .nil pass0 WA.p hdb he hpl, ha σ H hE _ fun vs H1 s1 r1 => ?_⟩
  rw [List.append_nil]
  exact ⟨C, ds, d, (hE.same s1).there, r1, hR, fun v H2 s2 r2 => k v H2 (s1.trans s2) r2⟩
theorem ed_call0 {x : Str} {p : Pos} {ps : List Str} {k0 : Nat} {R : List PyData → PyData → Prop} (G : Dfn X.prog X.w X.K X.mg X.base x ps k0 (spF R)) (hr : Room k0 X.A) (hR : R [] d) (hg : Gl X x := by rfl) (hdb : (x == ("__debug__" : Str)) = false := by decide) :
    ED X C (.Call (.Name x p) [] [] pos) Γ d := fun σ H hE Q k => by
  obtain ⟨f, fd, h1, h2, h3, F⟩ := G.ex
  exact ⟨_, pe_call0 F hr hg h1 h2 h3 .nil pass0 hdb, C, [], d, hE.there, .nil, hR, k⟩
/-! ### targets -/
theorem gd_name (i : Nat) {x : Str} (hN : X.N.Nodup) (hi : X.N[i]? = some x := by rfl) (hx : Loc X.env.scope x := by first | exact Or.inl rfl | exact Or.inr rfl) (hf : X.fn x = true ∨ X.env.scope.names.lookup x = some .local := by first | exact .inl rfl | exact .inr rfl) :
    GD X C (.Name x pos) Γ d (Γ.set i (.dat d)) [i] := fun σ H v hE r Q k =>
  ⟨_, pg_name hN hi hx hf, k _ H (Same.refl H) (hE.set r) fun vs hv => wipe_set (hv i (List.mem_singleton.mpr rfl))⟩
theorem gsd_nil : GsD X C [] Γ [] Γ [] := fun σ H v hE r Q k => by
  cases r
  exact ⟨_, pgs_nil, rfl, k _ H (Same.refl H) hE fun _ _ => rfl⟩
theorem gsd_cons {Γ2 : List Sd} {ws us : List Nat} (h : GD X C e Γ d Γ' ws) (t : GsD X C es Γ' ds Γ2 us) (hs : (assignEach (e :: es) X.env).map (·.2) = assign e X.env :: (assignEach es X.env).map (·.2) := by rfl) : GsD X C (e :: es) Γ (d :: ds) Γ2 (ws ++ us) := fun σ H v hE r Q k => by
  cases r with
  | cons r1 r2 =>
    exact ⟨_, pgs_cons WG.p WGs.p hs, _, _, rfl, h σ H _ hE r1 _ fun σ1 H1 s1 e1 w1 => t σ1 H1 _ e1 (r2.same s1) Q fun σ2 H2 s2 e2 w2 => k σ2 H2 (s1.trans s2) e2 fun vs hv =>
      (w2 vs fun i hi => hv i (List.mem_append_right _ hi)).trans (w1 vs fun i hi => hv i (List.mem_append_left _ hi))⟩
theorem gd_tup {j : Nat} {ws : List Nat} (hc : X.calm = true) (h : GsD X C es Γ ds Γ' ws) (hn : (assignEach es X.env).length = ds.length := by rfl) (h2 : (assignEach es X.env).findIdx? (·.1) = none := by rfl) :
    GD X C (.Tuple es j pos) Γ (.tuple ds) Γ' ws := fun σ H v hE r Q k => by
  cases r with
  | tup hcc hx hr => exact ⟨_, pg_tup hc WGs.p hn h2, _, _, rfl, SqT.of hx, hr.length, h σ H _ hE hr Q k⟩
/-! ### what is walked -/
theorem walk_list {H0 : Hp} {l : Addr} {xs : List V} (K : PySem.W.Frag) (hc : ¬ C l) (h : H0 l = some (.lst xs)) (r : RepAll C H0 xs ds) : Walk C H0 (Itl K l) ds where
  go := fun C1 i H ap s hi => by
    obtain ⟨v, h1, _⟩ := r.get (List.getElem?_eq_getElem hi)
    exact ⟨xs, v, SqL.of (s _ _ (ap _ _ h hc) h), h1⟩
  yld := fun C1 i H x H' ap _ s ⟨e, hx⟩ => by
    subst e
    refine ⟨Same.refl _, fun d hd => ?_⟩
    obtain ⟨v, h1, h2⟩ := r.get hd
    have q := hx xs (SqL.of (s _ _ (ap _ _ h hc) h))
    rw [h1] at q
    cases q
    exact (h2.apart ap).mono s
  stop := fun C1 i H ap s hi => ⟨xs, SqL.of (s _ _ (ap _ _ h hc) h), by rw [r.length]; exact hi⟩
theorem walk_tup {H0 : Hp} {l : Addr} {xs : List V} (K : PySem.W.Frag) (hc : ¬ C l) (h : H0 l = some (.tup xs)) (r : RepAll C H0 xs ds) : Walk C H0 (Itt K l) ds where
  go := fun C1 i H ap s hi => by
    obtain ⟨v, h1, _⟩ := r.get (List.getElem?_eq_getElem hi)
    exact ⟨xs, v, SqT.of (s _ _ (ap _ _ h hc) h), h1⟩
  yld := fun C1 i H x H' ap _ s ⟨e, hx⟩ => by
    subst e
    refine ⟨Same.refl _, fun d hd => ?_⟩
    obtain ⟨v, h1, h2⟩ := r.get hd
    have q := hx xs (SqT.of (s _ _ (ap _ _ h hc) h))
    rw [h1] at q
    cases q
    exact (h2.apart ap).mono s
  stop := fun C1 i H ap s hi => ⟨xs, SqT.of (s _ _ (ap _ _ h hc) h), by rw [r.length]; exact hi⟩
def rangeD (lo : Int) (n : Nat) : List PyData := (List.range n).map fun (i : Nat) => .int (lo + (i : Int))
theorem walk_range {H0 : Hp} {lo : Int} {n : Nat} : Walk C H0 (Itr lo n) (rangeD lo n) where
  go := fun C1 i H _ s hi => by
    unfold rangeD at hi
    rw [List.length_map, List.length_range] at hi
    exact hi
  yld := fun C1 i H x H' _ _ s ⟨e, hx⟩ => by
    subst e hx
    refine ⟨Same.refl _, fun d hd => ?_⟩
    unfold rangeD at hd
    rw [List.getElem?_map] at hd
    by_cases hi : i < n
    · rw [List.getElem?_range hi] at hd
      cases hd
      exact .int _
    · rw [List.getElem?_eq_none (by rw [List.length_range]; omega)] at hd
      cases hd
  stop := fun C1 i H _ s hi => by
    unfold rangeD at hi
    rw [List.length_map, List.length_range] at hi
    exact hi
variable {tg iter : Expr}
theorem id_list (h : ED X C iter Γ (.list ds)) : ID X C tg iter Γ ds := fun σ H hE R k => ⟨_, pi_list WE.p, h σ H hE _ fun v H1 s1 r1 => by
  cases r1 with
  | lst hc hx hr => exact ⟨_, rfl, ⟨_, SqL.of hx⟩, k _ _ s1 (walk_list X.K hc hx hr)⟩⟩
theorem id_tup (h : ED X C iter Γ (.tuple ds)) : ID X C tg iter Γ ds := fun σ H hE R k => ⟨_, pi_tup WE.p, h σ H hE _ fun v H1 s1 r1 => by
  cases r1 with
  | tup hc hx hr => exact ⟨_, rfl, ⟨_, SqT.of hx⟩, k _ _ s1 (walk_tup X.K hc hx hr)⟩⟩
theorem id_range1 {p : Pos} {n : Int} (hm : X.mg "range" = none) (h : ED X C a Γ (.int n)) (hn : -1000 ≤ n ∧ n ≤ 1000) (hg : Gl X "range" := by rfl) (hs : starEach [a] X.env = [(false, eval a X.env)] := by rfl) :
    ID X C tg (.Call (.Name "range" p) [a] [] pos) Γ (rangeD 0 n.toNat) := fun σ H hE R k => ⟨_, pi_range1 hg hm WA.p hs, ad_cons h ad_nil hs σ H hE _ fun vs H1 s1 r1 => by
  obtain ⟨v, rfl, r⟩ := rep1 r1
  cases r
  exact ⟨_, rfl, by omega, by omega, k _ _ s1 walk_range⟩⟩
theorem id_range2 {p : Pos} {lo n : Int} (hm : X.mg "range" = none) (h : ED X C a Γ (.int lo)) (h' : ED X C b Γ (.int n)) (hn : -1000 ≤ lo ∧ lo ≤ 1000 ∧ -1000 ≤ n ∧ n ≤ 1000) (hg : Gl X "range" := by rfl)
    (hs : starEach [a, b] X.env = [(false, eval a X.env), (false, eval b X.env)] := by rfl) (hs2 : starEach [b] X.env = [(false, eval b X.env)] := by rfl) :
    ID X C tg (.Call (.Name "range" p) [a, b] [] pos) Γ (rangeD lo (n - lo).toNat) := fun σ H hE R k => ⟨_, pi_range2 hg hm WA.p hs hs2, ad_cons h (ad_cons h' ad_nil hs2) (hs.trans (by rw [hs2])) σ H hE _ fun vs H1 s1 r1 => by
  obtain ⟨v, u, rfl, r, r'⟩ := rep2 r1
  cases r
  cases r'
  exact ⟨_, _, rfl, by omega, k _ _ s1 walk_range⟩⟩
/-! ### comprehensions -/
/-- a block of X -/
abbrev Bk (X : Cx) (scope : Scope) (s : Shared) (H : Hp) (C' : Addr) (cl : List (Str × Addr)) (fp : List Addr) : Cx := X.blk s H scope (compEnvC scope cl C' X.env) fp
section
variable {elt : Expr} {ifs : List Expr} {scope : Scope} {own : List (Str × Nat)} {α : Type} {xs : List α} {enc : α → PyData}
/-- the reading of a comprehension all of whose parts are worth data -/
theorem lcd {σ : L2.St} {H : Hp} {Q : VK} (Γt : α → List Sd) (p : α → Bool) (f : α → PyData) (hE : En C H σ Γ) (hi : ID X C tg iter Γ (xs.map enc))
    (hg : ∀ C1 s H C' cl fp, ∀ y ∈ xs, GD (Bk X scope s H C' cl fp) C1 tg (wipeG Γ (own.map (·.2))) (enc y) (Γt y) (own.map (·.2)))
    (ht : ∀ C1 s H C' cl fp, ∀ y ∈ xs, TsD (Bk X scope s H C' cl fp) C1 ifs (Γt y) (p y))
    (he : ∀ C1 s H C' cl fp, ∀ y ∈ xs, p y = true → ED (Bk X scope s H C' cl fp) C1 elt (Γt y) (f y)) (hz : xs.length < sizeLine)
    (k : ∀ v H', Same H H' → Rep C H' v (.list ((xs.filter p).map f)) → Q v H') :
    tLc (WI X tg iter) (fun v σ H Q => ∀ s H0 C' cl fp, WG (Bk X scope s H0 C' cl fp) tg v σ H Q) (fun σ H Q => ∀ s H0 C' cl fp, WTs (Bk X scope s H0 C' cl fp) ifs σ H Q) (fun σ H Q => ∀ s H0 C' cl fp, WE (Bk X scope s H0 C' cl fp) elt σ H Q) (own.map (·.2)) σ H Q := by
  refine hi σ H hE _ fun J H1 s1 W D hD => ?_
  have hE1 := hE.same s1
  have hDc : ¬ C D := hE1.fresh hD
  have ap : ∀ a o, H1 a = some o → ¬ C a → ¬ (C a ∨ a = D) := fun a o e c q => q.elim c (ne_of_none e hD)
  have thr : ∀ H2 zs, Same H1 H2 → H2 D = some (.lst zs) → Th (fun a => C a ∨ a = D) H2 := fun H2 zs s q a ha => ha.elim (fun c => (hE1.same s).there a c) fun e => ⟨zs, by rw [e]; exact q⟩
  refine ⟨fun i m H2 => i + m = xs.length ∧ Same H1 H2 ∧ ∃ acc, H2 D = some (.lst acc) ∧ acc.length ≤ i ∧ RepAll (fun a => C a ∨ a = D) H2 acc (((xs.take i).filter p).map f),
    ⟨xs.length, Nat.zero_add _, same_new hD, [], upd_same, Nat.le_refl _, RepAll.nil⟩, fun i m H2 hw => ?_⟩
  obtain ⟨em, s2, acc, hacc, hal, hr⟩ := hw
  have hlen : (xs.map enc).length = xs.length := List.length_map _
  by_cases h : i < xs.length
  · refine .inr ⟨W.go _ i H2 ap (toB s2) (by rw [hlen]; exact h), fun H3 => Same H1 H3 ∧ ∃ acc, H3 D = some (.lst acc) ∧ acc.length ≤ i + 1 ∧ RepAll (fun a => C a ∨ a = D) H3 acc (((xs.take (i + 1)).filter p).map f), fun H3 q => ⟨m - 1, by omega, by omega, q⟩, fun x H3 hy => ?_⟩
    obtain ⟨s3, rx⟩ := W.yld _ i H2 x H3 ap (thr H2 _ s2 hacc) (toB s2) hy
    have gi : xs[i]? = some xs[i] := List.getElem?_eq_getElem h
    have ym : xs[i] ∈ xs := List.getElem_mem h
    have r := rx (enc xs[i]) (by rw [List.getElem?_map, gi]; rfl)
    have hE3 : En (fun a => C a ∨ a = D) H3 σ Γ := hE1.apart ap (s2.trans s3) (thr H3 _ (s2.trans s3) (s3 _ _ hacc))
    have etk : xs.take (i + 1) = xs.take i ++ [xs[i]] := by rw [List.take_add_one, gi]; rfl
    intro s0 H0 C' cl fp
    refine hg _ s0 H0 C' cl fp xs[i] ym (wipe σ (own.map (·.2))) H3 x (hE3.wipe _) r _ ?_
    intro σ4 H4 s4 hE4 hw
    refine ⟨(hw _ fun i hi => hi).trans ?_, fun s0 H0 C' cl fp => ?_⟩
    · have idem : ∀ (vs us : List Nat), (∀ i ∈ us, i ∈ vs) → wipe (wipe σ us) vs = wipe σ vs := by
        intro vs us
        induction us with
        | nil => intro _; rfl
        | cons u us ih =>
          intro hu
          show wipe ((wipe σ us).set u none) vs = wipe σ vs
          rw [wipe_set (hu u List.mem_cons_self), ih fun i hi => hu i (List.mem_cons_of_mem _ hi)]
      exact idem _ _ fun i hi => hi
    · refine ht _ s0 H0 C' cl fp xs[i] ym σ4 H4 hE4 _ fun H5 s5 => ?_
      have s15 : Same H1 H5 := ((s2.trans s3).trans s4).trans s5
      have hD5 : H5 D = some (.lst acc) := s5 _ _ (s4 _ _ (s3 _ _ hacc))
      have hr5 := hr.same ((s3.trans s4).trans s5)
      cases hp : p xs[i] with
      | false =>
        refine iteF ⟨s15, acc, hD5, by omega, ?_⟩
        rw [etk, List.filter_append, List.filter_cons_of_neg (by rw [hp]; exact Bool.false_ne_true), List.filter_nil, List.append_nil]
        exact hr5
      | true =>
        refine iteT fun s0 H0 C' cl fp => ?_
        refine he _ s0 H0 C' cl fp xs[i] ym hp σ4 H5 (hE4.same s5) _ fun y H6 s6 r6 => ⟨acc, s6 _ _ hD5, by omega, ?_⟩
        have s16 := s15.trans s6
        have sb : SameB (fun a => C a ∨ a = D) H6 (upd H6 D (.lst (acc ++ [y]))) := fun a o hc e => by rw [upd_ne fun q => hc (.inr q)]; exact e
        have all : RepAll (fun a => C a ∨ a = D) H6 (acc ++ [y]) ((((xs.take (i + 1)).filter p).map f)) := by
          rw [etk, List.filter_append, List.filter_cons_of_pos hp, List.filter_nil, List.map_append]
          exact (hr5.same s6).snoc r6
        exact ⟨fun a o e => by rw [upd_ne (ne_of_none e hD)]; exact s16 a o e, acc ++ [y], upd_same, by rw [List.length_append, List.length_singleton]; omega, all.mono sb⟩
  · have ei : i = xs.length := by omega
    refine .inl ⟨W.stop _ i H2 ap (toB s2) (by rw [hlen]; omega), k _ _ (s1.trans s2) (.lst hDc hacc ?_)⟩
    rw [ei, List.take_length] at hr
    exact hr.apart fun a o _ q c => q (.inl c)
theorem ed_lc (Γt : α → List Sd) (p : α → Bool) (f : α → PyData) (hc : X.calm = true) (hN : X.N.Nodup) (ok : BlkOk X.N X.env.scope scope own) (hi : ID X C tg iter Γ (xs.map enc))
    (hg : ∀ C1 s H C' cl fp, ∀ y ∈ xs, GD (Bk X scope s H C' cl fp) C1 tg (wipeG Γ (own.map (·.2))) (enc y) (Γt y) (own.map (·.2)))
    (ht : ∀ C1 s H C' cl fp, ∀ y ∈ xs, TsD (Bk X scope s H C' cl fp) C1 ifs (Γt y) (p y))
    (he : ∀ C1 s H C' cl fp, ∀ y ∈ xs, p y = true → ED (Bk X scope s H C' cl fp) C1 elt (Γt y) (f y)) (hz : xs.length < sizeLine) (hs : ∀ x, foldedSetIterable iter X.env x = pure x := by intro _; rfl) :
    ED X C (.ListComp elt [⟨tg, iter, ifs, 0⟩] scope pos) Γ (.list ((xs.filter p).map f)) := fun σ H hE Q k =>
  ⟨_, pe_lc hc hN WI.p ok (fun s H C' cl fp => ⟨fun pins s1 σ H1 v u Q I r h => (WG.p (X := Bk X scope s H C' cl fp)).run pins s1 σ H1 v u Q I r (h s H C' cl fp)⟩)
    (fun s H C' cl fp => ⟨fun pins s1 σ H1 Q I h => (WTs.p (X := Bk X scope s H C' cl fp)).run pins s1 σ H1 Q I (h s H C' cl fp)⟩)
    (fun s H C' cl fp => ⟨fun pins s1 σ H1 Q I h => (WE.p (X := Bk X scope s H C' cl fp)).run pins s1 σ H1 Q I (h s H C' cl fp)⟩) hs, lcd Γt p f hE hi hg ht he hz k⟩
/-- without tests -/
theorem filter_true : ∀ l : List α, l.filter (fun _ => true) = l
  | [] => rfl
  | x :: l => by rw [List.filter_cons_of_pos rfl, filter_true l]
theorem ed_lc1 (Γt : α → List Sd) (f : α → PyData) (hc : X.calm = true) (hN : X.N.Nodup) (ok : BlkOk X.N X.env.scope scope own) (hi : ID X C tg iter Γ (xs.map enc))
    (hg : ∀ C1 s H C' cl fp, ∀ y ∈ xs, GD (Bk X scope s H C' cl fp) C1 tg (wipeG Γ (own.map (·.2))) (enc y) (Γt y) (own.map (·.2)))
    (he : ∀ C1 s H C' cl fp, ∀ y ∈ xs, ED (Bk X scope s H C' cl fp) C1 elt (Γt y) (f y)) (hz : xs.length < sizeLine) (hs : ∀ x, foldedSetIterable iter X.env x = pure x := by intro _; rfl) :
    ED X C (.ListComp elt [⟨tg, iter, [], 0⟩] scope pos) Γ (.list (xs.map f)) := by
  have z := ed_lc (pos := pos) (elt := elt) (ifs := []) Γt (fun _ => true) f hc hN ok hi hg (fun C1 s H C' cl fp y _ => tsd_nil) (fun C1 s H C' cl fp y hy _ => he C1 s H C' cl fp y hy) hz hs
  rw [filter_true] at z
  exact z
end
/-! ### statements -/
structure Sn (C : Addr → Prop) (H0 H : Hp) (σ : L2.St) (Γ : List Sd) : Prop where
  sm : Same H0 H
  en : En C H σ Γ
theorem Sn.next {H0 H H' : Hp} {σ : L2.St} (h : Sn C H0 H σ Γ) (s : Same H H') {σ' : L2.St} (e : En C H' σ' Γ') : Sn C H0 H' σ' Γ' := ⟨h.sm.trans s, e⟩
section
variable {H0 H : Hp} {σ : L2.St} {D : Ends} {rest : List Stmt}
theorem s_nil (h : D.nx σ H) : WSs X [] D σ H := ⟨_, pss_nil, h⟩
theorem s_set (i : Nat) {x : Str} {pos' : Pos} (h : ED X C e Γ d) (hS : Sn C H0 H σ Γ) (nd : X.N.Nodup) (k : ∀ σ' H', Sn C H0 H' σ' (Γ.set i (.dat d)) → WSs X rest D σ' H') (hi : X.N[i]? = some x := by rfl) (hx : Loc X.env.scope x := by first | exact Or.inl rfl | exact Or.inr rfl)
    (hs : swapsWith e (some (.Name x pos')) pos.line X.env = pure false := by rfl) (hf : X.fn x = true ∨ X.env.scope.names.lookup x = some .local := by first | exact .inl rfl | exact .inr rfl) : WSs X (.Assign [.Name x pos'] e pos :: rest) D σ H :=
  ⟨_, pss_cons (ps_set nd hi hx WE.p hs hf) WSs.p, h σ H hS.en _ fun v H1 s1 r1 => k _ H1 (hS.next s1 ((hS.en.same s1).set r1))⟩
theorem s_asg {tg : Expr} {ws : List Nat} (h : ED X C e Γ d) (hg : GD X C tg Γ d Γ' ws) (hS : Sn C H0 H σ Γ) (k : ∀ σ' H', Sn C H0 H' σ' Γ' → WSs X rest D σ' H') (hs : swapsWithSole [tg] e pos.line X.env = pure false := by rfl) (hw : swappedStores [tg] e X.env = pure none := by rfl)
    (h1 : (assignEach [tg] X.env).map (·.2) = [assign tg X.env] := by rfl) : WSs X (.Assign [tg] e pos :: rest) D σ H :=
  ⟨_, pss_cons (ps_asg WE.p WG.p hs hw h1) WSs.p, h σ H hS.en _ fun v H1 s1 r1 => hg σ H1 v (hS.en.same s1) r1 _ fun σ2 H2 s2 e2 _ => k σ2 H2 (hS.next (s1.trans s2) e2)⟩
theorem s_par (i j : Nat) {x y : Str} {px py pt : Pos} {kt k2 pt2} (hc : X.calm = true) (h : AD X C [a, b] Γ [d1, d2]) (hS : Sn C H0 H σ Γ) (nd : X.N.Nodup) (k : ∀ σ' H', Sn C H0 H' σ' ((Γ.set i (.dat d1)).set j (.dat d2)) → WSs X rest D σ' H')
    (hw : swappedStores [.Tuple [.Name x px, .Name y py] kt pt] (.Tuple [a, b] k2 pt2) X.env = pure (some [x, y]))
    (hi : X.N[i]? = some x := by rfl) (hj : X.N[j]? = some y := by rfl) (hij : i ≠ j := by decide) (hx : X.env.scope.names.lookup x = some .local := by rfl) (hy : X.env.scope.names.lookup y = some .local := by rfl)
    (hs : swapsWithSole [.Tuple [.Name x px, .Name y py] kt pt] (.Tuple [a, b] k2 pt2) pos.line X.env = pure false := by rfl) : WSs X (.Assign [.Tuple [.Name x px, .Name y py] kt pt] (.Tuple [a, b] k2 pt2) pos :: rest) D σ H :=
  ⟨_, pss_cons (ps_par hc nd hi hj hij hx hy WA.p hw hs) WSs.p, h σ H hS.en _ fun vs H1 s1 r1 => by
    obtain ⟨v, u, rfl, ra, rb⟩ := rep2 r1
    exact ⟨v, u, rfl, k _ H1 (hS.next s1 (((hS.en.same s1).set ra).set rb))⟩⟩
theorem s_ret (h : ED X C e Γ d) (hS : Sn C H0 H σ Γ) (k : ∀ v H', Same H0 H' → Rep C H' v d → D.rt v H') : WSs X (.Return (some e) pos :: rest) D σ H :=
  ⟨_, pss_cons (ps_ret WE.p) (WSs.p (st := rest)), h σ H hS.en _ fun v H1 s1 r1 => k v H1 (hS.sm.trans s1) r1⟩
theorem s_drop (h : ED X C e Γ d) (hS : Sn C H0 H σ Γ) (k : ∀ σ' H', Sn C H0 H' σ' Γ → WSs X rest D σ' H') (hs : swapsWith e none pos.line X.env = pure false := by rfl) : WSs X (.Expr e pos :: rest) D σ H :=
  ⟨_, pss_cons (ps_expr WE.p hs) WSs.p, h σ H hS.en _ fun v H1 s1 _ => k σ H1 (hS.next s1 (hS.en.same s1))⟩
theorem s_ifT {f1 f2 : List Stmt} (h : TD X C c Γ true) (hS : Sn C H0 H σ Γ) (k : ∀ H', Sn C H0 H' σ Γ → WSs X f1 { D with nx := WSs X rest D } σ H') : WSs X (.If c f1 f2 pos :: rest) D σ H :=
  ⟨_, pss_cons (ps_if WT.p WSs.p (WSs.p (st := f2))) WSs.p, h σ H hS.en _ fun H1 s1 => iteT (k H1 (hS.next s1 (hS.en.same s1)))⟩
theorem s_ifF {f1 f2 : List Stmt} (h : TD X C c Γ false) (hS : Sn C H0 H σ Γ) (k : ∀ H', Sn C H0 H' σ Γ → WSs X f2 { D with nx := WSs X rest D } σ H') : WSs X (.If c f1 f2 pos :: rest) D σ H :=
  ⟨_, pss_cons (ps_if WT.p (WSs.p (st := f1)) WSs.p) WSs.p, h σ H hS.en _ fun H1 s1 => iteF (k H1 (hS.next s1 (hS.en.same s1)))⟩
/-- an if without else that is not taken -/
theorem s_skip {f1 : List Stmt} (h : TD X C c Γ false) (hS : Sn C H0 H σ Γ) (k : ∀ H', Sn C H0 H' σ Γ → WSs X rest D σ H') : WSs X (.If c f1 [] pos :: rest) D σ H :=
  s_ifF h hS fun H' h' => s_nil (k H' h')
theorem s_for {body : List Stmt} {ws : List Nat} (Γs : Nat → List Sd) (Γt : Nat → PyData → List Sd) (hp : PassesOwn (model X.prog X.w) X.A X.env X.xe) (hc : X.calm = true) (hi : ID X C tg iter Γ ds) (hS : Sn C H0 H σ Γ)
    (h0 : ∀ σ' H', Sn C H0 H' σ' Γ → Sn C H0 H' σ' (Γs 0))
    (hg : ∀ i d, ds[i]? = some d → GD X C tg (Γs i) d (Γt i d) ws)
    (hb : ∀ i d, ds[i]? = some d → ∀ Hb, Same H0 Hb → ∀ σ' H' (D' : Ends), Sn C Hb H' σ' (Γt i d) → D'.rt = D.rt → (∀ σ2 H2, Sn C Hb H2 σ2 (Γs (i + 1)) → D'.nx σ2 H2) → WSs X body D' σ' H')
    (k : ∀ σ' H', Sn C H0 H' σ' (Γs ds.length) → WSs X rest D σ' H') (hs : ∀ x, foldedSetIterable iter X.env x = pure x := by intro _; rfl) : WSs X (.For tg iter body [] pos :: rest) D σ H := by
  refine ⟨_, pss_cons (ps_for hp hc WI.p WG.p WSs.p hs) WSs.p, hi σ H hS.en _ fun J H1 s1 W => ?_⟩
  have ap : ∀ a o, H1 a = some o → ¬ C a → ¬ C a := fun _ _ _ c => c
  refine ⟨fun i m σ2 H2 => i + m = ds.length ∧ Same H1 H2 ∧ Sn C H0 H2 σ2 (Γs i), ⟨ds.length, by omega, Same.refl _, h0 _ _ (hS.next s1 (hS.en.same s1))⟩, fun i m σ2 H2 hw => ?_⟩
  obtain ⟨em, s2, S2⟩ := hw
  by_cases h : i < ds.length
  · refine .inr ⟨W.go C i H2 ap (toB s2) h, fun σ3 H3 => Same H1 H3 ∧ Sn C H0 H3 σ3 (Γs (i + 1)), fun σ3 H3 q => ⟨m - 1, by omega, by omega, q⟩, fun x H3 hy => ?_⟩
    obtain ⟨s3, rx⟩ := W.yld C i H2 x H3 ap S2.en.there (toB s2) hy
    have gi : ds[i]? = some ds[i] := List.getElem?_eq_getElem h
    refine hg i ds[i] gi σ2 H3 x (S2.en.same s3) (rx _ gi) _ fun σ4 H4 s4 e4 _ => ?_
    exact hb i ds[i] gi H1 (hS.sm.trans s1) σ4 H4 _ ⟨(s2.trans s3).trans s4, e4⟩ rfl fun σ5 H5 S5 => ⟨S5.sm, (hS.sm.trans s1).trans S5.sm, S5.en⟩
  · have ei : i = ds.length := by omega
    subst ei
    exact .inl ⟨W.stop C _ H2 ap (toB s2) (Nat.le_refl _), k σ2 H2 S2⟩
end
end
end T2

set_option Elab.async false
set_option linter.all false
set_option maxRecDepth 100000
set_option maxHeartbeats 4000000
/-! TbS: sorted of a list, a tuple, a dict with tuple keys, of alike data (an empty tuple may come first). -/
namespace T2
open PySem PySem.Spec PySem.W PyProof.Rows L2
section
variable {prog : Program} {w : World} {A : Around} {E : Value → Shared → Prop} {s : Shared}
theorem call_tuple_lt {Q : Value → Shared → Prop} {l b : Addr} {items items2 : Array Value} {e r : Nat → Bool} (hl : s.heap.IsTuple l items) (hb : s.heap.IsTuple b items2)
    (he : ∀ j (h1 : j < items.size) (h2 : j < items2.size), SeqAt.EqAt A.in1 s items[j] items2[j] (e j)) (hr : ∀ j (h1 : j < items.size) (h2 : j < items2.size), e j = false → SeqAt.RcLt A.in1 s items[j] items2[j] (r j))
    (h : Q (.bool (SeqAt.firstLt e r (decide (items.size < items2.size)) (List.range (min items.size items2.size)))) s) : wpAny (model prog w) A (call (.builtin "tuple.__lt__") [.ref l, .ref b]) Q E s := by
  obtain ⟨⟨cls, dd, data, sl⟩, ho, hc, n, hd⟩ := id hl
  obtain ⟨⟨cls2, dd2, data2, sl2⟩, ho2, hc2, n2, hd2⟩ := id hb
  simp only at hc hd hc2 hd2
  subst hc hd hc2 hd2
  exact call_meets PySem.F.slot_tuple_lt ⟨_, ho, rfl⟩ PySem.F.entry_tuple_lt (PySem.F.args_tuple_lt_2 _ _) (SeqAt.tuple_ltAt l b items items2 n n2 dd dd2 sl sl2 e r) ⟨ho, ho2, he, hr, h⟩
/-- one tuple against another, by tuple's own __lt__ -/
theorem oneLt_tup {xs ys : List PyData} {a b : Value} {as bs : List Addr} {Q : Bool → Shared → Prop} (ra : Reads s.heap a (.tuple xs) as) (rb : Reads s.heap b (.tuple ys) bs) (h : alike (.tuple xs) (.tuple ys) = true)
    (hu : A.units + min (PyData.tuple xs).depth (PyData.tuple ys).depth < cLine) (hq : Q (dataLt (.tuple xs) (.tuple ys)) s) : wpAny (model prog w) A (oneLt' true a b) Q E s := by
  have hal : alikeAll xs ys = true := by simpa [alike] using h
  cases ra with
  | @tuple l o vs n _ as₁ h1 h2 h3 h4 =>
    cases rb with
    | @tuple l' o' vs' n' _ bs₁ k1 k2 k3 k4 =>
      have n1 : vs.size = xs.length := by simpa using SeqAt.ReadsAll.length _ _ _ h4
      have n2 : vs'.size = ys.length := by simpa using SeqAt.ReadsAll.length _ _ _ k4
      rw [dataLt_tuple, ← firstLt_toks xs ys hal, ← n1, ← n2] at hq
      rw [oneLt'_eq]
      simp only [if_true]
      refine wpAny_bind (wpAny_cRoomFor (SeqAt.room_here hu) ?_)
      refine wpAny_bind (wpAny_callSpecialIfBound?_slot (T := "tuple") ⟨_, h1, h2⟩ PySem.F.slot_tuple_lt (call_tuple_lt (e := SeqAt.pairEq xs ys) (r := fun j => dataLt (xs.getD j .none) (ys.getD j .none)) ⟨_, h1, h2, _, h3⟩ ⟨_, k1, k2, _, k3⟩ (fun j j1 j2 => ?_) (fun j j1 j2 hj => ?_) ?_))
      · have := eqAt_alikeAll xs ys A.in1 s vs.toList vs'.toList _ _ h4 k4 hal (SeqAt.room_in hu) j (by simpa using j1) (by simpa using j2)
        simpa using this
      · have := rcLt_alikeAll xs ys A.in1 s vs.toList vs'.toList _ _ h4 k4 hal (SeqAt.room_in hu) j (by simpa using j1) (by simpa using j2) hj
        simpa using this
      · exact wpAny_truthy_bool hq
end
section
variable {M : Model} {A : Around} {E : Value → Shared → Prop} {s : Shared}
theorem tup_firsts : ∀ (vs : List Value) (ds : List PyData) {Q : List (Option Value) → Shared → Prop}, EachIs (fun v d => ∃ as, Reads s.heap v d as) vs ds → (∀ d, d ∈ ds → ∃ xs, d = .tuple xs) →
    (∀ fs : List (Option Value), fs.length = vs.length → (ds.head? = some (.tuple []) → fs[0]? = some none) → Q fs s) → wpAny M A (vs.mapM firstOfTuple') Q E s
  | _, _, _, .nil, _, h => by rw [List.mapM_nil]; exact wpAny_pure (h [] rfl fun z => by cases z)
  | _, _, Q, .cons (a := v) (b := d) (as := vs) (bs := ds) ⟨as, r⟩ t, ht, h => by
    obtain ⟨xs, rfl⟩ := ht d (List.mem_cons_self ..)
    rw [List.mapM_cons]
    refine wpAny_bind ?_
    rw [kas_first_eq]
    have lk := looks_reads (M := M) r
    cases r with
    | @tuple a o ys n _ _ ho hc hd hr =>
      refine wpAny_bind (lk.here ?_)
      rw [if_neg (by first | decide | simp [dataType])]
      refine wpAny_bind (listItems_at ho hd (wpAny_pure ?_))
      refine wpAny_bind (tup_firsts vs ds (Q := fun bs s' => wpAny M A (pure (ys[0]? :: bs)) Q E s') t (fun d hd => ht d (List.mem_cons_of_mem _ hd)) fun fs hl _ => wpAny_pure (h _ (by rw [List.length_cons, List.length_cons, hl]) fun z => ?_))
      have z' : PyData.tuple xs = .tuple [] := Option.some.inj z
      injection z' with z'
      subst z'
      have q : ys.toList = [] := by
        cases e : ys.toList with
        | nil => rfl
        | cons _ _ => rw [e] at hr; cases hr
      have q2 : ys[0]? = none := by rw [← Array.getElem?_toList, q]; rfl
      rw [q2]
      rfl
theorem tup_kind {vs : List Value} {ds : List PyData} {Q : SortKind → Shared → Prop} (h2 : 2 ≤ vs.length) (e : EachIs (fun v d => ∃ as, Reads s.heap v d as) vs ds) (ht : ∀ d, d ∈ ds → ∃ xs, d = .tuple xs) (h0 : ds.head? = some (.tuple [])) (h : Q oneType' s) :
    wpAny M A (keyKind' vs.toArray) Q E s := by
  rw [keyKind'_eq, List.mapM_toArray, map_eq_pure_bind]
  refine wpAny_bind (wpAny_bind (tup_firsts vs ds e ht fun fs hl hf => wpAny_pure ?_))
  have f0 := hf h0
  have e1 : fs.toArray.all (·.isSome) = false := by
    cases fs with
    | nil => simp at f0
    | cons f fr =>
      have : f = none := by simpa using f0
      subst this
      simp
  have e2 : ((fs.toArray[0]?).bind id).isSome = false := by
    have : fs.toArray[0]? = fs[0]? := by simp
    rw [this, f0]
    rfl
  rw [e1, e2, if_neg (by simp), if_neg (by simp)]
  rw [oneTypeOnly'_eq, List.mapM_toArray, map_eq_pure_bind]
  have hT : ∀ v ∈ vs, Looks M s.heap (typeOf v) (Value.type "tuple") := fun v hv => by
    obtain ⟨d, hd, as, r⟩ := e.left v hv
    obtain ⟨xs, rfl⟩ := ht d hd
    exact looks_reads r
  refine wpAny_bind (wpAny_bind (wpAny_bind (kas_mapM (r := Value.type "tuple") _ (fun v hv Q' hq => (hT v hv).here hq) (wpAny_pure ?_))))
  have hall : ((vs.map fun _ => Value.type "tuple").toArray.all fun x => x == Value.type "tuple") = true := by
    simp only [List.all_toArray, List.all_map, List.all_eq_true]
    intro _ _
    rfl
  have hh : (vs.map fun _ => Value.type "tuple").toArray[0]? = some (Value.type "tuple") := by
    cases vs with
    | nil => simp at h2
    | cons _ _ => simp
  rw [hh]
  simp only [hall, if_true]
  exact wpAny_pure (wpAny_pure h)
end
section
variable {prog : Program} {w : World} {A : Around} {s : Shared}
/-- tuples, the first one empty -/
theorem sortsAt_e {vs : List Value} {ds : List PyData} (e : EachIs (fun v d => ∃ as, Reads s.heap v d as) vs ds) (hal : AllAlike ds) (ht : ∀ d, d ∈ ds → ∃ xs, d = .tuple xs) (h0 : ds.head? = some (.tuple [])) (hu : ∀ d, d ∈ ds → A.units + d.depth < cLine) : SortsAt prog w A s (dataKind s.heap ds) vs := by
  have room : ∀ {d d' : PyData}, d ∈ ds → A.units + min d.depth d'.depth < cLine := fun {d d'} hd => Nat.lt_of_le_of_lt (Nat.add_le_add_left (Nat.min_le_left _ _) _) (hu d hd)
  refine ⟨fun v hv => ?_, oneType', ?_, fun h2 E Q hq => tup_kind h2 e ht h0 hq⟩
  · obtain ⟨d, hd, as, r⟩ := e.left v hv
    exact ⟨_, dataKind_some hal hd r⟩
  · intro E x y a b Q ha hb hq
    obtain ⟨d, as, hd, ra, rfl⟩ := dataKind_inv ha
    obtain ⟨d', as', hd', rb, rfl⟩ := dataKind_inv hb
    rw [keyLt'_oneType]
    obtain ⟨xs, rfl⟩ := ht d hd
    obtain ⟨ys, rfl⟩ := ht d' hd'
    exact oneLt_tup ra rb (hal _ hd _ hd') (room hd) hq
/-- what may be sorted: all alike; tuples with an item at least, or other things, or tuples the first one of which is empty -/
def SrtOk (ds : List PyData) : Prop := AllAlike ds ∧ (Sortable ds ∨ ((∀ d, d ∈ ds → ∃ xs, d = .tuple xs) ∧ ds.head? = some (.tuple []))) ∧ ∀ d, d ∈ ds → d.depth ≤ 10
theorem sortsAt_of {vs : List Value} {ds : List PyData} (e : EachIs (fun v d => ∃ as, Reads s.heap v d as) vs ds) (h : SrtOk ds) (hu : A.units + 20 < cLine) : SortsAt prog w A s (dataKind s.heap ds) vs := by
  obtain ⟨h1, h2, h3⟩ := h
  have hd : ∀ d, d ∈ ds → A.units + d.depth < cLine := fun d hd => by have := h3 d hd; omega
  rcases h2 with h2 | ⟨h2, h4⟩
  · exact SortsAt.data e h1 h2 hd
  · exact sortsAt_e e h1 h2 h4 hd
end
/-! ### the rule -/
section
variable {X : Cx}
/-- what sorted's argument gives -/
def Gives (X : Cx) (x : Value) (s : Shared) (its : List Value) : Prop := ∀ (A : Around) (E : Value → Shared → Prop) (Q : List Value → Shared → Prop), A.handled = none → (∀ h' tk, (∀ b o, s.heap.get? b = some o → h'.get? b = some o) → Q its { s with heap := h', toks := tk }) → wpAny (model X.prog X.w) A (collect x) Q E s
theorem each_of {C : Addr → Prop} {H : Hp} {β : Type} {enc : β → PyData} : ∀ {xs : List V} {us : List Value} {bs : List β}, Vals xs us → RepAll C H xs (bs.map enc) → EachIs (fun u b => ∃ x, RelV x u ∧ Rep C H x (enc b)) us bs
  | _, _, [], .nil, _ => .nil
  | _, _, [], .cons _ _, r => by cases r
  | _, _, b :: bs, .nil, r => by rw [List.map_cons] at r; cases r
  | _, _, b :: bs, .cons h t, r => by
    rw [List.map_cons] at r
    cases r with
    | cons r1 r2 => exact .cons ⟨_, h, r1⟩ (each_of t r2)
theorem of_each {C : Addr → Prop} {H : Hp} {β : Type} {enc : β → PyData} : ∀ {us : List Value} {bs : List β}, EachIs (fun u b => ∃ x, RelV x u ∧ Rep C H x (enc b)) us bs → ∃ xs, Vals xs us ∧ RepAll C H xs (bs.map enc)
  | _, _, .nil => ⟨[], .nil, .nil⟩
  | _, _, .cons ⟨x, h, r⟩ t => by
    obtain ⟨xs, h1, h2⟩ := of_each t
    exact ⟨x :: xs, .cons h h1, .cons r h2⟩
theorem sorted_run {C : Addr → Prop} {pins : List (Addr × Obj)} {σ : L2.St} {H : Hp} {s : Shared} {β : Type} {enc : β → PyData} {bs : List β} {x : Value} {xs : List V} {its : List Value} {Q : VK} (I : Inv X pins σ H s) (hc : X.calm = true) (hu : X.A.units + 64 < cLine)
    (G : Gives X x s its) (rv : Vals xs its) (ra : RepAll C H xs (bs.map enc)) (hok : SrtOk (bs.map enc)) (hlay : ∀ b, b ∈ bs → (enc b).canLay0 = true) (hL : bs.length ≤ sizeLine) (ht : Th C H)
    (q : ∀ p H', Same H H' → Rep C H' (.ref p) (.list ((bs.mergeSort (dataLe false enc)).map enc)) → Q (.ref p) H') : wpAny (model X.prog X.w) X.A (PySem.call (.builtin "sorted") [x]) (EP X pins σ Q) X.xe s := by
  have hh : X.A.handled = none := I.ok.hd hc
  have hlen : its.length = bs.length := by rw [← rv.length, ra.length, List.length_map]
  refine Calls.call_function_entry PyProof.Rows.kind_sorted PyProof.Rows.plain_sorted PyProof.Rows.entry_sorted (PyProof.Rows.args_sorted1 _) ?_
  unfold Builtin.«sorted»
  refine wpAny_bind (m := checkCount "sorted" 1 1 _) (wpAny_pure ?_)
  refine wpAny_bind (G X.A.in1 _ _ hh fun h' tk hk => ?_)
  have I1 : Inv X pins σ H { s with heap := h', toks := tk } := I.kept hk
  refine wpAny_bind (wpAny_newList ?_ (by rw [hlen]; exact hL))
  have hoL : (h'.push (seqObj "list" its.toArray 0)).get? h'.objs.size = some (seqObj "list" its.toArray 0) := Heap.get?_push_size _ rfl
  show wpAny _ _ _ _ _ { s with heap := h'.push (seqObj "list" its.toArray 0), toks := tk }
  have hE := each_of (enc := enc) rv ra
  have hdp : EachIs (fun v b => ∃ as, Reads h' v (enc b) as) its bs := (each_mem hE).mono fun v b ⟨⟨y, r1, r2⟩, hb⟩ => Dp.reads I1 (enc b) y v (r2.dp (hlay b hb)) r1
  have keep : ∀ b o, h'.get? b = some o → (sortingHeap (h'.push (seqObj "list" its.toArray 0)) h'.objs.size its).get? b = some o := fun b o e =>
    sortingHeap_old (Nat.ne_of_lt (Heap.lt_size e)) (Heap.get?_push_of_some _ e)
  have hdp2 : EachIs (fun v b => ∃ as, Reads (sortingHeap (h'.push (seqObj "list" its.toArray 0)) h'.objs.size its) v (enc b) as) its bs := hdp.mono fun v b ⟨as, r⟩ => ⟨as, PyProof.Rows.Reads.keeps keep r⟩
  have S : SortsAt X.prog X.w X.A.in1.in1 { s with heap := sortingHeap (h'.push (seqObj "list" its.toArray 0)) h'.objs.size its, toks := tk } (dataKind (sortingHeap (h'.push (seqObj "list" its.toArray 0)) h'.objs.size its) (bs.map enc)) its :=
    sortsAt_of (s := { s with heap := sortingHeap (h'.push (seqObj "list" its.toArray 0)) h'.objs.size its, toks := tk }) (each_map (R := fun v d => ∃ as, Reads (sortingHeap (h'.push (seqObj "list" its.toArray 0)) h'.objs.size its) v d as) enc hdp2) hok (by show X.A.units + 1 + 1 + 20 < cLine; omega)
  refine wpAny_bind (wpAny_holding (wpAny_call_entry PyProof.Rows.slot_list_sort ⟨_, hoL, rfl⟩ PyProof.Rows.entry_list_sort
    (list_sort_vals (s := { s with heap := h'.push (seqObj "list" its.toArray 0), toks := tk }) hoL S (by rw [hlen]; exact hL) ⟨_, rfl, ?_⟩) (PyProof.Rows.args_list_sort _)))
  have hout := sortVals_data (h' := sortingHeap (h'.push (seqObj "list" its.toArray 0)) h'.objs.size its) false hE hdp2 hok.1
  obtain ⟨ys, y1, y2⟩ := of_each hout
  obtain ⟨e', he'⟩ := PyProof.Rows.sortedHeap_at (vs := its) (out := (sortVals (dataKind (sortingHeap (h'.push (seqObj "list" its.toArray 0)) h'.objs.size its) (bs.map enc)) false its its).toArray) hoL
  have hn : H h'.objs.size = none := I1.hok.fresh (Nat.le_refl _)
  have hz : ys.length ≤ sizeLine := by rw [y2.length, List.length_map, List.length_mergeSort]; exact hL
  refine wpAny_pure ⟨_, rfl, .ref h'.objs.size, upd H h'.objs.size (.lst ys), I1.laid (t' := tk) (fun b u e => ?_) (Nat.le_refl _)
    (show ObjOk X.prog X.w _ _ _ (.lst ys) from ⟨hz, _, e', y1, he'⟩), rfl, q _ _ (same_new hn) (.lst (ht.fresh hn) upd_same (y2.same (same_new hn)))⟩
  have hb : b < h'.objs.size := Heap.lt_size e
  rw [PyProof.Rows.sortedHeap_old (Nat.ne_of_lt hb) (by rw [size_push']; exact Nat.lt_succ_of_lt hb)]
  exact Heap.get?_push_of_some _ e
theorem gives_list {pins : List (Addr × Obj)} {σ : L2.St} {H : Hp} {s : Shared} {a : Addr} {xs : List V} (I : Inv X pins σ H s) (h : H a = some (.lst xs)) : ∃ its, Vals xs its ∧ Gives X (.ref a) s its := by
  obtain ⟨its, rv, ⟨o, n, ho, hc, hd, hdat⟩, hz⟩ := I.list (SqL.of h)
  refine ⟨its, rv, fun A E Q hh k => wpAny_collect_seq a (.inl rfl) ho hc hdat (fun h' hk => ?_) (by rw [List.size_toArray, ← rv.length]; exact hz)⟩
  exact k h' s.toks hk
theorem gives_tup {pins : List (Addr × Obj)} {σ : L2.St} {H : Hp} {s : Shared} {a : Addr} {xs : List V} (I : Inv X pins σ H s) (h : H a = some (.tup xs)) : ∃ its, Vals xs its ∧ Gives X (.ref a) s its := by
  obtain ⟨its, rv, ⟨o, ho, hc, n, hdat⟩, hz⟩ := I.tuple (SqT.of h)
  refine ⟨its, rv, fun A E Q hh k => wpAny_collect_seq a (.inr rfl) ho hc hdat (fun h' hk => ?_) (by rw [List.size_toArray, ← rv.length]; exact hz)⟩
  exact k h' s.toks hk
def rSrt (C : Addr → Prop) {β : Type} (enc : β → PyData) (bs : List β) : List V → Hp → VK → Prop := fun vs H Q => ∃ a xs, vs = [.ref a] ∧ (H a = some (.lst xs) ∨ H a = some (.tup xs)) ∧ RepAll C H xs (bs.map enc) ∧ SrtOk (bs.map enc) ∧ (∀ b, b ∈ bs → (enc b).canLay0 = true) ∧ bs.length ≤ sizeLine ∧ Th C H ∧
  ∀ p H', Same H H' → Rep C H' (.ref p) (.list ((bs.mergeSort (dataLe false enc)).map enc)) → Q (.ref p) H'
theorem cr_srt {C : Addr → Prop} {β : Type} {enc : β → PyData} {bs : List β} (hc : X.calm = true) (hu : X.A.units + 64 < cLine) : CallR X (.builtin "sorted") (rSrt C enc bs) := by
  intro pins s σ H vs us Q I r h
  obtain ⟨a, xs, rfl, hx, ra, h1, h2, h3, h4, q⟩ := h
  obtain ⟨u, rfl, rx⟩ := vals1 r
  cases rx
  obtain ⟨its, rv, G⟩ : ∃ its, Vals xs its ∧ Gives X (.ref a) s its := hx.elim (fun h => gives_list I h) fun h => gives_tup I h
  exact sorted_run I hc hu G rv ra h1 h2 h3 h4 q
end
end T2

set_option Elab.async false
set_option linter.all false
set_option maxRecDepth 100000
set_option maxHeartbeats 4000000
/-! TbR: dicts whose keys are pairs of ints: dict(pairs), {**a, **b}, look-ups. -/
namespace T2
open PySem PySem.Spec PySem.W PyProof.Rows L2
/-! ### {**a, **b} at the machine's level -/
section
variable {prog : Program} {w : World} {K : Type} [DecidableEq K] {knd : HeapKind prog w K} {A : Around} {E : Value → Shared → Prop} {s : Shared}
theorem wpAny_dictPut_heap {d a : Addr} {xs : List (K × Addr × Value)} {k : K} {v : Value} {Q : Unit → Shared → Prop} (hu : knd.room A) (hkey : knd.is s.heap k a) (hm : s.heap.DictOfH knd d xs)
    (hQ : ∀ h', h'.DictOfH knd d (storedH xs k a v) → Heap.SameBut d s.heap h' → Q () { s with heap := h' }) (hsz : xs.length ≤ sizeLine) :
    wpAny (model prog w) A (dictPut d (knd.hash k) (.ref a) v) Q E s := by
  obtain ⟨o, es, ep, ho, hc, hd, he, his, hn⟩ := hm
  unfold dictPut
  refine wpAny_bind (wpAny_dictFind_heap hu hkey ho hd he his hn ?_ ?_)
  · intro hno
    have hnot : k ∉ xs.map (·.1) := not_mem_keys_of_get hno
    refine wpAny_updateDictKeys (hz := by have e := size_of_entries he; omega) ho hd (hQ _ ⟨_, _, ep + 1, Heap.get?_update_self _ ho (Obj.isFreed_of_dict (Obj.data_mapDictKeys hd _)),
      hc.mapDictKeys _, Obj.data_mapDictKeys hd _, ?_, ?_, ?_⟩ (Heap.SameBut.update ..))
    · rw [storedH_new (atKey_none_of_get hno)]
      simp [he, entryOfKey]
    · rw [storedH_new (atKey_none_of_get hno)]
      intro x hx
      rcases List.mem_append.mp hx with hx | hx
      · exact knd.keeps (his x hx) ho hd (Heap.SameBut.update ..)
      · simp only [List.mem_singleton] at hx
        subst hx
        exact knd.keeps hkey ho hd (Heap.SameBut.update ..)
    · rw [storedH_new (atKey_none_of_get hno)]
      rw [List.map_append, List.nodup_append]
      refine ⟨hn, by simp, ?_⟩
      intro x hx y hy
      simp only [List.map_cons, List.map_nil, List.mem_singleton] at hy
      subst hy
      exact fun e => hnot (e ▸ hx)
  · intro j p hj
    refine wpAny_updateDict ho hd (hQ _ ⟨_, _, ep, Heap.get?_update_self _ ho (Obj.isFreed_of_dict (Obj.data_mapDict hd _)),
      hc.mapDict _, Obj.data_mapDict hd _, ?_, ?_, ?_⟩ (Heap.SameBut.update ..))
    · rw [storedH_old (atKey_of_get hn hj)]
      have := modify_map_putAt (entryOfKey knd) (fun e : DictEntry => { e with val := v }) k v (fun _ _ => rfl) hn hj
      rw [← he] at this
      obtain ⟨l⟩ := es
      simpa using this
    · rw [storedH_old (atKey_of_get hn hj)]
      intro x hx
      obtain ⟨y, hy, rfl⟩ := List.mem_map.mp hx
      unfold putAt
      split <;> exact knd.keeps (his y hy) ho hd (Heap.SameBut.update ..)
    · rw [storedH_old (atKey_of_get hn hj)]
      rw [keys_map_putAt]; exact hn
theorem wpAny_mergeMapping_heap {d o : Addr} {kvs more : List (K × Addr × Value)} {Q : Unit → Shared → Prop} (hu : knd.room A) (hdo : d ≠ o) (hoS : (o == sysModules) = false)
    (hd : s.heap.DictOfH knd d kvs) (ho : s.heap.DictOfH knd o more) (hty : ∀ x ∈ more, s.TypeIs (.ref x.2.1) "tuple") (hap : (more.map fun x => knd.hash x.1).Nodup)
    (hQ : ∀ h', h'.DictOfH knd d (storedAllH kvs more) → h'.DictOfH knd o more → Heap.SameBut d s.heap h' → Q () { s with heap := h' })
    (hsz : kvs.length + more.length ≤ sizeLine) :
    wpAny (model prog w) A (mergeMapping d (.ref o) false) Q E s := by
  obtain ⟨od, esd, epd, hod, hcd, hdd, hed, hisd, hnd⟩ := id hd
  obtain ⟨oo, eso, epo, hoo, hco, hdo', heo, hiso, hno⟩ := id ho
  have hlen : eso.size = more.length := size_of_entries heo
  refine (fun (loop : wpAny (model prog w) A ?code Q E s) => ?main) ?loop
  case main =>
    unfold mergeMapping
    refine wpAny_bind (wpAny_isInstance ho.typeIs isSubtype_dict_dict ?_)
    rw [if_pos rfl]
    refine wpAny_bind (wpAny_specialOf ho.typeIs PySem.F.slot_dict_iter.lookup ?_)
    refine wpAny_bind (wpAny_pure ?_)
    simp only [beq_self_eq_true]
    rw [if_neg (by rw [hoS]; exact Bool.false_ne_true)]
    refine wpAny_bind (wpAny_dictEntries hod hdd ?_)
    split
    · refine wpAny_bind (wpAny_dictEntries hoo hdo' ?_)
      refine wpAny_bind ?_
      rw [← Array.forIn_toList]
      refine wpAny_forIn_list _ (fun rest _ s' => s' = s ∧ ∀ e ∈ rest, e ∈ eso.toList) _ ?_ (fun b s' h => by rw [h.1]; exact loop) _ _ ⟨rfl, fun e h => h⟩
      rintro e rest b s' ⟨rfl, hm⟩
      have hp := keysApart heo hty hap e (hm e List.mem_cons_self)
      rcases hp with hp | ⟨a, ea, hta, hle⟩
      · have he : e ∈ eso.toList := hm e List.mem_cons_self
        rw [heo] at he
        obtain ⟨x, hx, rfl⟩ := List.mem_map.mp he
        exact absurd hp (by simp [entryOfKey, carriedByValue])
      · rw [ea]
        refine wpAny_bind (wpAny_specialOf hta PySem.F.slot_tuple_eq.lookup ?_)
        rw [if_pos (by decide), if_neg (by omega)]
        exact wpAny_pure ⟨rfl, fun y hy => hm y (List.mem_cons_of_mem _ hy)⟩
    · exact loop
  case loop =>
    refine wpAny_bind (wpAny_dictEntries hoo hdo' ?_)
    refine wpAny_bind (wpAny_dictEpoch hoo hdo' ?_)
    refine wpAny_bind ?_
    refine wpAny_forIn_list _
      (fun rest _ s' => ∃ h' i, s' = { s with heap := h' } ∧ rest = List.range' i (eso.size - i) ∧ i ≤ eso.size ∧ h'.DictOfH knd d (storedAllH kvs (more.take i)) ∧ h'.DictOfH knd o more ∧ h'.get? o = some oo ∧ Heap.SameBut d s.heap h')
      _ ?_ ?_ _ _ ⟨s.heap, 0, rfl, by rw [Nat.sub_zero, List.range_eq_range'], Nat.zero_le _, by simpa [storedAllH] using hd, ho, hoo, Heap.SameBut.refl _ _⟩
    · rintro x rest b s' ⟨h', i, rfl, hr, hi, hd', ho', hoo', hs'⟩
      have hlt : i < eso.size := by
        rcases Nat.lt_or_ge i eso.size with h | h
        · exact h
        · rw [Nat.sub_eq_zero_of_le h] at hr; simp at hr
      obtain ⟨rfl, hrest⟩ : x = i ∧ rest = List.range' (i + 1) (eso.size - (i + 1)) := by
        have e : eso.size - i = (eso.size - (i + 1)) + 1 := by omega
        rw [e, List.range'_succ] at hr
        injection hr with h1 h2
        exact ⟨h1, h2⟩
      refine wpAny_bind (wpAny_dictEntries hoo' hdo' ?_)
      obtain ⟨⟨k, a, v⟩, hkv⟩ : ∃ kv, more[x]? = some kv := ⟨more[x]'(by rw [← hlen]; exact hlt), List.getElem?_eq_getElem _⟩
      rw [entry_at heo x, hkv]
      show wpAny _ _ (holding [.ref a, v] (dictPut d (knd.hash k) (.ref a) v) >>= _) _ _ _
      have hmx : (storedAllH kvs (more.take x)).length ≤ sizeLine := by
        have e1 := storedAllH_length (more.take x) kvs
        have e2 : (more.take x).length ≤ more.length := by rw [List.length_take]; omega
        omega
      have hkey : knd.is h' k a := by
        obtain ⟨_, _, _, _, _, _, _, his', _⟩ := ho'
        exact his' (k, a, v) (List.mem_of_getElem? hkv)
      refine wpAny_bind (wpAny_holding (wpAny_dictPut_heap (s := { s with heap := h' }) (hsz := hmx) hu hkey hd' fun h'' hd'' hs'' => ?_))
      have hoo'' : h''.get? o = some oo := (hs''.2 o (Ne.symm hdo)).trans hoo'
      refine wpAny_bind (wpAny_dictEpoch hoo'' hdo' ?_)
      rw [if_neg (by simp)]
      exact wpAny_pure ⟨h'', x + 1, rfl, hrest, hlt, by rw [storedAllH_take_succ kvs more x (k, a, v) hkv]; exact hd'', ho'.notHere hd' hdo hs'', hoo'', hs'.trans hs''⟩
    · rintro b s' ⟨h', i, rfl, hr, hi, hd', ho', hoo', hs'⟩
      have hin : i = eso.size := by
        rcases Nat.lt_or_ge i eso.size with h | h
        · have e : eso.size - i = (eso.size - (i + 1)) + 1 := by omega
          rw [e, List.range'_succ] at hr; exact nomatch hr
        · exact Nat.le_antisymm hi h
      refine wpAny_pure (hQ h' ?_ ho' hs')
      rw [hin, hlen, List.take_length] at hd'; exact hd'
end

/-! ### dicts whose keys are pairs of ints -/
abbrev IP := Int × Int
def pk (p : IP) : List Key := [.inl p.1, .inl p.2]
def encP (p : IP) : PyData := .tuple [.int p.1, .int p.2]
def dictD (kvs : List (IP × PyData)) : List (PyData × PyData) := kvs.map fun e => (encP e.1, e.2)
theorem pk_inj {p q : IP} (h : pk p = pk q) : p = q := by
  unfold pk at h
  simp only [List.cons.injEq, Sum.inl.injEq, and_true] at h
  exact Prod.ext h.1 h.2
theorem Rep.pair {C : Addr → Prop} {H : Hp} {v : V} {p : IP} (r : Rep C H v (encP p)) : ∃ b, v = .ref b ∧ H b = some (.tup ((pk p).map kV)) := by
  obtain ⟨i, j⟩ := p
  cases r with
  | tup hc hx hr =>
    obtain ⟨x, y, rfl, r1, r2⟩ := rep2 hr
    cases r1
    cases r2
    exact ⟨_, rfl, hx⟩
theorem RepKs.length {C : Addr → Prop} {H : Hp} : ∀ {ks : List (List Key × V)} {ds : List (PyData × PyData)}, RepKs C H ks ds → ks.length = ds.length
  | _, _, .nil => rfl
  | _, _, .cons _ t => congrArg Nat.succ (RepKs.length t)
theorem RepKs.append {C : Addr → Prop} {H : Hp} : ∀ {ks js : List (List Key × V)} {ds es : List (PyData × PyData)}, RepKs C H ks ds → RepKs C H js es → RepKs C H (ks ++ js) (ds ++ es)
  | _, _, _, _, .nil, s => s
  | _, _, _, _, .cons h t, s => .cons h (RepKs.append t s)
theorem repKs_pk {C : Addr → Prop} {H : Hp} {p : IP} {v : V} {d : PyData} {ks : List (List Key × V)} {ds : List (PyData × PyData)} (h : Rep C H v d) (t : RepKs C H ks ds) : RepKs C H ((pk p, v) :: ks) ((encP p, d) :: ds) := .cons h t
/-- what a list of (pair, value) stands for -/
theorem pairs_at {C : Addr → Prop} {X : Cx} {pins : List (Addr × Obj)} {σ : L2.St} {H : Hp} {s : Shared} (I : Inv X pins σ H s) : ∀ {xs : List V} {its : List Value} {kvs : List (IP × PyData)}, Vals xs its → RepAll C H xs (kvs.map fun e => .tuple [encP e.1, e.2]) →
    ∃ (ts : List Addr) (ps : List (List Key × Addr × Value)) (ks : List (List Key × V)), its = ts.map Value.ref ∧ ts.length = ps.length ∧ ps.map (·.1) = kvs.map (fun e => pk e.1) ∧ KT H ks ps ∧ RepKs C H ks (dictD kvs) ∧ ks.map (·.1) = kvs.map (fun e => pk e.1) ∧
      (∀ (j : Nat) (k : List Key) (b : Addr) (v : Value), ps[j]? = some (k, b, v) → ∃ t, ts[j]? = some t ∧ PairAt s.heap t (.ref b) v) ∧ ∀ x ∈ ps, (tupleKind (mixKind X.prog X.w)).is s.heap x.1 x.2.1
  | _, _, [], .nil, _ => ⟨[], [], [], rfl, rfl, rfl, .nil, .nil, rfl, fun j k b v h => by simp at h, fun x h => by simp at h⟩
  | _, _, [], .cons _ _, r => by cases r
  | _, _, e :: kvs, .nil, r => by rw [List.map_cons] at r; cases r
  | _, _, (p, d) :: kvs, .cons (b := u) h t, r => by
    rw [List.map_cons] at r
    cases r with
    | cons r1 r2 =>
      obtain ⟨ts, ps, ks, e1, e2, e3, k1, k2, e4, at_, st⟩ := pairs_at I t r2
      cases r1 with
      | @tup a ys _ hc hx hr =>
        obtain ⟨x, y, rfl, ra, rb⟩ := rep2 hr
        obtain ⟨b, rfl, hb⟩ := Rep.pair ra
        have hu : u = Value.ref a := h
        subst hu
        obtain ⟨z, its2, rv, pt⟩ := (show ObjOk X.prog X.w H s.heap a (.tup [.ref b, y]) from I.hok a _ hx)
        cases rv with
        | cons h1 t1 =>
          cases t1 with
          | @cons _ v _ _ h2 t2 =>
            cases t2
            have h1 : _ = Value.ref b := h1
            subst h1
            refine ⟨a :: ts, (pk p, b, v) :: ps, (pk p, y) :: ks, by rw [e1]; rfl, by simp [e2], by rw [List.map_cons, e3]; rfl, .cons ⟨rfl, hb, h2⟩ k1, repKs_pk rb k2, by rw [List.map_cons, e4]; rfl, fun j k b' v' hj => ?_, fun x hx => ?_⟩
            · cases j with
              | zero =>
                simp only [List.getElem?_cons_zero, Option.some.injEq, Prod.mk.injEq] at hj
                obtain ⟨rfl, rfl, rfl⟩ := hj
                obtain ⟨o, o1, o2, n, o3⟩ := pt
                exact ⟨a, rfl, .inl ⟨o, o1, o2, n, o3⟩⟩
              | succ j =>
                obtain ⟨t', q1, q2⟩ := at_ j k b' v' (by simpa using hj)
                exact ⟨t', by simpa using q1, q2⟩
            · rcases List.mem_cons.mp hx with rfl | hx
              · exact key_of I.hok hb
              · exact st x hx
theorem nodup_pk {l : List IP} (h : l.Nodup) : (l.map pk).Nodup := List.Pairwise.map pk (fun _ _ h e => h (pk_inj e)) h
section
variable {X : Cx} {C : Addr → Prop}
/-- dict(xs), xs a list of pairs (pair of ints, value) -/
def rDictP (C : Addr → Prop) (kvs : List (IP × PyData)) : List V → Hp → VK → Prop := fun vs H Q => ∃ a xs, vs = [.ref a] ∧ H a = some (.lst xs) ∧ RepAll C H xs (kvs.map fun e => .tuple [encP e.1, e.2]) ∧ (kvs.map (·.1)).Nodup ∧ kvs.length ≤ sizeLine ∧
  ∀ p ks, H p = none → RepKs C H ks (dictD kvs) → ks.map (·.1) = kvs.map (fun e => pk e.1) → Q (.ref p) (upd H p (.dT ks))
theorem cr_dictP {kvs : List (IP × PyData)} (hc : X.calm = true) (hu : X.A.units + 64 < cLine) : CallR X (.type "dict") (rDictP C kvs) := by
  intro pins s σ H vs us Q I r h
  obtain ⟨a, xs, rfl, hx, ra, hnd, hz, q⟩ := h
  obtain ⟨u, rfl, rx⟩ := vals1 r
  cases rx
  obtain ⟨its, rv, ⟨o, n, ho, hcl, hd, hdat⟩, _⟩ := I.list (SqL.of hx)
  obtain ⟨ts, ps, ks, e1, e2, e3, k1, k2, e4, at_, st⟩ := pairs_at I rv ra
  have lp : ps.length = kvs.length := by have := congrArg List.length e3; simpa using this
  have lk : ks.length = kvs.length := by have := congrArg List.length e4; simpa using this
  have nd : (ps.map (·.1)).Nodup := by
    rw [e3]
    have := nodup_pk hnd
    rwa [List.map_map] at this
  let pv : List (Value × Value) := ps.map fun x => (.ref x.2.1, x.2.2)
  have hpi : PairItems s.heap its.toArray (fun j => (ts[j]?).getD 0) pv := by
    refine ⟨by simp [pv, e1, e2], fun j k v hj => ?_⟩
    have hj : (ps[j]?).map (fun x => ((.ref x.2.1, x.2.2) : Value × Value)) = some (k, v) := by simpa [pv] using hj
    cases e : ps[j]? with
    | none => rw [e] at hj; cases hj
    | some x =>
      obtain ⟨k', b, v'⟩ := x
      rw [e] at hj
      cases hj
      obtain ⟨t, t1, t2⟩ := at_ j _ _ _ e
      have q1 : (ts[j]?).getD 0 = t := by rw [t1]; rfl
      show its.toArray[j]? = some (Value.ref ((ts[j]?).getD 0)) ∧ PairAt s.heap ((ts[j]?).getD 0) _ _
      rw [q1]
      refine ⟨?_, t2⟩
      rw [e1, List.getElem?_toArray, List.getElem?_map, t1]
      rfl
  have lv : pv.length = kvs.length := by simp [pv, lp]
  refine call_dict_pairsH (knd := tupleKind (mixKind X.prog X.w)) (ps := ps) (PairArg.list a its.toArray (fun j => (ts[j]?).getD 0) pv) (I.ok.hd hc) (show X.A.units + 1 + 1 < cLine by omega) ⟨⟨o, n, ho, hcl, hd, hdat⟩, hpi⟩ ⟨by simp [pv], fun i key v hr => ?_⟩ (fun h' hk x hx => ?_) (by rw [lv]; exact hz) fun h' tk hd' hk => ?_
  · have hr : (ps[i]?).map (fun x => ((.ref x.2.1, x.2.2) : Value × Value)) = some (key, v) := by simpa [pv, PairRel] using hr
    cases e : ps[i]? with
    | none => rw [e] at hr; cases hr
    | some x =>
      obtain ⟨k', b, v'⟩ := x
      rw [e] at hr
      cases hr
      exact ⟨k', b, rfl, rfl⟩
  · exact tupleKind_stays.stays (fun b o' vs n e _ => hk b o' (Nat.ne_of_lt (Heap.lt_size e)) (by simp) e) (st x hx)
  · have hn : H s.heap.objs.size = none := I.hok.fresh (Nat.le_refl _)
    rw [storedAllH_nil_of_nodup ps nd] at hd'
    obtain ⟨od, es, ep, o1, o2, o3, o4, o5, o6⟩ := hd'
    refine ⟨.ref s.heap.objs.size, upd H s.heap.objs.size (.dT ks), I.laid (t' := tk) (fun b u e => hk b u (by simp) e) (Nat.le_refl _)
      (show ObjOk X.prog X.w _ _ _ (.dT ks) from ⟨by rw [lk]; exact hz, beq_eq_false_iff_ne.mpr (Ne.symm (Nat.ne_of_lt I.big)), ps, k1.keeps fun b ys e => by rw [upd_ne (ne_of_none e hn)]; exact e, od, es, ep, o1, o2, o3, o4, o6⟩), rfl, q _ ks hn k2 e4⟩
theorem RepKs.same {H H' : Hp} {ks : List (List Key × V)} {ds : List (PyData × PyData)} (e : Same H H') (h : RepKs C H ks ds) : RepKs C H' ks ds := h.mono (toB e)
theorem rc_dictP {kvs : List (IP × PyData)} (hnd : (kvs.map (·.1)).Nodup) (hz : kvs.length ≤ sizeLine) : RDc C (rDictP C kvs) [.list (kvs.map fun e => .tuple [encP e.1, e.2])] (.dict (dictD kvs)) := fun H vs ht r Q k => by
  obtain ⟨v, rfl, h⟩ := rep1 r
  cases h with
  | lst hcc hx hr => exact ⟨_, _, rfl, hx, hr, hnd, hz, fun p ks hp k1 k2 => k _ _ (same_new hp) (.dic (ht.fresh hp) upd_same (k1.same (same_new hp)))⟩
end

/-! ### {**x, **dict(y)} -/
section
variable {X : Cx} {C : Addr → Prop} {Γ : List Sd} {e a b c : Expr} {d : PyData} {pos : Pos}

theorem spread_walk {prog : Program} {w : World} {A : Around} {E : Value → Shared → Prop} {s : Shared} {t1 t2 : Sem Value} {Q : Value → Shared → Prop}
    (h : wpAny (model prog w) A t1 (fun m s1 => wpAny (model prog w) A (mergeMapping s.heap.objs.size m false) (fun _ s2 => wpAny (model prog w) A t2 (fun m2 s3 => wpAny (model prog w) A (mergeMapping s.heap.objs.size m2 false) (fun _ s4 => Q (.ref s.heap.objs.size) s4) (fun _ _ => False) s3) E s2) (fun _ _ => False) s1) E
      { s with heap := s.heap.push { cls := .type "dict", data := .dict #[] } }) : wpAny (model prog w) A (dictDisplay [(none, t1), (none, t2)]) Q E s := by
  unfold dictDisplay
  simp only [List.forIn_cons, List.forIn_nil, List.isEmpty_nil, if_true, pure_bind, bind_assoc]
  refine wpAny_bind (wpAny_alloc ?_)
  refine wpAny_bind (wpAny_holding (wpAny_mono h (fun m s1 h1 => ?_) fun _ _ x => x))
  refine wpAny_bind (wpAny_onRaise (wpAny_tryCatch (wpAny_onRaise (wpAny_holding (wpAny_mono h1 (fun _ s2 h2 => ?_) fun _ _ x => x.elim)))))
  refine wpAny_bind (wpAny_holding (wpAny_mono h2 (fun m2 s3 h3 => ?_) fun _ _ x => x))
  refine wpAny_bind (wpAny_onRaise (wpAny_tryCatch (wpAny_onRaise (wpAny_holding (wpAny_mono h3 (fun _ s4 h4 => ?_) fun _ _ x => x.elim)))))
  exact wpAny_pure h4

/-- keys whose hashes lie apart -/
def HAp (P : Program) (w : World) (ks : List (List Key × V)) : Prop := (ks.map fun x => (tupleKind (mixKind P w)).hash x.1).Nodup
def tSpread (P : Program) (w : World) (ta tb : TE) : TE := fun σ H Q => ∀ p, H p = none → ta σ (upd H p (.dT [])) fun v H1 => ∃ q ks, v = .ref q ∧ q ≠ p ∧ H1 p = some (.dT []) ∧ H1 q = some (.dT ks) ∧ (ks.map (·.1)).Nodup ∧ HAp P w ks ∧
  tb σ (upd H1 p (.dT ks)) fun u H2 => ∃ q2 ks2, u = .ref q2 ∧ q2 ≠ p ∧ H2 p = some (.dT ks) ∧ H2 q2 = some (.dT ks2) ∧ HAp P w ks2 ∧ ((ks ++ ks2).map (·.1)).Nodup ∧ (ks ++ ks2).length ≤ sizeLine ∧ Q (.ref p) (upd H2 p (.dT (ks ++ ks2)))
theorem KT.fst {H : Hp} {ks : List (List Key × V)} {ps : List (List Key × Addr × Value)} (r : KT H ks ps) : ps.map (·.1) = ks.map (·.1) := by
  induction r with
  | nil => rfl
  | cons h t ih => rw [List.map_cons, List.map_cons, ih, h.1]
theorem KT.append {H : Hp} {ks js : List (List Key × V)} {ps qs : List (List Key × Addr × Value)} (r : KT H ks ps) (t : KT H js qs) : KT H (ks ++ js) (ps ++ qs) := by
  induction r with
  | nil => exact t
  | cons h _ ih => exact .cons h ih
theorem KT.hash {H : Hp} {P : Program} {w : World} {ks : List (List Key × V)} {ps : List (List Key × Addr × Value)} (r : KT H ks ps) (h : HAp P w ks) : (ps.map fun x => (tupleKind (mixKind P w)).hash x.1).Nodup := by
  have e : (ps.map fun x => (tupleKind (mixKind P w)).hash x.1) = (ps.map (·.1)).map (tupleKind (mixKind P w)).hash := by rw [List.map_map] <;> rfl
  have e' : (ks.map fun x => (tupleKind (mixKind P w)).hash x.1) = (ks.map (·.1)).map (tupleKind (mixKind P w)).hash := by rw [List.map_map] <;> rfl
  unfold HAp at h
  rw [e, KT.fst r, ← e']
  exact h
theorem pe_spread {ta tb : TE} (hu : X.A.units + 64 < cLine) (ha : PE X a ta) (hb : PE X b tb) : PE X (.Dict [none, none] [a, b] pos) (tSpread X.prog X.w ta tb) := by
  refine ⟨fun pins s σ H Q I h => ?_⟩
  have hn := I.hok.fresh (Nat.le_refl s.heap.objs.size)
  have room : (tupleKind (mixKind X.prog X.w)).room X.A := show X.A.units < cLine by omega
  rw [arm_eval_Dict]
  refine wpAny_bind (wpAny_standAt ?_)
  show wpAny _ _ (dictDisplay [(none, (eval a X.env >>= fun x => standAt pos >>= fun _ => pure x)), (none, (eval b X.env >>= fun x => standAt pos >>= fun _ => pure x))]) _ _ _
  refine spread_walk ?_
  have I1 := I.laid (a := s.heap.objs.size) (o := .dT []) (h' := s.heap.push { cls := .type "dict", data := .dict #[] }) (t' := s.toks) (fun _ _ q => Heap.get?_push_of_some _ q) (Nat.le_refl _) (dt_empty s.heap I.big)
  refine wpAny_bind (thn (ha.run pins _ σ _ _ I1 (h _ hn)) fun u s2 ⟨x, H1, I2, rx, q, ks, ex, hq, hp, hd, hnd, hap, k⟩ => ?_)
  subst ex
  obtain rfl : u = Value.ref q := rx
  refine wpAny_bind (wpAny_standAt (wpAny_pure ?_))
  obtain ⟨z, oS, ps, kt, dd⟩ := dt_of I2.hok hd
  obtain ⟨z0, oS0, ps0, kt0, dd0⟩ := dt_of I2.hok hp
  cases kt0
  have lp : ps.length = ks.length := (Paired.length kt).symm
  have typ : ∀ {s : Shared} {q : Addr} {ps : List (List Key × Addr × Value)}, s.heap.DictOfH (tupleKind (mixKind X.prog X.w)) q ps → ∀ x ∈ ps, s.TypeIs (.ref x.2.1) "tuple" := fun d x hx => by
    obtain ⟨_, _, _, _, _, _, _, his, _⟩ := d
    exact tupleKind_stays.tuple (his x hx)
  refine wpAny_mergeMapping_heap (s := s2) room (Ne.symm hq) oS dd0 dd (typ dd) (KT.hash kt hap) (fun h' d1 d2 sb => ?_) (by rw [List.length_nil, lp]; omega)
  rw [storedAllH_nil_of_nodup ps (by rw [KT.fst kt]; exact hnd)] at d1
  have he : ∃ q, h'.get? s.heap.objs.size = some q := let ⟨q, _, _, hq, _⟩ := d1; ⟨q, hq⟩
  have I3 : Inv X pins σ (upd H1 s.heap.objs.size (.dT ks)) { s2 with heap := h' } := by
    obtain ⟨od, es, ep, o1, o2, o3, o4, _, o6⟩ := d1
    exact d_write (t' := s2.toks) I2 (by rw [hp]; exact True.intro) sb he ⟨z, oS0, ps, kt.keeps fun b ys e => by rw [upd_ne (ne_of e hp (fun z => nomatch z))]; exact e, od, es, ep, o1, o2, o3, o4, o6⟩
  refine wpAny_bind (thn (hb.run pins _ σ _ _ I3 k) fun u s4 ⟨x, H2, I4, rx, q2, ks2, ex, hq2, hp2, hd2, hap2, hnd2, hz2, kk⟩ => ?_)
  subst ex
  obtain rfl : u = Value.ref q2 := rx
  refine wpAny_bind (wpAny_standAt (wpAny_pure ?_))
  obtain ⟨_, oS2, ps2, kt2, dd2⟩ := dt_of I4.hok hd2
  obtain ⟨_, oS3, ps3, kt3, dd3⟩ := dt_of I4.hok hp2
  refine wpAny_mergeMapping_heap (s := s4) room (Ne.symm hq2) oS2 dd3 dd2 (typ dd2) (KT.hash kt2 hap2) (fun h2 d3 d4 sb2 => ?_) (by
    have l3 := Paired.length kt3
    have l2 := Paired.length kt2
    rw [List.length_append] at hz2
    omega)
  have nd : ((ps3 ++ ps2).map (·.1)).Nodup := by rw [KT.fst (KT.append kt3 kt2)]; exact hnd2
  rw [storedAllH_append_of_fresh ps3 ps2 nd] at d3
  have he2 : ∃ q, h2.get? s.heap.objs.size = some q := let ⟨q, _, _, hq, _⟩ := d3; ⟨q, hq⟩
  refine ⟨.ref s.heap.objs.size, upd H2 s.heap.objs.size (.dT (ks ++ ks2)), ?_, rfl, kk⟩
  obtain ⟨od, es, ep, o1, o2, o3, o4, _, o6⟩ := d3
  exact d_write (t' := s4.toks) I4 (by rw [hp2]; exact True.intro) sb2 he2 ⟨hz2, oS3, _, (KT.append kt3 kt2).keeps fun b ys e => by rw [upd_ne (ne_of e hp2 (fun z => nomatch z))]; exact e, od, es, ep, o1, o2, o3, o4, o6⟩
mutual
theorem Rep.offD {H : Hp} {p : Addr} {o : HO} {js : List (List Key × V)} (hp : H p = some (.dT js)) : ∀ {v : V} {d : PyData}, Rep C H v d → d.canLay0 = true → Rep C (upd H p o) v d
  | _, _, .non, _ => .non
  | _, _, .bl b, _ => .bl b
  | _, _, .int i, _ => .int i
  | _, _, .str x, _ => .str x
  | _, _, .lst hc h r, l => .lst hc (by rw [upd_ne (ne_of h hp (fun z => nomatch z))]; exact h) (RepAll.offD hp r (by rw [PyData.canLay0] at l; exact l))
  | _, _, .tup hc h r, l => .tup hc (by rw [upd_ne (ne_of h hp (fun z => nomatch z))]; exact h) (RepAll.offD hp r (by rw [PyData.canLay0] at l; exact l))
  | _, _, .dic _ _ _, l => absurd l (by simp [PyData.canLay0])
theorem RepAll.offD {H : Hp} {p : Addr} {o : HO} {js : List (List Key × V)} (hp : H p = some (.dT js)) : ∀ {vs : List V} {ds : List PyData}, RepAll C H vs ds → PyData.canLayAll0 ds = true → RepAll C (upd H p o) vs ds
  | _, _, .nil, _ => .nil
  | _, _, .cons h t, l => by
    rw [PyData.canLayAll0, Bool.and_eq_true] at l
    exact .cons (Rep.offD hp h l.1) (RepAll.offD hp t l.2)
end
theorem RepKs.offD {H : Hp} {p : Addr} {o : HO} {js : List (List Key × V)} (hp : H p = some (.dT js)) : ∀ {ks : List (List Key × V)} {ds : List (PyData × PyData)}, RepKs C H ks ds → (∀ e ∈ ds, e.2.canLay0 = true) → RepKs C (upd H p o) ks ds
  | _, _, .nil, _ => .nil
  | _, _, .cons h t, l => .cons (Rep.offD hp h (l _ List.mem_cons_self)) (RepKs.offD hp t fun e he => l e (List.mem_cons_of_mem _ he))
/-- the data's rule: {**x, **dict(y)} -/
theorem ed_spread (i : Nat) {x : Str} {px pd p2 : Pos} {kvs kvs2 : List (IP × PyData)} (hc : X.calm = true) (hu : X.A.units + 64 < cLine) (hm : X.mg "dict" = none) (hb : ED X C b Γ (.list (kvs2.map fun e => .tuple [encP e.1, e.2]))) (hnd : ((kvs ++ kvs2).map (·.1)).Nodup)
    (hap : ((kvs ++ kvs2).map fun e => (tupleKind (mixKind X.prog X.w)).hash (pk e.1)).Nodup) (hz : (kvs ++ kvs2).length ≤ sizeLine) (hlay : ∀ e ∈ kvs2, e.2.canLay0 = true) (hN : X.N[i]? = some x := by rfl) (hv : Vis X.env.scope x := by first | exact Or.inl rfl | exact Or.inr (Or.inl rfl) | exact Or.inr (Or.inr rfl)) (hΓ : Γ[i]? = some (.dat (.dict (dictD kvs))) := by rfl)
    (hd : (x == ("__debug__" : Str)) = false := by decide) (hcd : (x == ("__classdict__" : Str)) = false := by decide) (hg : Gl X "dict" := by rfl)
    (he : starEach [b] X.env = (false, eval b X.env) :: starEach [] X.env := by rfl) : ED X C (.Dict [none, none] [.Name x px, .Call (.Name "dict" pd) [b] [] p2] pos) Γ (.dict (dictD (kvs ++ kvs2))) := fun σ H hE Q k => by
  obtain ⟨v, h1, h2⟩ := hE.sl i _ hΓ
  have keysOf : ∀ {ks : List (List Key × V)} {kvs : List (IP × PyData)} {H : Hp}, RepKs C H ks (dictD kvs) → ks.map (·.1) = kvs.map (fun e => pk e.1) := by
    intro ks kvs H r
    induction kvs generalizing ks with
    | nil => cases r; rfl
    | cons e kvs ih =>
      obtain ⟨⟨i, j⟩, d⟩ := e
      generalize hl : dictD (((i, j), d) :: kvs) = l at r
      cases r with
      | nil => cases hl
      | @cons p v ks' d' ds' r1 r2 =>
        injection hl with hl1 hl2
        subst hl2
        injection hl1 with hl1 _
        injection hl1 with hl1
        rw [List.map_cons, List.map_cons, ih r2]
        congr 1
        match p, hl1 with
        | [.inl i', .inl j'], hl1 =>
          simp only [List.map_cons, List.map_nil, kD, List.cons.injEq, PyData.int.injEq, and_true] at hl1
          rw [hl1.1, hl1.2]
          rfl
        | [.inl _, .inr _], hl1 => simp [kD] at hl1
        | [.inr _, _], hl1 => simp [kD] at hl1
        | [], hl1 => simp at hl1
        | [_], hl1 => simp at hl1
        | _ :: _ :: _ :: _, hl1 => simp at hl1
  have hapOf : ∀ {ks : List (List Key × V)} {kvs : List (IP × PyData)}, ks.map (·.1) = kvs.map (fun e => pk e.1) → (kvs.map fun e => (tupleKind (mixKind X.prog X.w)).hash (pk e.1)).Nodup → HAp X.prog X.w ks := by
    intro ks kvs e h
    unfold HAp
    have q : (ks.map fun x => (tupleKind (mixKind X.prog X.w)).hash x.1) = (ks.map (·.1)).map (tupleKind (mixKind X.prog X.w)).hash := by rw [List.map_map] <;> rfl
    rw [q, e, List.map_map]
    exact h
  rw [List.map_append, List.nodup_append] at hap
  obtain ⟨hap1, hap2, _⟩ := hap
  have hnd' := hnd
  rw [List.map_append, List.nodup_append] at hnd'
  obtain ⟨nd1, nd2, _⟩ := hnd'
  rw [List.length_append] at hz
  cases h2 with
  | @dic a ks _ hcc hx hr =>
    refine ⟨_, pe_spread hu (pe_var hN hv hd hcd) (pe_callTy (cr_dictP (C := C) (kvs := kvs2) hc hu) hg hm (by decide +kernel) WA.p (by decide) (by decide) he rfl), fun p hp => ?_⟩
    have hap' : a ≠ p := fun e => by rw [e, hp] at hx; cases hx
    refine ⟨_, h1, a, ks, rfl, hap', upd_same, (same_new hp) _ _ hx, ?_, hapOf (keysOf hr) hap1, ?_⟩
    · rw [keysOf hr]
      have := nodup_pk nd1
      rwa [List.map_map] at this
    · have s1 : Same H (upd (upd H p (.dT [])) p (.dT ks)) := fun b o e => by
        rw [upd_ne (ne_of_none e hp), upd_ne (ne_of_none e hp)]
        exact e
      refine ad_cons hb ad_nil he σ _ (hE.same s1) _ fun vs H1 s2 r1 => ?_
      obtain ⟨u, rfl, r⟩ := rep1 r1
      have hp1 : H1 p = some (.dT ks) := s2 _ _ upd_same
      cases r with
      | lst hcl hxl hrl =>
        refine ⟨_, _, rfl, hxl, hrl, nd2, by omega, fun p2 ks2 hp2 k1 k2 => ?_⟩
        have hne : p2 ≠ p := fun e => by rw [e, hp1] at hp2; cases hp2
        refine ⟨p2, ks2, rfl, hne, by rw [upd_ne (Ne.symm hne)]; exact hp1, upd_same, hapOf k2 hap2, ?_, ?_, ?_⟩
        · rw [List.map_append, keysOf hr, k2, ← List.map_append]
          have := nodup_pk hnd
          rwa [List.map_map] at this
        · have e1 := congrArg List.length (keysOf hr)
          have e2 := congrArg List.length k2
          simp only [List.length_map] at e1 e2
          rw [List.length_append]
          omega
        · have s4 : Same H (upd (upd H1 p2 (.dT ks2)) p (.dT (ks ++ ks2))) := fun b o e => by
            rw [upd_ne (ne_of_none e hp)]
            exact same_new hp2 _ _ (s2 _ _ (s1 _ _ e))
          refine k _ _ s4 (.dic (hE.fresh hp) upd_same ?_)
          unfold dictD
          rw [List.map_append]
          refine (hr.same s4).append ?_
          refine (k1.same (same_new hp2)).offD (js := ks) (by rw [upd_ne (Ne.symm hne)]; exact hp1) fun e he => ?_
          obtain ⟨e', he', rfl⟩ := List.mem_map.mp he
          exact hlay e' he'
end
end T2

set_option Elab.async false
set_option linter.all false
set_option maxRecDepth 100000
set_option maxHeartbeats 4000000
/-! TbD1: the first defs. -/
namespace T2
open PySem PySem.Spec PyProof.Rows L2
def tyN : PyData → String
  | .none => "NoneType" | .bool _ => "bool" | .int _ => "int" | .str _ => "str" | .list _ => "list" | .tuple _ => "tuple" | .dict _ => "dict"
theorem Rep.ty {C : Addr → Prop} {H : Hp} {K : PySem.W.Frag} {v : V} {d : PyData} (r : Rep C H v d) : TyX K H v (.type (tyN d)) := by
  cases r with
  | non => exact .base .non
  | bl b => exact .base (.bl b)
  | int b => exact .base (.int b)
  | str b => exact .base (.str b)
  | lst _ h _ => exact .base (.lst h)
  | tup _ h _ => exact .base (.tup h)
  | dic _ h _ => exact .base (.dT h)
section
variable {X : Cx} {C : Addr → Prop} {Γ Γ' : List Sd} {e a b c : Expr} {es : List Expr} {d d1 d2 d3 : PyData} {ds : List PyData} {pos : Pos}
theorem ed_isi {p p2 : Pos} {x : Str} (t T : String) (k0 : Bool) (hm : X.mg "isinstance" = none) (hT : X.mg x = none) (ha : ED X C a Γ d) (hv : bootBuiltins x = some (.type T)) (hk : kitB t T = some k0) (ht : tyN d = t := by rfl) (hg : Gl X "isinstance" := by rfl) (hgT : Gl X x := by rfl)
    (hn : x ≠ "__name__" := by decide) (hd : (x == ("__debug__" : Str)) = false := by decide)
    (he : starEach [a, .Name x p2] X.env = (false, eval a X.env) :: starEach [.Name x p2] X.env := by rfl) (he2 : starEach [.Name x p2] X.env = (false, eval (.Name x p2) X.env) :: starEach [] X.env := by rfl) (hpl : (backTo pos (starEach [.Name x p2] X.env)).any (·.1) = false := by rfl) :
    ED X C (.Call (.Name "isinstance" p) [a, .Name x p2] [] pos) Γ (.bool k0) := fun σ H hE Q k =>
  ⟨_, pe_callB call_isi hg hm (by decide +kernel) (pa_cons WE.p (pa_cons (pe_bltn (v := .ty T) hgT hT hv rfl hn hd) pa_nil he2) he) (by decide) (by decide) he hpl, ha σ H hE _ fun v H1 s1 r1 =>
    ⟨_, _, _, _, k0, rfl, .ty T, r1.ty, kit_ty (by rw [ht]; exact hk), k _ H1 s1 (.bl _)⟩⟩
end
section
variable {P : Program} {w : World} {K : PySem.W.Frag} {mg : Str → Option Value} {base : Heap}
/-! ### is_whole -/
def rIsWhole (ds : List PyData) (d : PyData) : Prop := ∃ i lo hi : Int, ds = [.int i, .int lo, .int hi] ∧ d = .bool (decide (lo ≤ i) && decide (i ≤ hi))
theorem sc_is_whole : FnScope ["value", "low", "high"] ["value", "low", "high"] (defScope sis_whole) := ⟨rfl, rfl, rfl, by decide +kernel, rfl, by decide +kernel, by decide +kernel⟩
theorem ok_is_whole (M : Mg K mg) (T : At K mg "is_whole" sis_whole) : Dfn P w K mg base "is_whole" ["value", "low", "high"] 1 (spF rIsWhole) := by
  refine dfn_of T sc_is_whole (fun _ _ _ _ _ _ us hl => match us, hl with | [_, _, _], _ => rfl) (fun ds d h => by obtain ⟨_, _, _, rfl, _⟩ := h; rfl) ?_
  intro f cdv A outer s H E hr C ds d σ h hE Q k
  obtain ⟨i, lo, hi, rfl, rfl⟩ := h
  refine s_ret (ED.is (ed_and (ed_isi "int" "int" true M.isinstance M.int (ed_var 0) boot_int (by decide +kernel)) fun _ => ed_and (ed_not (ed_isi "int" "bool" false M.isinstance M.bool (ed_var 0) (by decide +kernel) (by decide +kernel))) fun _ =>
    ed_one (ed_chain op_le op_le rd_le rd_le (ed_var 1) (ed_var 0) (ed_var 2))) ?_) ⟨Same.refl H, hE⟩ k
  rfl
end
end T2

set_option Elab.async false
set_option linter.all false
set_option maxRecDepth 100000
set_option maxHeartbeats 4000000
/-! TbQ: rules over pairs of ints, companies; dicts looked up, sorted; min, max, sum, all, zip, count; while; a list set on one line; two loops. -/
namespace T2
open PySem PySem.Spec PySem.W PyProof.Rows L2
/-! ### pairs as data -/
theorem encP_toD (p : IP) : encP p = Datum.toD p := rfl
theorem eqv_P (p q : IP) : PyData.eqv (encP p) (encP q) = decide (p = q) := Datum.eqv p q
theorem any_P (ps : List IP) (p : IP) : ((ps.map encP).any fun z => PyData.eqv z (encP p)) = decide (p ∈ ps) := (any_datum ps p).trans (decide_eq_decide.mpr Iff.rfl)
theorem layP (p : IP) : (encP p).canLay0 = true := rfl
theorem layPs : ∀ ps : List IP, PyData.canLayAll0 (ps.map encP) = true
  | [] => rfl
  | p :: ps => by
    rw [List.map_cons, PyData.canLayAll0, layP, layPs ps]
    rfl
theorem depPs : ∀ ps : List IP, PyData.depthAll (ps.map encP) ≤ 1
  | [] => Nat.zero_le _
  | p :: ps => by
    rw [List.map_cons, PyData.depthAll]
    exact Nat.max_le.mpr ⟨Nat.le_refl _, depPs ps⟩
theorem shP (p : IP) : SeqAt.shaped (encP p) = true := rfl
theorem shT (ps : List IP) : SeqAt.shaped (.tuple (ps.map encP)) = true := by
  unfold SeqAt.shaped
  rw [PyData.canLay0, layPs, PyData.depth]
  have := depPs ps
  exact decide_eq_true (by omega)
theorem shL (ps : List IP) : SeqAt.shaped (.list (ps.map encP)) = true := by
  unfold SeqAt.shaped
  rw [PyData.canLay0, layPs, PyData.depth]
  have := depPs ps
  exact decide_eq_true (by omega)
abbrev Cmp := Int × List IP
def encT (ps : List IP) : PyData := .tuple (ps.map encP)
def encC (c : Cmp) : PyData := .tuple [.int c.1, encT c.2]
def encL (ps : List IP) : PyData := .list (ps.map encP)
theorem eqv_C (c e : Cmp) : PyData.eqv (encC c) (encC e) = decide (c = e) := by
  have h := Datum.eqv (α := Int × Tup IP) (c.1, ⟨c.2⟩) (e.1, ⟨e.2⟩)
  refine h.trans (decide_eq_decide.mpr ⟨fun q => ?_, fun q => by rw [q]⟩)
  have q1 := congrArg Prod.fst q
  have q2 := congrArg Prod.snd q
  injection q2 with q2
  exact Prod.ext q1 q2
theorem eqv_L (ps qs : List IP) : PyData.eqv (encL ps) (encL qs) = decide (ps = qs) := Datum.eqv ps qs
theorem shC (c : Cmp) : SeqAt.shaped (encC c) = true := by
  unfold SeqAt.shaped encC encT
  rw [PyData.canLay0, PyData.canLayAll0, PyData.canLayAll0, PyData.canLay0, PyData.canLay0, layPs, PyData.canLayAll0, PyData.depth, PyData.depthAll, PyData.depthAll, PyData.depth, PyData.depth, PyData.depthAll]
  have := depPs c.2
  exact decide_eq_true (by omega)
section
variable {X : Cx} {C : Addr → Prop} {Γ Γ' : List Sd} {e a b c : Expr} {es : List Expr} {d d1 d2 d3 : PyData} {ds : List PyData} {pos : Pos}
/-! ### in -/
def rInT (K : PySem.W.Frag) : R2 := fun x y H Q => ∃ d ds, Dp K H x d ∧ Dp K H y (.tuple ds) ∧ SeqAt.shaped d = true ∧ SeqAt.shaped (.tuple ds) = true ∧ Q (.bl (ds.any fun z => PyData.eqv z d)) H
theorem op_inT (hu : X.A.units + 65 < cLine) : OpR X (compareOp .In) (rInT X.K) := fun pins s σ H x y v u Q I rx ry h => by
  obtain ⟨d, ds, hd, he, sd, se, q⟩ := h
  obtain ⟨_, r1⟩ := Dp.reads I d x v hd rx
  obtain ⟨_, r2⟩ := Dp.reads I (.tuple ds) y u he ry
  exact SeqAt.in_tuple_reads r2 r1 (SeqAt.canLay_of_shaped se) (SeqAt.canLay_of_shaped sd) (room_in_shaped sd hu) ⟨.bl _, H, I, rfl, q⟩
theorem rd_inT {p : IP} {ps : List IP} : RD2 C (rInT X.K) (encP p) (encT ps) (.bool (decide (p ∈ ps))) := fun H v u _ r1 r2 Q k =>
  ⟨_, _, r1.dp (layP p), r2.dp (SeqAt.canLay_of_shaped (shT ps)), shP p, shT ps, k _ H (Same.refl H) (by rw [any_P]; exact .bl _)⟩
theorem rd_niL {p : IP} {ps : List IP} : RD2 C (rNotInD X.K) (encP p) (encL ps) (.bool (!decide (p ∈ ps))) := fun H v u _ r1 r2 Q k =>
  ⟨_, _, r1.dp (layP p), r2.dp (SeqAt.canLay_of_shaped (shL ps)), shP p, shL ps, k _ H (Same.refl H) (by rw [any_P]; exact .bl _)⟩
theorem rd_eqP {p q : IP} : RD2 C (rEqD X.K) (encP p) (encP q) (.bool (decide (p = q))) := by
  rw [← eqv_P]
  exact rd_eqD (shP p) (shP q)
theorem rd_neP {p q : IP} : RD2 C (rNeD X.K) (encP p) (encP q) (.bool (!decide (p = q))) := by
  rw [← eqv_P]
  exact rd_neD (shP p) (shP q)
theorem rd_neC {p q : Cmp} : RD2 C (rNeD X.K) (encC p) (encC q) (.bool (!decide (p = q))) := by
  rw [← eqv_C]
  exact rd_neD (shC p) (shC q)
theorem rd_eqL {p q : List IP} : RD2 C (rEqD X.K) (encL p) (encL q) (.bool (decide (p = q))) := by
  rw [← eqv_L]
  exact rd_eqD (shL p) (shL q)
theorem rd_neL {p q : List IP} : RD2 C (rNeD X.K) (encL p) (encL q) (.bool (!decide (p = q))) := by
  rw [← eqv_L]
  exact rd_neD (shL p) (shL q)
/-! ### dicts looked up -/
def getP (kvs : List (IP × PyData)) (p : IP) : Option PyData := (kvs.find? fun e => decide (e.1 = p)).map (·.2)
theorem repKs_inv {H : Hp} {p : IP} {d : PyData} {kvs : List (IP × PyData)} {ks : List (List Key × V)} (r : RepKs C H ks (dictD ((p, d) :: kvs))) : ∃ v ks', ks = (pk p, v) :: ks' ∧ Rep C H v d ∧ RepKs C H ks' (dictD kvs) := by
  obtain ⟨i, j⟩ := p
  generalize hl : dictD (((i, j), d) :: kvs) = l at r
  cases r with
  | nil => cases hl
  | @cons p v ks' d' ds' r1 r2 =>
    injection hl with hl1 hl2
    subst hl2
    injection hl1 with hl1 hl3
    subst hl3
    injection hl1 with hl1
    refine ⟨v, ks', ?_, r1, r2⟩
    congr 2
    match p, hl1 with
    | [.inl i', .inl j'], hl1 =>
      simp only [List.map_cons, List.map_nil, kD, List.cons.injEq, PyData.int.injEq, and_true] at hl1
      rw [hl1.1, hl1.2]
      rfl
    | [.inl _, .inr _], hl1 => simp [kD] at hl1
    | [.inr _, _], hl1 => simp [kD] at hl1
    | [], hl1 => simp at hl1
    | [_], hl1 => simp at hl1
    | _ :: _ :: _ :: _, hl1 => simp at hl1
theorem getP_rep {H : Hp} {p : IP} : ∀ {kvs : List (IP × PyData)} {ks : List (List Key × V)}, RepKs C H ks (dictD kvs) → (∀ d, getP kvs p = some d → ∃ v, valV ks (pk p) = some v ∧ Rep C H v d) ∧ (getP kvs p = none → valV ks (pk p) = none)
  | [], ks, r => by
    cases r
    exact ⟨fun d h => (nomatch (show none = some d from h)), fun _ => rfl⟩
  | (q, d0) :: kvs, ks, r => by
    obtain ⟨v, ks', rfl, r1, r2⟩ := repKs_inv r
    obtain ⟨ih1, ih2⟩ := getP_rep (p := p) r2
    by_cases e : q = p
    · subst e
      have e1 : getP ((q, d0) :: kvs) q = some d0 := by simp [getP]
      rw [e1]
      exact ⟨fun d h => by cases h; exact ⟨v, valV_pos rfl, r1⟩, fun h => by cases h⟩
    · have e1 : getP ((q, d0) :: kvs) p = getP kvs p := by simp [getP, List.find?_cons, e]
      rw [e1, valV_neg (p := (pk q, v)) (fun h => e (pk_inj h))]
      exact ⟨ih1, ih2⟩
theorem ed_get {p : IP} {kvs : List (IP × PyData)} (hu : X.A.units + 1 < cLine) (ha : ED X C a Γ (.dict (dictD kvs))) (hb : ED X C b Γ (encP p)) (h : getP kvs p = some d) (hs : NoSl b := by exact fun _ _ => rfl) : ED X C (.Subscript a b pos) Γ d := fun σ H hE Q k =>
  ⟨_, pe_dget hu WE.p WE.p hs, ha σ H hE _ fun v H1 s1 r1 => hb σ H1 (hE.same s1) _ fun u H2 s2 r2 => by
    obtain ⟨b, rfl, hb2⟩ := Rep.pair r2
    have r1 := r1.same s2
    cases r1 with
    | dic hc hx hr =>
      obtain ⟨y, h1, h2⟩ := (getP_rep hr).1 d h
      refine ⟨_, y, rfl, ?_, k _ H2 (s1.trans s2) h2⟩
      rw [← h1]
      exact DGet.t hx hb2⟩
theorem ed_dni {p : IP} {kvs : List (IP × PyData)} {kp : Bool} (hu : X.A.units + 1 < cLine) (ha : ED X C a Γ (encP p)) (hb : ED X C b Γ (.dict (dictD kvs))) (h : kp = !(getP kvs p).isSome) (hm : behindInMarks .NotIn b = false := by first | exact nobehind _ (by decide) (by decide) | rfl) : TD X C (.Compare a [.NotIn] [b] pos) Γ kp := fun σ H hE Q k =>
  ⟨_, pt_cmp (pc_dnotin hu WE.p WE.p) hm, ha σ H hE _ fun v H1 s1 r1 => hb σ H1 (hE.same s1) _ fun u H2 s2 r2 => by
    obtain ⟨b, rfl, hb2⟩ := Rep.pair (r1.same s2)
    cases r2 with
    | dic hc hx hr =>
      have g := getP_rep (p := p) hr
      refine ⟨_, _, rfl, DGet.t hx hb2, _, rfl, ?_⟩
      rename_i ks
      have e : (!(valV ks (pk p)).isSome) = kp := by
        rw [h]
        cases q : getP kvs p with
        | none => rw [g.2 q]; rfl
        | some d =>
          obtain ⟨v, h1, _⟩ := g.1 d q
          rw [h1]
          rfl
      rw [e]
      exact k H2 (s1.trans s2)⟩

/-! ### what is built in -/
theorem ed_min {i j : Int} {p : Pos} (hc : X.calm = true) (hm : X.mg "min" = none) (ha : ED X C a Γ (.int i)) (hb : ED X C b Γ (.int j)) (hg : Gl X "min" := by rfl)
    (he : starEach [a, b] X.env = (false, eval a X.env) :: starEach [b] X.env := by rfl) (he2 : starEach [b] X.env = (false, eval b X.env) :: starEach [] X.env := by rfl) (hpl : (backTo pos (starEach [b] X.env)).any (·.1) = false := by rfl) :
    ED X C (.Call (.Name "min" p) [a, b] [] pos) Γ (.int (if j < i then j else i)) :=
  ed_callB (call_min2 hc) (fun H vs _ r Q k => by
    obtain ⟨v, u, rfl, h1, h2⟩ := rep2 r
    cases h1; cases h2
    exact ⟨_, _, rfl, k _ H (Same.refl H) (.int _)⟩) hm PyProof.Rows.boot_min (ad_cons ha (ad_cons hb ad_nil he2) he) hg (by decide) (by decide) he hpl
theorem ed_max {i j : Int} {p : Pos} (hc : X.calm = true) (hm : X.mg "max" = none) (ha : ED X C a Γ (.int i)) (hb : ED X C b Γ (.int j)) (hg : Gl X "max" := by rfl)
    (he : starEach [a, b] X.env = (false, eval a X.env) :: starEach [b] X.env := by rfl) (he2 : starEach [b] X.env = (false, eval b X.env) :: starEach [] X.env := by rfl) (hpl : (backTo pos (starEach [b] X.env)).any (·.1) = false := by rfl) :
    ED X C (.Call (.Name "max" p) [a, b] [] pos) Γ (.int (if j > i then j else i)) :=
  ed_callB (call_max2 hc) (fun H vs _ r Q k => by
    obtain ⟨v, u, rfl, h1, h2⟩ := rep2 r
    cases h1; cases h2
    exact ⟨_, _, rfl, k _ H (Same.refl H) (.int _)⟩) hm PyProof.Rows.boot_max (ad_cons ha (ad_cons hb ad_nil he2) he) hg (by decide) (by decide) he hpl
theorem ed_abs {i : Int} {p : Pos} (hm : X.mg "abs" = none) (ha : ED X C a Γ (.int i)) (hg : Gl X "abs" := by rfl) (he : starEach [a] X.env = (false, eval a X.env) :: starEach [] X.env := by rfl) :
    ED X C (.Call (.Name "abs" p) [a] [] pos) Γ (.int (if i < 0 then -i else i)) :=
  ed_callB call_abs (fun H vs _ r Q k => by
    obtain ⟨v, rfl, h⟩ := rep1 r
    cases h
    exact ⟨_, rfl, k _ H (Same.refl H) (.int _)⟩) hm (by decide +kernel) (ad_cons ha ad_nil he) hg (by decide) (by decide) he rfl
theorem ed_sum {ns : List Int} {p : Pos} (hc : X.calm = true) (hm : X.mg "sum" = none) (ha : ED X C a Γ (.list (ns.map .int))) (hg : Gl X "sum" := by rfl) (he : starEach [a] X.env = (false, eval a X.env) :: starEach [] X.env := by rfl) :
    ED X C (.Call (.Name "sum" p) [a] [] pos) Γ (.int ns.sum) :=
  ed_callB (cr_sum hc) (fun H vs _ r Q k => by
    obtain ⟨v, rfl, h⟩ := rep1 r
    cases h with
    | lst hcc hx hr => exact ⟨_, ns, rfl, by rw [← hr.ints]; exact SqL.of hx, k _ H (Same.refl H) (.int _)⟩) hm PyProof.Rows.boot_sum (ad_cons ha ad_nil he) hg (by decide) (by decide) he rfl
theorem ed_all {bs : List Bool} {p : Pos} (hc : X.calm = true) (hm : X.mg "all" = none) (ha : ED X C a Γ (.list (bs.map .bool))) (hg : Gl X "all" := by rfl) (he : starEach [a] X.env = (false, eval a X.env) :: starEach [] X.env := by rfl) :
    ED X C (.Call (.Name "all" p) [a] [] pos) Γ (.bool (bs.all id)) :=
  ed_callB (cr_all hc) (fun H vs _ r Q k => by
    obtain ⟨v, rfl, h⟩ := rep1 r
    cases h with
    | lst hcc hx hr => exact ⟨_, bs, rfl, by rw [← hr.bls]; exact SqL.of hx, k _ H (Same.refl H) (.bl _)⟩) hm PyProof.Rows.boot_all (ad_cons ha ad_nil he) hg (by decide) (by decide) he rfl
/-- dict([..]) -/
theorem ed_dictP {p : Pos} {kvs : List (IP × PyData)} (hc : X.calm = true) (hu : X.A.units + 64 < cLine) (hm : X.mg "dict" = none) (ha : ED X C a Γ (.list (kvs.map fun e => .tuple [encP e.1, e.2]))) (hnd : (kvs.map (·.1)).Nodup) (hz : kvs.length ≤ sizeLine)
    (hg : Gl X "dict" := by rfl) (he : starEach [a] X.env = (false, eval a X.env) :: starEach [] X.env := by rfl) : ED X C (.Call (.Name "dict" p) [a] [] pos) Γ (.dict (dictD kvs)) :=
  ed_callTy (cr_dictP (C := C) hc hu) (rc_dictP hnd hz) hm (by decide +kernel) (ad_cons ha ad_nil he) hg (by decide) (by decide) he rfl
/-- sorted(x), x a list or a tuple -/
theorem ed_sortT {β : Type} {enc : β → PyData} {bs : List β} {p : Pos} (hc : X.calm = true) (hu : X.A.units + 64 < cLine) (hm : X.mg "sorted" = none) (ha : ED X C a Γ (.tuple (bs.map enc))) (h1 : SrtOk (bs.map enc)) (h2 : ∀ b ∈ bs, (enc b).canLay0 = true) (h3 : bs.length ≤ sizeLine)
    (hg : Gl X "sorted" := by rfl) (he : starEach [a] X.env = (false, eval a X.env) :: starEach [] X.env := by rfl) : ED X C (.Call (.Name "sorted" p) [a] [] pos) Γ (.list ((bs.mergeSort (dataLe false enc)).map enc)) :=
  ed_callB (cr_srt (C := C) (enc := enc) (bs := bs) hc hu) (fun H vs ht r Q k => by
    obtain ⟨v, rfl, h⟩ := rep1 r
    cases h with
    | tup hcc hx hr => exact ⟨_, _, rfl, .inr hx, hr, h1, h2, h3, ht, fun p H' s r => k _ H' s r⟩) hm PyProof.Rows.boot_sorted (ad_cons ha ad_nil he) hg (by decide) (by decide) he rfl
theorem ed_sortL {β : Type} {enc : β → PyData} {bs : List β} {p : Pos} (hc : X.calm = true) (hu : X.A.units + 64 < cLine) (hm : X.mg "sorted" = none) (ha : ED X C a Γ (.list (bs.map enc))) (h1 : SrtOk (bs.map enc)) (h2 : ∀ b ∈ bs, (enc b).canLay0 = true) (h3 : bs.length ≤ sizeLine)
    (hg : Gl X "sorted" := by rfl) (he : starEach [a] X.env = (false, eval a X.env) :: starEach [] X.env := by rfl) : ED X C (.Call (.Name "sorted" p) [a] [] pos) Γ (.list ((bs.mergeSort (dataLe false enc)).map enc)) :=
  ed_callB (cr_srt (C := C) (enc := enc) (bs := bs) hc hu) (fun H vs ht r Q k => by
    obtain ⟨v, rfl, h⟩ := rep1 r
    cases h with
    | lst hcc hx hr => exact ⟨_, _, rfl, .inl hx, hr, h1, h2, h3, ht, fun p H' s r => k _ H' s r⟩) hm PyProof.Rows.boot_sorted (ad_cons ha ad_nil he) hg (by decide) (by decide) he rfl
/-- sorted of a dict with pairs as keys -/
theorem gives_dict {pins : List (Addr × Obj)} {σ : L2.St} {H : Hp} {s : Shared} {a : Addr} {ks : List (List Key × V)} {kvs : List (IP × PyData)} (I : Inv X pins σ H s) (ht : Th C H) (h : H a = some (.dT ks)) (r : RepKs C H ks (dictD kvs)) :
    ∃ xs its, Vals xs its ∧ RepAll C H xs ((kvs.map (·.1)).map encP) ∧ Gives X (.ref a) s its := by
  obtain ⟨z, hs, ps, pr, o, es, ep, ho, hx, hdt, he, hn⟩ := (show ObjOk X.prog X.w H s.heap a (.dT ks) from I.hok a _ h)
  have l1 : es.size = ps.length := size_of_entries he
  have l2 : ks.length = ps.length := Paired.length pr
  refine ⟨(ps.map fun x => x.2.1).map V.ref, (ps.map fun x => x.2.1).map Value.ref, vals_refs _, ?_, fun A E Q hh k => ?_⟩
  · have go : ∀ {kvs : List (IP × PyData)} {ks : List (List Key × V)} {ps : List (List Key × Addr × Value)}, RepKs C H ks (dictD kvs) → KT H ks ps → RepAll C H ((ps.map fun x => x.2.1).map V.ref) ((kvs.map (·.1)).map encP) := by
      intro kvs
      induction kvs with
      | nil => intro ks ps r kt; cases r; cases kt; exact .nil
      | cons e kvs ih =>
        intro ks ps r kt
        obtain ⟨v, ks', rfl, _, r2⟩ := repKs_inv r
        cases kt with
        | @cons _ q _ ps h1 h2 =>
          exact .cons (.tup (ht.tup h1.2.1) h1.2.1 (.cons (.int _) (.cons (.int _) .nil))) (ih r2 h2)
    exact go r pr
  · refine PySem.W.kdu_collect (kdl_raw hs hx hdt) hh ho (by omega) fun h' tk acc' hk it => ?_
    have ea : acc'.toList = (ps.map fun x => x.2.1).map Value.ref := by
      have hl : acc'.toList.length = ps.length := by rw [Array.length_toList, it.1]; exact l1
      apply List.ext_getElem?
      intro j
      rw [List.getElem?_map, List.getElem?_map]
      cases hj : acc'.toList[j]? with
      | none =>
        have h1 := List.getElem?_eq_none_iff.mp hj
        rw [List.getElem?_eq_none (by omega)]
        rfl
      | some v =>
        obtain ⟨en, hen, hv⟩ := it.2 j v (by rw [← Array.getElem?_toList]; exact hj)
        have qe := entry_at he j
        rw [hen] at qe
        cases hb : ps[j]? with
        | none =>
          rw [hb] at qe
          exact nomatch (show some en = none from qe)
        | some b =>
          rw [hb] at qe
          have e2 : en = entryOfKey (tupleKind (mixKind X.prog X.w)) b := Option.some.inj qe
          rw [hv, e2]
          rfl
    rw [ea]
    exact k h' tk hk
def rSrtD (C : Addr → Prop) (kvs : List (IP × PyData)) : List V → Hp → VK → Prop := fun vs H Q => ∃ a ks, vs = [.ref a] ∧ H a = some (.dT ks) ∧ RepKs C H ks (dictD kvs) ∧ SrtOk ((kvs.map (·.1)).map encP) ∧ kvs.length ≤ sizeLine ∧ Th C H ∧
  ∀ p H', Same H H' → Rep C H' (.ref p) (.list (((kvs.map (·.1)).mergeSort (dataLe false encP)).map encP)) → Q (.ref p) H'
theorem cr_srtD {kvs : List (IP × PyData)} (hc : X.calm = true) (hu : X.A.units + 64 < cLine) : CallR X (.builtin "sorted") (rSrtD C kvs) := by
  intro pins s σ H vs us Q I r h
  obtain ⟨a, ks, rfl, hx, hr, h1, h3, h4, q⟩ := h
  obtain ⟨u, rfl, rx⟩ := vals1 r
  cases rx
  obtain ⟨xs, its, rv, ra, G⟩ := gives_dict I h4 hx hr
  exact sorted_run I hc hu G rv ra h1 (fun b _ => layP b) (by rw [List.length_map]; exact h3) h4 q
theorem ed_sortD {kvs : List (IP × PyData)} {p : Pos} (hc : X.calm = true) (hu : X.A.units + 64 < cLine) (hm : X.mg "sorted" = none) (ha : ED X C a Γ (.dict (dictD kvs))) (h1 : SrtOk ((kvs.map (·.1)).map encP)) (h3 : kvs.length ≤ sizeLine)
    (hg : Gl X "sorted" := by rfl) (he : starEach [a] X.env = (false, eval a X.env) :: starEach [] X.env := by rfl) : ED X C (.Call (.Name "sorted" p) [a] [] pos) Γ (encL ((kvs.map (·.1)).mergeSort (dataLe false encP))) :=
  ed_callB (cr_srtD (C := C) (kvs := kvs) hc hu) (fun H vs ht r Q k => by
    obtain ⟨v, rfl, h⟩ := rep1 r
    cases h with
    | dic hcc hx hr => exact ⟨_, _, rfl, hx, hr, h1, h3, ht, fun p H' s r => k _ H' s r⟩) hm PyProof.Rows.boot_sorted (ad_cons ha ad_nil he) hg (by decide) (by decide) he rfl
end
end T2

set_option Elab.async false
set_option linter.all false
set_option maxRecDepth 100000
set_option maxHeartbeats 4000000
/-! TbU: zip, WORDS, a written dict, count, while, a list set on one line, two loops in one list. -/
namespace T2
open PySem PySem.Spec PySem.W PyProof.Rows L2
section
variable {X : Cx} {C : Addr → Prop} {Γ Γ' : List Sd} {e a b c : Expr} {es : List Expr} {d d1 d2 d3 : PyData} {ds : List PyData} {pos : Pos}
/-! ### zip of two tuples -/
def zipD (xs ys : List PyData) : List PyData := (xs.zip ys).map fun p => .tuple [p.1, p.2]
theorem walk_zipT {H0 : Hp} {l m : Addr} {vs us : List V} {xs ys : List PyData} (K : PySem.W.Frag) (hl : ¬ C l) (h : H0 l = some (.tup vs)) (r : RepAll C H0 vs xs) (hm : ¬ C m) (h' : H0 m = some (.tup us)) (r' : RepAll C H0 us ys) : Walk C H0 (RZ.ItzT K l m) (zipD xs ys) where
  go := fun C1 i H ap s hi => by
    unfold zipD at hi
    rw [List.length_map, List.length_zip] at hi
    obtain ⟨x, hx, _⟩ := r.get (List.getElem?_eq_getElem (show i < xs.length by omega))
    obtain ⟨y, hy, _⟩ := r'.get (List.getElem?_eq_getElem (show i < ys.length by omega))
    exact ⟨vs, us, x, y, SqT.of (s _ _ (ap _ _ h hl) h), SqT.of (s _ _ (ap _ _ h' hm) h'), hx, hy⟩
  yld := fun C1 i H x H' ap th s hyl => by
    obtain ⟨T, x, y, rfl, hT, rfl, qx, qy⟩ := hyl
    have q1 := qx vs (SqT.of (s _ _ (ap _ _ h hl) h))
    have q2 := qy us (SqT.of (s _ _ (ap _ _ h' hm) h'))
    refine ⟨same_new hT, fun d hd => ?_⟩
    unfold zipD at hd
    rw [List.getElem?_map] at hd
    cases e : (xs.zip ys)[i]? with
    | none => rw [e] at hd; cases hd
    | some p =>
      rw [e] at hd
      cases hd
      obtain ⟨dx, dy⟩ := p
      obtain ⟨e1, e2⟩ := List.getElem?_zip_eq_some.mp e
      obtain ⟨v1, g1, g2⟩ := r.get e1
      obtain ⟨u1, k1, k2⟩ := r'.get e2
      rw [q1] at g1
      cases g1
      rw [q2] at k1
      cases k1
      refine .tup (th.fresh hT) upd_same (.cons ?_ (.cons ?_ .nil))
      · exact ((g2.apart ap).mono s).same (same_new hT)
      · exact ((k2.apart ap).mono s).same (same_new hT)
  stop := fun C1 i H ap s hi => by
    unfold zipD at hi
    rw [List.length_map, List.length_zip] at hi
    refine ⟨vs, us, SqT.of (s _ _ (ap _ _ h hl) h), SqT.of (s _ _ (ap _ _ h' hm) h'), ?_⟩
    rw [r.length, r'.length]
    omega
theorem id_zipT {p tpos : Pos} {elts : List Expr} {kk : Nat} {xs ys : List PyData} (hm : X.mg "zip" = none) (ha : ED X C a Γ (.tuple xs)) (hb : ED X C b Γ (.tuple ys)) (hg : Gl X "zip" := by rfl)
    (hs : starEach [a, b] X.env = (false, eval a X.env) :: starEach [b] X.env := by rfl) (hs2 : starEach [b] X.env = (false, eval b X.env) :: starEach [] X.env := by rfl) (hpl : (backTo pos (starEach [b] X.env)).any (·.1) = false := by rfl) :
    ID X C (.Tuple elts kk tpos) (.Call (.Name "zip" p) [a, b] [] pos) Γ (zipD xs ys) := fun σ H hE R k => ⟨_, RZ.pi_zipA hg hm WA.p hs hpl, ad_cons ha (ad_cons hb ad_nil hs2) hs σ H hE _ fun vs H1 s1 r1 => by
  obtain ⟨v, u, rfl, r, r'⟩ := rep2 r1
  cases r with
  | tup hc hx hr =>
    cases r' with
    | tup hc' hx' hr' => exact ⟨_, _, _, _, rfl, .inr ⟨SqT.of hx, SqT.of hx', k _ _ s1 (walk_zipT X.K hc hx hr hc' hx' hr')⟩⟩⟩
/-! ### a text in a tuple of texts that stands in the module -/
theorem inV_strs {x : Str} : ∀ {ns : List Str}, inV (.str x) (ns.map V.str) = decide (x ∈ ns)
  | [] => rfl
  | n :: ns => by
    have ih := inV_strs (x := x) (ns := ns)
    unfold inV at ih ⊢
    rw [List.map_cons, List.any_cons, ih]
    have e : eqV (.str n) (.str x) = decide (x = n) := by
      show (n == x) = decide (x = n)
      rw [PySem.W.beq_decide]
      exact decide_eq_decide.mpr ⟨fun e => e.symm, fun e => e.symm⟩
    rw [e]
    simp only [List.mem_cons, Bool.decide_or]
theorem flat_strs : ∀ {ns : List Str}, (ns.map V.str).all flatV = true
  | [] => rfl
  | n :: ns => by
    rw [List.map_cons, List.all_cons, flat_strs (ns := ns)]
    rfl
theorem ed_inWords {x : Str} {y : Str} {ns : List Str} {p : Pos} (hm : ∃ a, X.mg y = some (.ref a) ∧ ∀ H, SqT X.K H a (ns.map V.str)) (ha : ED X C a Γ (.str x)) (hg : Gl X y := by rfl) (hd : (y == ("__debug__" : Str)) = false := by decide)
    (hb : behindInMarks .In (.Name y p) = false := by first | exact nomark _ | rfl | with_unfolding_all rfl) : ED X C (.Compare a [.In] [.Name y p] pos) Γ (.bool (decide (x ∈ ns))) := fun σ H hE Q k => by
  obtain ⟨w, h1, h2⟩ := hm
  refine ⟨_, pe_cmpR op_in_seq WE.p (pe_glob (v := .ref w) hg h1 rfl hd) hb, ha σ H hE _ fun v H1 s1 r1 => ?_⟩
  cases r1
  exact ⟨_, _, rfl, .inr (h2 _), rfl, flat_strs, k _ H1 s1 (by rw [if_neg Bool.false_ne_true, inV_strs]; exact .bl _)⟩
/-! ### count -/
def rCntB (C : Addr → Prop) (bs : List Bool) : V → List V → Hp → VK → Prop := fun x xs H Q => ∃ a ys, x = .ref a ∧ xs = [.bl true] ∧ H a = some (.lst ys) ∧ RepAll C H ys (bs.map .bool) ∧ Q (.int (Spec.countIn (.bool true) (bs.map .bool))) H
theorem layBs : ∀ bs : List Bool, PyData.canLayAll0 (bs.map .bool) = true
  | [] => rfl
  | b :: bs => by
    rw [List.map_cons, PyData.canLayAll0, layBs bs]
    rfl
theorem mt_cntB {bs : List Bool} : MtR X "list.count" (rCntB C bs) := by
  intro pins s σ H x xs v us Q I rx rxs h
  obtain ⟨a, ys, rfl, rfl, hx, hr, q⟩ := h
  cases rx
  cases rxs with
  | cons ry rt =>
    cases rt
    cases ry
    obtain ⟨its, rv, ⟨o, n, ho, hcl, hd, hdat⟩, _⟩ := I.list (SqL.of hx)
    obtain ⟨as, h4⟩ := Dp.readsAll I _ _ its (hr.dp (layBs bs)) rv
    refine count_list_bools (k := true) ⟨o, ho, hcl, n, hdat⟩ h4 ?_ ⟨.int _, H, I.tok _, ⟨_, rfl⟩, q⟩
    rw [List.all_map, List.all_eq_true]
    intro b _
    rfl
theorem ed_cntB {bs : List Bool} {apos : Pos} {i3} {p3 : Pos} (ha : ED X C a Γ (.list (bs.map .bool))) (hbase : attributeBase a "count" X.env (eval a X.env) = eval a X.env := by rfl)
    (hfew : ((backTo pos (starEach [.Constant (.bool true) i3 p3] X.env)).all (fun x => !x.1) && (backToKw pos (keywordEach [] X.env)).all (fun x => x.1.isSome)
      && decide (([.Constant (.bool true) i3 p3] : List Expr).length + ([] : List Keyword).length + (if ([] : List Keyword).isEmpty then 0 else 1) < 30)) = true := by rfl)
    (hline : (apos.endLine == pos.line) = true := by rfl) (hs : starEach [.Constant (.bool true) i3 p3] X.env = (false, eval (.Constant (.bool true) i3 p3) X.env) :: starEach [] X.env := by rfl) (hplain : (backTo pos (starEach [] X.env)).any (·.1) = false := by rfl) :
    ED X C (.Call (.Attribute a "count" apos) [.Constant (.bool true) i3 p3] [] pos) Γ (.int (Spec.countIn (.bool true) (bs.map .bool))) := fun σ H hE Q k =>
  ⟨_, pe_bm PySem.F.plainAttrs_list PySem.F.slot_list_count PySem.F.type_list_count (mt_cntB (C := C) (bs := bs)) WE.p WA.p hbase hfew hline hs hplain, ha σ H hE _ fun v H1 s1 r1 => by
    cases r1 with
    | lst hc hx hr =>
      refine ⟨.inl ⟨rfl, _, SqL.of hx⟩, ad_cons ed_bl ad_nil hs σ H1 (hE.same s1) _ fun vs H2 s2 r2 => ?_⟩
      obtain ⟨v, rfl, h⟩ := rep1 r2
      cases h
      exact ⟨_, _, rfl, rfl, s2 _ _ hx, hr.same s2, k _ H2 (s1.trans s2) (.int _)⟩⟩
/-! ### a written dict with texts as keys and truth values, looked up at once -/
theorem ed_disp3 {k1 k2 k3 x : Str} {e1 e2 e3 f : Expr} {i1 i2 i3} {p1 p2 p3 pd : Pos} {b1 b2 b3 b0 : Bool} (hu : X.A.units + 1 < cLine) (h1 : ED X C e1 Γ (.bool b1)) (h2 : ED X C e2 Γ (.bool b2)) (h3 : ED X C e3 Γ (.bool b3)) (hf : ED X C f Γ (.str x))
    (h12 : k1 ≠ k2) (h13 : k1 ≠ k3) (h23 : k2 ≠ k3) (hd : valV [((.inr k1 : Key), V.bl b1), (.inr k2, .bl b2), (.inr k3, .bl b3)] (.inr x) = some (.bl b0)) (hs : NoSl f := by exact fun _ _ => rfl) :
    ED X C (.Subscript (.Dict [some (.Constant (.str k1) i1 p1), some (.Constant (.str k2) i2 p2), some (.Constant (.str k3) i3 p3)] [e1, e2, e3] pd) f pos) Γ (.bool b0) := fun σ H hE Q k =>
  ⟨_, pe_dget hu (pe_disp (pps_cons pe_str WE.p (pps_cons pe_str WE.p (pps_cons pe_str WE.p pps_nil))) rfl rfl (by intro h; cases h) (Nat.le_of_ble_eq_true rfl)) WE.p hs, fun p hp => by
    have s0 : Same H (upd H p (.dK [])) := same_new hp
    refine h1 σ _ (hE.same s0) _ fun v1 H1 s1 r1 => h2 σ H1 ((hE.same s0).same s1) _ fun v2 H2 s2 r2 => h3 σ H2 (((hE.same s0).same s1).same s2) _ fun v3 H3 s3 r3 => ?_
    have hp3 : H3 p = some (.dK []) := s3 _ _ (s2 _ _ (s1 _ _ upd_same))
    cases r1
    cases r2
    cases r3
    have hm : mergeK [] [((.inr k1 : Key), V.bl b1), (.inr k2, .bl b2), (.inr k3, .bl b3)] = [(.inr k1, .bl b1), (.inr k2, .bl b2), (.inr k3, .bl b3)] := by
      simp [mergeK, putK, h12, h13, h23]
    refine ⟨hp3, [(.inr k1, .bl b1), (.inr k2, .bl b2), (.inr k3, .bl b3)], rfl, Nat.le_of_ble_eq_true rfl, ?_⟩
    rw [hm]
    have s4 : Same H (upd H3 p (.dK [((.inr k1 : Key), V.bl b1), (.inr k2, .bl b2), (.inr k3, .bl b3)])) := fun b o e => by
      rw [upd_ne (ne_of_none e hp)]
      exact s3 _ _ (s2 _ _ (s1 _ _ (s0 _ _ e)))
    refine hf σ _ (hE.same s4) _ fun y H5 s5 r5 => ?_
    cases r5
    have g5 := s5 p _ upd_same
    refine ⟨p, .bl b0, rfl, ?_, k _ H5 (s4.trans s5) (.bl _)⟩
    rw [← hd]
    exact DGet.k (k := .inr x) g5⟩
/-! ### statements -/
section
variable {H0 H : Hp} {σ : L2.St} {D : Ends} {rest : List Stmt}
theorem s_while {body : List Stmt} (n : Nat) (Γs : Nat → List Sd) (hp : PassesOwn (model X.prog X.w) X.A X.env X.xe) (hS : Sn C H0 H σ (Γs 0)) (hc : ∀ i, i < n → TD X C c (Γs i) true) (hz : TD X C c (Γs n) false)
    (hb : ∀ i, i < n → ∀ Hb, Same H0 Hb → ∀ σ' H' (D' : Ends), Sn C Hb H' σ' (Γs i) → D'.rt = D.rt → (∀ σ2 H2, Sn C Hb H2 σ2 (Γs (i + 1)) → D'.nx σ2 H2) → WSs X body D' σ' H')
    (k : ∀ σ' H', Sn C H0 H' σ' (Γs n) → WSs X rest D σ' H') : WSs X (.While c body [] pos :: rest) D σ H := by
  refine ⟨_, pss_cons (ps_while hp WT.p WSs.p) WSs.p, fun m σ2 H2 => ∃ i, i + m = n ∧ Sn C H0 H2 σ2 (Γs i), ⟨n, 0, Nat.zero_add _, hS⟩, ?_⟩
  rintro m σ2 H2 ⟨i, em, S2⟩
  by_cases h : i < n
  · refine hc i h σ2 H2 S2.en _ fun H3 s3 => ?_
    rw [if_pos rfl]
    refine ⟨fun σ4 H4 => Sn C H0 H4 σ4 (Γs (i + 1)), fun σ4 H4 S4 => ⟨m - 1, by omega, i + 1, by omega, S4⟩, ?_⟩
    exact hb i h H2 S2.sm σ2 H3 _ ⟨s3, S2.en.same s3⟩ rfl fun σ5 H5 S5 => ⟨S2.sm.trans S5.sm, S5.en⟩
  · have e : i = n := by omega
    subst e
    refine hz σ2 H2 S2.en _ fun H3 s3 => ?_
    rw [if_neg Bool.false_ne_true]
    exact k σ2 H3 (S2.next s3 (S2.en.same s3))
variable {tg iter elt : Expr} {ifs : List Expr} {scope : Scope} {own : List (Str × Nat)} {α : Type} {xs : List α} {enc : α → PyData}
/-- name = [..] on one line, the name a plain local -/
theorem s_setLc (i : Nat) {x : Str} {px pl : Pos} (Γt : α → List Sd) (p : α → Bool) (f : α → PyData) (hc : X.calm = true) (hN : X.N.Nodup) (ok : BlkOk X.N X.env.scope scope own) (hi : ID X C tg iter Γ (xs.map enc)) (hS : Sn C H0 H σ Γ)
    (hg : ∀ C1 s H C' cl fp, ∀ y ∈ xs, GD (Bk X scope s H C' cl fp) C1 tg (wipeG Γ (own.map (·.2))) (enc y) (Γt y) (own.map (·.2)))
    (ht : ∀ C1 s H C' cl fp, ∀ y ∈ xs, TsD (Bk X scope s H C' cl fp) C1 ifs (Γt y) (p y))
    (he : ∀ C1 s H C' cl fp, ∀ y ∈ xs, p y = true → ED (Bk X scope s H C' cl fp) C1 elt (Γt y) (f y)) (hz : xs.length < sizeLine)
    (k : ∀ σ' H', Sn C H0 H' σ' (Γ.set i (.dat (.list ((xs.filter p).map f)))) → WSs X rest D σ' H') (hk : X.env.scope.kind = .function := by rfl) (hl : (px.line == pl.line) = true := by rfl)
    (ha : (scope.names.any fun (n, k) => n == x && (k == .local || k == .cell)) = false := by rfl) (hxi : X.N[i]? = some x := by rfl) (hxl : X.env.scope.names.lookup x = some .local := by rfl) (hs : ∀ x, foldedSetIterable iter X.env x = pure x := by intro _; rfl) :
    WSs X (.Assign [.Name x px] (.ListComp elt [⟨tg, iter, ifs, 0⟩] scope pl) pos :: rest) D σ H :=
  ⟨_, pss_cons (ps_setLc (wi := WI X tg iter) (g := fun v σ H Q => ∀ s H0 C' cl fp, WG (Bk X scope s H0 C' cl fp) tg v σ H Q) (tt := fun σ H Q => ∀ s H0 C' cl fp, WTs (Bk X scope s H0 C' cl fp) ifs σ H Q)
    (te := fun σ H Q => ∀ s H0 C' cl fp, WE (Bk X scope s H0 C' cl fp) elt σ H Q) hc hN hxi hxl (sw_true hk hxl hl ha) WI.p ok (fun s H C' cl fp => ⟨fun pins s1 σ H1 v u Q I r h => (WG.p (X := Bk X scope s H C' cl fp)).run pins s1 σ H1 v u Q I r (h s H C' cl fp)⟩)
    (fun s H C' cl fp => ⟨fun pins s1 σ H1 Q I h => (WTs.p (X := Bk X scope s H C' cl fp)).run pins s1 σ H1 Q I (h s H C' cl fp)⟩)
    (fun s H C' cl fp => ⟨fun pins s1 σ H1 Q I h => (WE.p (X := Bk X scope s H C' cl fp)).run pins s1 σ H1 Q I (h s H C' cl fp)⟩) hs) WSs.p,
    lcd Γt p f hS.en hi hg ht he hz fun v H1 s1 r1 => k _ H1 (hS.next s1 ((hS.en.same s1).set r1))⟩
end
/-! ### two loops in one list -/
section
variable {tg iter elt tg1 iter1 : Expr} {scope : Scope} {own : List (Str × Nat)} {vs1 : List Nat} {α β : Type} {xs : List α} {enc : α → PyData} {ys : α → List β} {enc1 : β → PyData}
theorem take_flat {α β : Type} (g : α → List β) (xs : List α) (i : Nat) : ((xs.take i).flatMap g).length ≤ (xs.flatMap g).length := by
  have h : xs.flatMap g = (xs.take i).flatMap g ++ (xs.drop i).flatMap g := by rw [← List.flatMap_append, List.take_append_drop]
  rw [h, List.length_append]
  omega
theorem ed_lc2 (Γt : α → List Sd) (Γu : α → β → List Sd) (f : α → β → PyData) (hc : X.calm = true) (hN : X.N.Nodup) (ok : BlkOk X.N X.env.scope scope own) (hv : ∀ i ∈ vs1, i ∈ own.map (·.2)) (hi : ID X C tg iter Γ (xs.map enc))
    (hg : ∀ C1 s H C' cl fp, ∀ x ∈ xs, GD (Bk X scope s H C' cl fp) C1 tg (wipeG Γ (own.map (·.2))) (enc x) (Γt x) (own.map (·.2)))
    (hi1 : ∀ C1 s H C' cl fp, ∀ x ∈ xs, ID (Bk X scope s H C' cl fp) C1 tg1 iter1 (Γt x) ((ys x).map enc1))
    (hg1 : ∀ C1 s H C' cl fp, ∀ x ∈ xs, ∀ y ∈ ys x, GD (Bk X scope s H C' cl fp) C1 tg1 (wipeG (Γt x) vs1) (enc1 y) (Γu x y) vs1)
    (he : ∀ C1 s H C' cl fp, ∀ x ∈ xs, ∀ y ∈ ys x, ED (Bk X scope s H C' cl fp) C1 elt (Γu x y) (f x y))
    (hz2 : (xs.flatMap fun x => (ys x).map (f x)).length < sizeLine) (hs : ∀ x, foldedSetIterable iter X.env x = pure x := by intro _; rfl) (hs1 : ∀ env x, foldedSetIterable iter1 env x = pure x := by intro _ _; rfl) :
    ED X C (.ListComp elt [⟨tg, iter, [], 0⟩, ⟨tg1, iter1, [], 0⟩] scope pos) Γ (.list (xs.flatMap fun x => (ys x).map (f x))) := fun σ H hE Q k => by
  refine ⟨_, pe_lc2 (ifs := []) (ifs1 := []) (vs1 := vs1) (wi := WI X tg iter) (g := fun v σ H Q => ∀ s H0 C' cl fp, WG (Bk X scope s H0 C' cl fp) tg v σ H Q) (tt := fun σ H Q => ∀ s H0 C' cl fp, WTs (Bk X scope s H0 C' cl fp) [] σ H Q)
    (wi1 := fun σ H R => ∀ s H0 C' cl fp, WI (Bk X scope s H0 C' cl fp) tg1 iter1 σ H R) (g1 := fun v σ H Q => ∀ s H0 C' cl fp, WG (Bk X scope s H0 C' cl fp) tg1 v σ H Q) (tt1 := fun σ H Q => ∀ s H0 C' cl fp, WTs (Bk X scope s H0 C' cl fp) [] σ H Q)
    (te := fun σ H Q => ∀ s H0 C' cl fp, WE (Bk X scope s H0 C' cl fp) elt σ H Q) hc hN WI.p ok hv (fun s H C' cl fp => ⟨fun pins s1 σ H1 v u Q I r h => (WG.p (X := Bk X scope s H C' cl fp)).run pins s1 σ H1 v u Q I r (h s H C' cl fp)⟩)
    (fun s H C' cl fp => ⟨fun pins s1 σ H1 Q I h => (WTs.p (X := Bk X scope s H C' cl fp)).run pins s1 σ H1 Q I (h s H C' cl fp)⟩)
    (fun s H C' cl fp => ⟨fun pins s1 σ H1 R I h => (WI.p (X := Bk X scope s H C' cl fp)).run pins s1 σ H1 R I (h s H C' cl fp)⟩)
    (fun s H C' cl fp => ⟨fun pins s1 σ H1 v u Q I r h => (WG.p (X := Bk X scope s H C' cl fp)).run pins s1 σ H1 v u Q I r (h s H C' cl fp)⟩)
    (fun s H C' cl fp => ⟨fun pins s1 σ H1 Q I h => (WTs.p (X := Bk X scope s H C' cl fp)).run pins s1 σ H1 Q I (h s H C' cl fp)⟩)
    (fun s H C' cl fp => ⟨fun pins s1 σ H1 Q I h => (WE.p (X := Bk X scope s H C' cl fp)).run pins s1 σ H1 Q I (h s H C' cl fp)⟩) hs hs1, ?_⟩
  refine hi σ H hE _ fun J H1 s1 W D hD => ?_
  have hE1 := hE.same s1
  have hDc : ¬ C D := hE1.fresh hD
  have ap : ∀ a o, H1 a = some o → ¬ C a → ¬ (C a ∨ a = D) := fun a o e c q => q.elim c (ne_of_none e hD)
  have thr : ∀ H2 zs, Same H1 H2 → H2 D = some (.lst zs) → Th (fun a => C a ∨ a = D) H2 := fun H2 zs s q a ha => ha.elim (fun c => (hE1.same s).there a c) fun e => ⟨zs, by rw [e]; exact q⟩
  have hlen : (xs.map enc).length = xs.length := List.length_map _
  refine ⟨fun i m H2 => i + m = xs.length ∧ Same H1 H2 ∧ ∃ acc, H2 D = some (.lst acc) ∧ RepAll (fun a => C a ∨ a = D) H2 acc ((xs.take i).flatMap fun x => (ys x).map (f x)),
    ⟨xs.length, Nat.zero_add _, same_new hD, [], upd_same, RepAll.nil⟩, fun i m H2 hw => ?_⟩
  obtain ⟨em, s2, acc, hacc, hr⟩ := hw
  by_cases h : i < xs.length
  · refine .inr ⟨W.go _ i H2 ap (toB s2) (by rw [hlen]; exact h), fun H3 => Same H1 H3 ∧ ∃ acc, H3 D = some (.lst acc) ∧ RepAll (fun a => C a ∨ a = D) H3 acc ((xs.take (i + 1)).flatMap fun x => (ys x).map (f x)), fun H3 q => ⟨m - 1, by omega, by omega, q⟩, fun x H3 hy => ?_⟩
    obtain ⟨s3, rx⟩ := W.yld _ i H2 x H3 ap (thr H2 _ s2 hacc) (toB s2) hy
    have gi : xs[i]? = some xs[i] := List.getElem?_eq_getElem h
    have ym : xs[i] ∈ xs := List.getElem_mem h
    generalize xs[i] = x0 at gi ym
    have r := rx (enc x0) (by rw [List.getElem?_map, gi]; rfl)
    have hE3 : En (fun a => C a ∨ a = D) H3 σ Γ := hE1.apart ap (s2.trans s3) (thr H3 _ (s2.trans s3) (s3 _ _ hacc))
    have etk : xs.take (i + 1) = xs.take i ++ [x0] := by rw [List.take_add_one, gi]; rfl
    intro s0 H0 C' cl fp
    refine hg _ s0 H0 C' cl fp x0 ym (wipe σ (own.map (·.2))) H3 x (hE3.wipe _) r _ ?_
    intro σ4 H4 s4 hE4 hw
    have idem : ∀ (vs us : List Nat), (∀ i ∈ us, i ∈ vs) → wipe (wipe σ us) vs = wipe σ vs := by
      intro vs us
      induction us with
      | nil => intro _; rfl
      | cons u us ih =>
        intro hu
        show wipe ((wipe σ us).set u none) vs = wipe σ vs
        rw [wipe_set (hu u List.mem_cons_self), ih fun i hi => hu i (List.mem_cons_of_mem _ hi)]
    refine ⟨(hw _ fun i hi => hi).trans (idem _ _ fun i hi => hi), fun s0 H0 C' cl fp => ?_⟩
    refine tsd_nil σ4 H4 hE4 _ fun H5 s5 => ?_
    rw [if_pos rfl]
    intro s0 H0 C' cl fp
    refine hi1 _ s0 H0 C' cl fp x0 ym σ4 H5 (hE4.same s5) _ fun J1 H6 s6 W1 => ?_
    have s16 : Same H1 H6 := (((s2.trans s3).trans s4).trans s5).trans s6
    have hD6 : H6 D = some (.lst acc) := s6 _ _ (s5 _ _ (s4 _ _ (s3 _ _ hacc)))
    have hr6 := hr.same (((s3.trans s4).trans s5).trans s6)
    have hE6 := (hE4.same s5).same s6
    have hlen1 : ((ys x0).map enc1).length = (ys x0).length := List.length_map _
    refine ⟨fun j k2 H7 => j + k2 = (ys x0).length ∧ SameB (fun a => C a ∨ a = D) H6 H7 ∧ Same H1 H7 ∧ ∃ acc, H7 D = some (.lst acc) ∧ RepAll (fun a => C a ∨ a = D) H7 acc (((xs.take i).flatMap fun x => (ys x).map (f x)) ++ ((ys x0).take j).map (f x0)),
      ⟨(ys x0).length, Nat.zero_add _, SameB.refl _, s16, acc, hD6, by simpa using hr6⟩, fun j k2 H7 hw7 => ?_⟩
    obtain ⟨em2, b7, s17, acc7, hacc7, hr7⟩ := hw7
    have apid : ∀ a o, H6 a = some o → ¬ (C a ∨ a = D) → ¬ (C a ∨ a = D) := fun _ _ _ c => c
    by_cases h2 : j < (ys x0).length
    · refine .inr ⟨W1.go _ j H7 apid b7 (by rw [hlen1]; exact h2), fun H8 => SameB (fun a => C a ∨ a = D) H6 H8 ∧ Same H1 H8 ∧ ∃ acc, H8 D = some (.lst acc) ∧ RepAll (fun a => C a ∨ a = D) H8 acc (((xs.take i).flatMap fun x => (ys x).map (f x)) ++ ((ys x0).take (j + 1)).map (f x0)), fun H8 q => ⟨k2 - 1, by omega, by omega, q⟩, fun x H8 hy8 => ?_⟩
      obtain ⟨s8, rx8⟩ := W1.yld _ j H7 x H8 apid (thr H7 _ s17 hacc7) b7 hy8
      have gj : (ys x0)[j]? = some (ys x0)[j] := List.getElem?_eq_getElem h2
      have yjm : (ys x0)[j] ∈ ys x0 := List.getElem_mem h2
      generalize (ys x0)[j] = y0 at gj yjm
      have r8 := rx8 (enc1 y0) (by rw [List.getElem?_map, gj]; rfl)
      have etk2 : (ys x0).take (j + 1) = (ys x0).take j ++ [y0] := by rw [List.take_add_one, gj]; rfl
      have hE8 : En (fun a => C a ∨ a = D) H8 σ4 (Γt x0) := hE6.mono (b7.trans (toB s8)) (thr H8 _ (s17.trans s8) (s8 _ _ hacc7))
      intro s0 H0 C' cl fp
      refine hg1 _ s0 H0 C' cl fp x0 ym y0 yjm (wipe σ4 vs1) H8 x (hE8.wipe _) r8 _ ?_
      intro σ9 H9 s9 hE9 hw9
      have idem2 : ∀ (vs us : List Nat), (∀ i ∈ us, i ∈ vs) → wipe (wipe σ4 us) vs = wipe σ4 vs := by
        intro vs us
        induction us with
        | nil => intro _; rfl
        | cons u us ih =>
          intro hu
          show wipe ((wipe σ4 us).set u none) vs = wipe σ4 vs
          rw [wipe_set (hu u List.mem_cons_self), ih fun i hi => hu i (List.mem_cons_of_mem _ hi)]
      refine ⟨(hw9 _ fun i hi => hi).trans (idem2 _ _ fun i hi => hi), fun s0 H0 C' cl fp => ?_⟩
      refine tsd_nil σ9 H9 hE9 _ fun H10 s10 => ?_
      rw [if_pos rfl]
      intro s0 H0 C' cl fp
      refine he _ s0 H0 C' cl fp x0 ym y0 yjm σ9 H10 (hE9.same s10) _ fun y H11 s11 r11 => ?_
      have s711 : Same H7 H11 := ((s8.trans s9).trans s10).trans s11
      have hD11 : H11 D = some (.lst acc7) := s711 _ _ hacc7
      have hr11 := hr7.same s711
      have hl : acc7.length < sizeLine := by
        have e1 := hr11.length
        rw [List.length_append, List.length_map, List.length_take] at e1
        have e2 : ((xs.take (i + 1)).flatMap fun x => (ys x).map (f x)).length ≤ (xs.flatMap fun x => (ys x).map (f x)).length := take_flat _ _ _
        rw [etk, List.flatMap_append, List.length_append] at e2
        have e3 : ([x0].flatMap fun x => (ys x).map (f x)).length = (ys x0).length := by simp
        omega
      refine ⟨acc7, hD11, hl, ?_⟩
      have sb : SameB (fun a => C a ∨ a = D) H11 (upd H11 D (.lst (acc7 ++ [y]))) := fun a o hc e => by rw [upd_ne fun q => hc (.inr q)]; exact e
      refine ⟨(b7.trans (toB s711)).trans sb, fun a o e => by rw [upd_ne (ne_of_none e hD)]; exact s711 a o (s17 a o e), acc7 ++ [y], upd_same, ?_⟩
      rw [etk2, List.map_append, ← List.append_assoc]
      exact (hr11.snoc r11).mono sb
    · have ej : j = (ys x0).length := by omega
      refine .inl ⟨W1.stop _ j H7 apid b7 (by rw [hlen1]; omega), s17, acc7, hacc7, ?_⟩
      rw [ej, List.take_length] at hr7
      rw [etk, List.flatMap_append]
      simpa using hr7
  · have ei : i = xs.length := by omega
    refine .inl ⟨W.stop _ i H2 ap (toB s2) (by rw [hlen]; omega), k _ _ (s1.trans s2) (.lst hDc hacc ?_)⟩
    rw [ei, List.take_length] at hr
    exact hr.apart fun a o _ q c => q (.inl c)
end
end
end T2

set_option Elab.async false
set_option linter.all false
set_option maxRecDepth 100000
set_option maxHeartbeats 4000000
/-! TbM: the mirror: pairs, companies, deeds, scripts in plain Lean. -/
namespace T2
open PySem PySem.Spec PySem.W PyProof.Rows L2
def rangeI (lo n : Int) : List Int := (List.range (n - lo).toNat).map fun (i : Nat) => lo + (i : Int)
theorem rangeD_eq (lo n : Int) : rangeD lo (n - lo).toNat = (rangeI lo n).map .int := by
  unfold rangeD rangeI
  rw [List.map_map] <;> rfl
theorem rangeD0_eq (n : Int) : rangeD 0 n.toNat = (rangeI 0 n).map .int := by
  have := rangeD_eq 0 n
  rwa [Int.sub_zero] at this
theorem mem_rangeI {lo n x : Int} : x ∈ rangeI lo n ↔ lo ≤ x ∧ x < n := by
  unfold rangeI
  simp only [List.mem_map, List.mem_range]
  constructor
  · rintro ⟨i, h, rfl⟩; omega
  · intro h; exact ⟨(x - lo).toNat, by omega, by omega⟩
theorem rangeI_len (lo n : Int) : (rangeI lo n).length = (n - lo).toNat := by simp [rangeI]
def pairs (n : Int) : List IP := (rangeI 0 n).flatMap fun a => (rangeI (a + 1) n).map fun b => (a, b)
theorem mem_pairs {n : Int} {p : IP} : p ∈ pairs n ↔ 0 ≤ p.1 ∧ p.1 < p.2 ∧ p.2 < n := by
  obtain ⟨a, b⟩ := p
  unfold pairs
  simp only [List.mem_flatMap, List.mem_map, mem_rangeI, Prod.mk.injEq]
  constructor
  · rintro ⟨x, h, y, h2, rfl, rfl⟩; omega
  · intro h; exact ⟨a, by omega, b, by omega, rfl, rfl⟩
/-- the order of pairs -/
def ltP (p q : IP) : Prop := p.1 < q.1 ∨ (p.1 = q.1 ∧ p.2 < q.2)
instance : DecidableRel ltP := fun p q => by unfold ltP; infer_instance
theorem ltP_irr (p : IP) : ¬ ltP p p := by unfold ltP; omega
theorem ltP_trans {p q r : IP} (h : ltP p q) (h2 : ltP q r) : ltP p r := by unfold ltP at *; omega
theorem ltP_tri {p q : IP} (h : p ≠ q) : ltP p q ∨ ltP q p := by
  have : ¬ (p.1 = q.1 ∧ p.2 = q.2) := fun e => h (Prod.ext e.1 e.2)
  unfold ltP; omega
theorem rangeI_sorted (lo n : Int) : (rangeI lo n).Pairwise (· < ·) := by
  unfold rangeI
  refine List.Pairwise.map _ (fun a b (h : a < b) => by omega) List.pairwise_lt_range
theorem pairs_sorted (n : Int) : (pairs n).Pairwise ltP := by
  unfold pairs
  rw [List.pairwise_flatMap]
  refine ⟨fun a _ => List.Pairwise.map _ (fun x y h => .inr ⟨rfl, h⟩) (rangeI_sorted _ _), ?_⟩
  refine (rangeI_sorted 0 n).imp fun {a b} h x hx y hy => ?_
  obtain ⟨u, _, rfl⟩ := List.mem_map.mp hx
  obtain ⟨v, _, rfl⟩ := List.mem_map.mp hy
  exact .inl h
theorem nodup_of_sorted {l : List IP} (h : l.Pairwise ltP) : l.Nodup := h.imp fun {a b} h => by
  intro e
  subst e
  exact ltP_irr _ h
theorem pairs_nodup (n : Int) : (pairs n).Nodup := nodup_of_sorted (pairs_sorted n)
theorem pairs_len12 : ∀ n : Fin 13, (pairs (n.val : Int)).length ≤ 66 := by decide +kernel
theorem pairs_len {n : Int} (h0 : 0 ≤ n) (h : n ≤ 12) : (pairs n).length ≤ 66 := by
  have := pairs_len12 ⟨n.toNat, by omega⟩
  simp only at this
  rwa [show ((n.toNat : Nat) : Int) = n by omega] at this
/-- the two in order -/
def pairOf (x y : Int) : IP := (if y < x then y else x, if y > x then y else x)
theorem pairOf_lt {x y : Int} (h : x < y) : pairOf x y = (x, y) := by
  unfold pairOf
  rw [if_neg (by omega), if_pos (by omega)]
theorem pairOf_gt {x y : Int} (h : y < x) : pairOf x y = (y, x) := by
  unfold pairOf
  rw [if_pos (by omega), if_neg (by omega)]
theorem pairOf_mem {n x y : Int} (hx : 0 ≤ x) (hx' : x < n) (hy : 0 ≤ y) (hy' : y < n) (h : x ≠ y) : pairOf x y ∈ pairs n := by
  rw [mem_pairs]
  rcases Int.lt_or_gt_of_ne h with h | h
  · rw [pairOf_lt h]; exact ⟨hx, h, hy'⟩
  · rw [pairOf_gt h]; exact ⟨hy, h, hx'⟩
def knM (c : Cmp) (x y : Int) : Bool := decide (pairOf x y ∈ c.2)
inductive Deed where
  | pairs (d : Int) (as : List Int) | takes (x y : Int) (as : List Int) | tie (x y : Int) (w : Str)
inductive Item where
  | deed (d : Deed) | ask (x y : Int) (yes no : List Deed)
def encInts (as : List Int) : PyData := .tuple (as.map .int)
def encDeed : Deed → PyData
  | .pairs d as => .tuple [.str "pairs", .int d, encInts as]
  | .takes x y as => .tuple [.str "takes", .int x, .int y, encInts as]
  | .tie x y w => .tuple [.str "tie", .int x, .int y, .str w]
def encItem : Item → PyData
  | .deed d => encDeed d
  | .ask x y yes no => .tuple [.str "ask", .int x, .int y, .tuple (yes.map encDeed), .tuple (no.map encDeed)]
def encS (s : List Item) : PyData := .tuple (s.map encItem)
def oks (as : List Int) (n : Nat) : Prop := as.length = n ∧ ∀ a ∈ as, 0 ≤ a ∧ a ≤ 1
def two (named x y : Int) : Prop := 0 ≤ x ∧ x < named ∧ 0 ≤ y ∧ y < named ∧ x ≠ y
def Deed.ok (named : Int) : Deed → Prop
  | .pairs d as => 0 ≤ d ∧ d < named ∧ oks as 6
  | .takes x y as => two named x y ∧ oks as 4
  | .tie x y w => two named x y ∧ (w = "know" ∨ w = "part" ∨ w = "turn")
def Item.ok (named : Int) : Item → Prop
  | .deed d => d.ok named
  | .ask x y yes no => two named x y ∧ (∀ d ∈ yes, d.ok named) ∧ ∀ d ∈ no, d.ok named
def Item.cnt : Item → Nat
  | .deed _ => 1
  | .ask _ _ yes no => 1 + yes.length + no.length
def cntS (s : List Item) : Nat := (s.map Item.cnt).sum
def okS (named : Int) (s : List Item) : Prop := (∀ i ∈ s, i.ok named) ∧ cntS s ≤ 30
def bI (b : Bool) : Int := if b then 1 else 0
/-- does p know each other behind the deed? -/
def ansM (c : Cmp) (d : Deed) (p : IP) : Bool :=
  match d with
  | .pairs d as => if d = p.1 ∨ d = p.2 then decide (p ∈ c.2) else decide (as.getD (3 * bI (decide (p ∈ c.2)) + (bI (knM c d p.1) + bI (knM c d p.2))).toNat 0 = 1)
  | .takes x y as => if (x = p.1 ∨ x = p.2) ∧ ¬ (y = p.1 ∨ y = p.2) then decide (as.getD (2 * bI (decide (p ∈ c.2)) + bI (knM c y (p.1 + p.2 - x))).toNat 0 = 1) else decide (p ∈ c.2)
  | .tie x y w => if pairOf x y = p then (if w = "turn" then !decide (p ∈ c.2) else decide (w = "know")) else decide (p ∈ c.2)
def behindM (c : Cmp) (d : Deed) : Cmp := (c.1, (pairs c.1).filter (ansM c d))
def stepM (c : Cmp) : Item → Cmp
  | .deed d => behindM c d
  | .ask x y yes no => (if knM c x y then yes else no).foldl behindM c
def runM (c : Cmp) (s : List Item) : Cmp := s.foldl stepM c
/-- the ends, and the pairs of scripts that end apart -/
def endAt (c : Cmp) (ss : List (List Item)) (i : Int) : Cmp := runM c (ss.getD i.toNat [])
def partedM (c : Cmp) (ss : List (List Item)) : List IP := (pairs ss.length).filter fun p => !decide (endAt c ss p.1 = endAt c ss p.2)
def lotsM (ps : List IP) : List (List IP) := ps.foldl (fun found p => found ++ found.map (· ++ [p])) [[]]
def srtP (ps : List IP) : List IP := ps.mergeSort (dataLe false encP)
def freshM (named : Int) : List IP := (pairs (named + 2)).filter fun p => decide (named ≤ p.2)
/-- a company in its form: the pairs of its people, each at most once, in order -/
def canon (c : Cmp) : Prop := c.2.Sublist (pairs c.1)
/-! ### a block's names, by a test -/
def blkB (N : List Str) (sc scope : Scope) (own : List (Str × Nat)) : Bool :=
  decide (scope.kind = .function) && scope.names.all (fun y => decide (scope.names.lookup y.1 = some y.2)) && own.all (fun p => decide (N[p.2]? = some p.1)) &&
    scope.names.all (fun y => !decide (y.2 = .free) || decide (sc.names.lookup y.1 = some .cell) || decide (sc.names.lookup y.1 = some .free)) &&
    scope.names.all (fun y => !(decide (y.2 = .local) || decide (y.2 = .cell)) || decide (y.1 ∈ own.map (·.1)) || decide (y.1 ∉ N))
theorem blk_of {N : List Str} {sc scope : Scope} {own : List (Str × Nat)} (h : blkB N sc scope own = true) : BlkOk N sc scope own := by
  unfold blkB at h
  simp only [Bool.and_eq_true, List.all_eq_true, Bool.or_eq_true, Bool.not_eq_true', decide_eq_true_eq, decide_eq_false_iff_not] at h
  obtain ⟨⟨⟨⟨h1, h2⟩, h3⟩, h4⟩, h5⟩ := h
  refine ⟨h1, h2, h3, fun y hy e => ?_, fun y hy e => ?_⟩
  · rcases h4 y hy with (q | q) | q
    · exact absurd e q
    · exact .inl q
    · exact .inr q
  · rcases h5 y hy with (q | q) | q
    · have : (decide (y.2 = .local) || decide (y.2 = .cell)) = true := by simpa using e
      rw [this] at q
      cases q
    · exact .inl q
    · exact .inr q
theorem u1 {k : Nat} {A : Around} (r : Room k A) : A.units + 1 < cLine := by have := r.un; omega
theorem u65 {k : Nat} {A : Around} (r : Room k A) : A.units + 65 < cLine := by have := r.un; omega
end T2

set_option Elab.async false
set_option linter.all false
set_option maxRecDepth 100000
set_option maxHeartbeats 4000000
/-! TbD2: the defs of companies. -/
namespace T2
open PySem PySem.Spec PyProof.Rows L2
theorem GD.sub {X : Cx} {C : Addr → Prop} {tg : Expr} {Γ Γ' : List Sd} {d : PyData} {ws us : List Nat} (h : GD X C tg Γ d Γ' ws) (s : ∀ i ∈ ws, i ∈ us) : GD X C tg Γ d Γ' us := fun σ H v hE r Q k =>
  h σ H v hE r Q fun σ' H' s' e w => k σ' H' s' e fun vs hv => w vs fun i hi => hv i (s i hi)
theorem getP_map {p : IP} {f : IP → PyData} : ∀ {l : List IP}, p ∈ l → getP (l.map fun p => (p, f p)) p = some (f p)
  | q :: l, h => by
    by_cases e : q = p
    · subst e
      simp [getP]
    · have h' : p ∈ l := by
        rcases List.mem_cons.mp h with e' | h'
        · exact absurd e'.symm e
        · exact h'
      have ih := getP_map (f := f) h'
      unfold getP at ih ⊢
      rw [List.map_cons, List.find?_cons_of_neg (by simpa using e)]
      exact ih
section
variable {P : Program} {w : World} {K : PySem.W.Frag} {mg : Str → Option Value} {base : Heap}
abbrev D_is_whole (P : Program) (w : World) (K : PySem.W.Frag) (mg : Str → Option Value) (base : Heap) : Prop := Dfn P w K mg base "is_whole" ["value", "low", "high"] 1 (spF rIsWhole)
def rIsTupleOf (ds : List PyData) (d : PyData) : Prop := ∃ (xs : List PyData) (lo hi : Int), ds = [.tuple xs, .int lo, .int hi] ∧ d = .bool (decide (lo ≤ xs.length) && decide ((xs.length : Int) ≤ hi))
abbrev N_is_tuple_of : List Str := ["value", "low", "high"]
abbrev P_is_tuple_of : List Str := ["value", "low", "high"]
theorem sc_is_tuple_of : FnScope N_is_tuple_of P_is_tuple_of (defScope sis_tuple_of) := ⟨rfl, rfl, rfl, by decide +kernel, rfl, by decide +kernel, by decide +kernel⟩
theorem bk_is_tuple_of {scope : Scope} {own : List (Str × Nat)} (h : blkB N_is_tuple_of (defScope sis_tuple_of) scope own = true) : BlkOk N_is_tuple_of (defScope sis_tuple_of) scope own := blk_of h
abbrev D_is_tuple_of (P : Program) (w : World) (K : PySem.W.Frag) (mg : Str → Option Value) (base : Heap) : Prop := Dfn P w K mg base "is_tuple_of" P_is_tuple_of 1 (spF rIsTupleOf)
theorem ok_is_tuple_of (M : Mg K mg) (T : At K mg "is_tuple_of" sis_tuple_of)  : D_is_tuple_of P w K mg base := by
  refine dfn_of T sc_is_tuple_of (fun _ _ _ _ _ _ us hl => match us, hl with | [_, _, _], _ => rfl) (fun ds d h => by obtain ⟨_, _, _, rfl, _⟩ := h; rfl) ?_
  intro f cdv A outer s H E hr C ds d σ h hE Q k
  obtain ⟨xs, lo, hi, rfl, rfl⟩ := h
  refine s_ret (ED.is (ed_and (ed_isi "tuple" "tuple" true M.isinstance M.tuple (ed_var 0) (by decide +kernel) (by decide +kernel)) fun _ =>
    ed_one (ed_chain op_le op_le rd_le rd_le (ed_var 1) (ed_lenT M.len (ed_var 0)) (ed_var 2))) ?_) ⟨Same.refl H, hE⟩ k
  rfl
/-! ### are_whole -/
def rAreWhole (ds : List PyData) (d : PyData) : Prop := ∃ (ns : List Int) (lo hi : Int), ds = [encInts ns, .int lo, .int hi] ∧ ns.length ≤ 100 ∧ d = .bool (ns.all fun i => decide (lo ≤ i) && decide (i ≤ hi))
abbrev N_are_whole : List Str := ["value", "low", "high", "item"]
abbrev P_are_whole : List Str := ["value", "low", "high"]
theorem sc_are_whole : FnScope N_are_whole P_are_whole (defScope sare_whole) := ⟨rfl, rfl, rfl, by decide +kernel, rfl, by decide +kernel, by decide +kernel⟩
theorem bk_are_whole {scope : Scope} {own : List (Str × Nat)} (h : blkB N_are_whole (defScope sare_whole) scope own = true) : BlkOk N_are_whole (defScope sare_whole) scope own := blk_of h
abbrev D_are_whole (P : Program) (w : World) (K : PySem.W.Frag) (mg : Str → Option Value) (base : Heap) : Prop := Dfn P w K mg base "are_whole" P_are_whole 2 (spF rAreWhole)
theorem ok_are_whole (M : Mg K mg) (T : At K mg "are_whole" sare_whole) (g_is_whole : D_is_whole P w K mg base) : D_are_whole P w K mg base := by
  refine dfn_of T sc_are_whole (fun _ _ _ _ _ _ us hl => match us, hl with | [_, _, _], _ => rfl) (fun ds d h => by obtain ⟨_, _, _, rfl, _⟩ := h; rfl) ?_
  intro f cdv A outer s H E hr C ds d σ h hE Q k
  obtain ⟨ns, lo, hi, rfl, hz, rfl⟩ := h
  refine s_ret (ED.is (ed_all (bs := ns.map fun i => decide (lo ≤ i) && decide (i ≤ hi)) rfl M.all (ED.is
    (ed_lc1 (xs := ns) (enc := PyData.int) (own := [("item", 3)]) (fun i => [.dat (encInts ns), .dat (.int lo), .dat (.int hi), .dat (.int i)]) (fun i => .bool (decide (lo ≤ i) && decide (i ≤ hi))) rfl sc_are_whole.nd
      (bk_are_whole (by decide +kernel)) (id_tup (ed_var 0)) (fun C1 s H C' cl fp y _ => gd_name 3 sc_are_whole.nd)
      (fun C1 s H C' cl fp y _ => ed_call g_is_whole hr ⟨_, _, _, rfl, rfl⟩ (ad_cons (ed_var 3) (ad_cons (ed_var 1) (ad_cons (ed_var 2) ad_nil)))) (by show ns.length < 2 ^ 24; omega)) ?_)) ?_) ⟨Same.refl H, hE⟩ k
  · rw [List.map_map]; rfl
  · rw [List.all_map]; rfl
/-! ### pairs_of -/
def rPairsOf (ds : List PyData) (d : PyData) : Prop := ∃ n : Int, ds = [.int n] ∧ 0 ≤ n ∧ n ≤ 12 ∧ d = encL (pairs n)
abbrev N_pairs_of : List Str := ["people", "one", "other"]
abbrev P_pairs_of : List Str := ["people"]
theorem sc_pairs_of : FnScope N_pairs_of P_pairs_of (defScope spairs_of) := ⟨rfl, rfl, rfl, by decide +kernel, rfl, by decide +kernel, by decide +kernel⟩
theorem bk_pairs_of {scope : Scope} {own : List (Str × Nat)} (h : blkB N_pairs_of (defScope spairs_of) scope own = true) : BlkOk N_pairs_of (defScope spairs_of) scope own := blk_of h
abbrev D_pairs_of (P : Program) (w : World) (K : PySem.W.Frag) (mg : Str → Option Value) (base : Heap) : Prop := Dfn P w K mg base "pairs_of" P_pairs_of 1 (spF rPairsOf)
theorem ok_pairs_of (M : Mg K mg) (T : At K mg "pairs_of" spairs_of)  : D_pairs_of P w K mg base := by
  refine dfn_of T sc_pairs_of (fun _ _ _ _ _ _ us hl => match us, hl with | [_], _ => rfl) (fun ds d h => by obtain ⟨_, rfl, _⟩ := h; rfl) ?_
  intro f cdv A outer s H E hr C ds d σ h hE Q k
  obtain ⟨n, rfl, h0, hn, rfl⟩ := h
  have e : (rangeI 0 n).flatMap (fun a => (rangeI (a + 1) n).map fun b => encP (a, b)) = (pairs n).map encP := by
    unfold pairs
    rw [List.map_flatMap]
    congr 1
    funext a
    rw [List.map_map]
    rfl
  refine s_ret (ED.is (ed_lc2 (xs := rangeI 0 n) (ys := fun a => rangeI (a + 1) n) (enc := PyData.int) (enc1 := PyData.int) (own := [("one", 1), ("other", 2)]) (vs1 := [2]) (fun a => [.dat (.int n), .dat (.int a), .any]) (fun a b => [.dat (.int n), .dat (.int a), .dat (.int b)]) (fun a b => encP (a, b)) rfl sc_pairs_of.nd
      (bk_pairs_of (by decide +kernel)) (by decide) (by rw [← rangeD0_eq]; exact id_range1 M.range (ed_var 0) (by omega)) (fun C1 s H C' cl fp y _ => (gd_name 1 sc_pairs_of.nd).sub (by decide))
      (fun C1 s H C' cl fp y hy => by
        rw [← rangeD_eq]
        rw [mem_rangeI] at hy
        exact id_range2 M.range (ed_add (ed_var 1) ed_int) (ed_var 0) (by omega)) (fun C1 s H C' cl fp x _ y _ => gd_name 2 sc_pairs_of.nd)
      (fun C1 s H C' cl fp x _ y _ => ed_tup (ad_cons (ed_var 1) (ad_cons (ed_var 2) ad_nil))) ?_) ?_) ⟨Same.refl H, hE⟩ k
  · rw [e, List.length_map]
    have := pairs_len h0 hn
    show _ < 2 ^ 24
    omega
  · rw [e]; rfl
/-! ### pair_of -/
def rPairOf (ds : List PyData) (d : PyData) : Prop := ∃ x y : Int, ds = [.int x, .int y] ∧ d = encP (pairOf x y)
abbrev N_pair_of : List Str := ["one", "other"]
abbrev P_pair_of : List Str := ["one", "other"]
theorem sc_pair_of : FnScope N_pair_of P_pair_of (defScope spair_of) := ⟨rfl, rfl, rfl, by decide +kernel, rfl, by decide +kernel, by decide +kernel⟩
theorem bk_pair_of {scope : Scope} {own : List (Str × Nat)} (h : blkB N_pair_of (defScope spair_of) scope own = true) : BlkOk N_pair_of (defScope spair_of) scope own := blk_of h
abbrev D_pair_of (P : Program) (w : World) (K : PySem.W.Frag) (mg : Str → Option Value) (base : Heap) : Prop := Dfn P w K mg base "pair_of" P_pair_of 1 (spF rPairOf)
theorem ok_pair_of (M : Mg K mg) (T : At K mg "pair_of" spair_of)  : D_pair_of P w K mg base := by
  refine dfn_of T sc_pair_of (fun _ _ _ _ _ _ us hl => match us, hl with | [_, _], _ => rfl) (fun ds d h => by obtain ⟨_, _, rfl, _⟩ := h; rfl) ?_
  intro f cdv A outer s H E hr C ds d σ h hE Q k
  obtain ⟨x, y, rfl, rfl⟩ := h
  exact s_ret (ed_tup (ad_cons (ed_min rfl M.min (ed_var 0) (ed_var 1)) (ad_cons (ed_max rfl M.max (ed_var 0) (ed_var 1)) ad_nil))) ⟨Same.refl H, hE⟩ k
/-! ### fits_tie -/
def rFitsTie (ds : List PyData) (d : PyData) : Prop := ∃ (n : Int) (p : IP), ds = [.int n, encP p] ∧ p ∈ pairs n ∧ d = .bool true
abbrev N_fits_tie : List Str := ["people", "value"]
abbrev P_fits_tie : List Str := ["people", "value"]
theorem sc_fits_tie : FnScope N_fits_tie P_fits_tie (defScope sfits_tie) := ⟨rfl, rfl, rfl, by decide +kernel, rfl, by decide +kernel, by decide +kernel⟩
theorem bk_fits_tie {scope : Scope} {own : List (Str × Nat)} (h : blkB N_fits_tie (defScope sfits_tie) scope own = true) : BlkOk N_fits_tie (defScope sfits_tie) scope own := blk_of h
abbrev D_fits_tie (P : Program) (w : World) (K : PySem.W.Frag) (mg : Str → Option Value) (base : Heap) : Prop := Dfn P w K mg base "fits_tie" P_fits_tie 3 (spF rFitsTie)
theorem ok_fits_tie (M : Mg K mg) (T : At K mg "fits_tie" sfits_tie) (g_is_tuple_of : D_is_tuple_of P w K mg base) (g_are_whole : D_are_whole P w K mg base) : D_fits_tie P w K mg base := by
  refine dfn_of T sc_fits_tie (fun _ _ _ _ _ _ us hl => match us, hl with | [_, _], _ => rfl) (fun ds d h => by obtain ⟨_, _, rfl, _⟩ := h; rfl) ?_
  intro f cdv A outer s H E hr C ds d σ h hE Q k
  obtain ⟨n, p, rfl, hp, rfl⟩ := h
  rw [mem_pairs] at hp
  refine s_ret (ED.is (ed_and (ed_call g_is_tuple_of (hr.mono (by decide)) ⟨[.int p.1, .int p.2], 2, 2, rfl, rfl⟩ (ad_cons (ed_var 1) (ad_cons ed_int (ad_cons ed_int ad_nil)))) fun _ =>
    ed_and (ed_call g_are_whole hr ⟨[p.1, p.2], 0, n - 1, rfl, Nat.le_of_ble_eq_true rfl, rfl⟩ (ad_cons (ed_var 1) (ad_cons ed_int (ad_cons (ed_subI (ed_var 0) ed_int) ad_nil)))) fun _ =>
    ed_one (ed_cmp op_lt rd_lt (ed_ixT (ed_var 1) ed_int) (ed_ixT (ed_var 1) ed_int))) ?_) ⟨Same.refl H, hE⟩ k
  simp
  omega
/-! ### company_by -/
def rCompanyBy (ds : List PyData) (d : PyData) : Prop := ∃ (n : Int) (g : IP → Bool), ds = [.int n, .dict (dictD ((pairs n).map fun p => (p, .bool (g p))))] ∧ 0 ≤ n ∧ n ≤ 12 ∧ d = encC (n, (pairs n).filter g)
abbrev N_company_by : List Str := ["people", "ties", "pair"]
abbrev P_company_by : List Str := ["people", "ties"]
theorem sc_company_by : FnScope N_company_by P_company_by (defScope scompany_by) := ⟨rfl, rfl, rfl, by decide +kernel, rfl, by decide +kernel, by decide +kernel⟩
theorem bk_company_by {scope : Scope} {own : List (Str × Nat)} (h : blkB N_company_by (defScope scompany_by) scope own = true) : BlkOk N_company_by (defScope scompany_by) scope own := blk_of h
abbrev D_company_by (P : Program) (w : World) (K : PySem.W.Frag) (mg : Str → Option Value) (base : Heap) : Prop := Dfn P w K mg base "company_by" P_company_by 2 (spF rCompanyBy)
theorem ok_company_by (M : Mg K mg) (T : At K mg "company_by" scompany_by) (g_pairs_of : D_pairs_of P w K mg base) : D_company_by P w K mg base := by
  refine dfn_of T sc_company_by (fun _ _ _ _ _ _ us hl => match us, hl with | [_, _], _ => rfl) (fun ds d h => by obtain ⟨_, _, rfl, _⟩ := h; rfl) ?_
  intro f cdv A outer s H E hr C ds d σ h hE Q k
  obtain ⟨n, g, rfl, h0, hn, rfl⟩ := h
  have hl := pairs_len h0 hn
  refine s_ret (ED.is (ed_tup (ad_cons (ed_var 0) (ad_cons (ed_tupL M.tuple (ed_lc (xs := pairs n) (enc := encP) (own := [("pair", 2)]) (fun p => [.dat (.int n), .dat (.dict (dictD ((pairs n).map fun p => (p, .bool (g p))))), .dat (encP p)]) g encP rfl sc_company_by.nd
      (bk_company_by (by decide +kernel)) (id_list (ed_call g_pairs_of hr ⟨n, rfl, h0, hn, rfl⟩ (ad_cons (ed_var 0) ad_nil))) (fun C1 s H C' cl fp y _ => gd_name 2 sc_company_by.nd)
      (fun C1 s H C' cl fp y hy => tsd_one (td_val (ed_get (u1 hr) (ed_var 1) (ed_var 2) (getP_map hy))))
      (fun C1 s H C' cl fp y _ _ => ed_var 2) (by show _ < 2 ^ 24; omega))) ad_nil))) rfl) ⟨Same.refl H, hE⟩ k
/-! ### ties_in -/
def tiesD (c : Cmp) : PyData := .dict (dictD ((pairs c.1).map fun p => (p, .bool (decide (p ∈ c.2)))))
def rTiesIn (ds : List PyData) (d : PyData) : Prop := ∃ c : Cmp, ds = [encC c] ∧ 0 ≤ c.1 ∧ c.1 ≤ 12 ∧ d = tiesD c
abbrev N_ties_in : List Str := ["company", "pair"]
abbrev P_ties_in : List Str := ["company"]
theorem sc_ties_in : FnScope N_ties_in P_ties_in (defScope sties_in) := ⟨rfl, rfl, rfl, by decide +kernel, rfl, by decide +kernel, by decide +kernel⟩
theorem bk_ties_in {scope : Scope} {own : List (Str × Nat)} (h : blkB N_ties_in (defScope sties_in) scope own = true) : BlkOk N_ties_in (defScope sties_in) scope own := blk_of h
abbrev D_ties_in (P : Program) (w : World) (K : PySem.W.Frag) (mg : Str → Option Value) (base : Heap) : Prop := Dfn P w K mg base "ties_in" P_ties_in 2 (spF rTiesIn)
theorem ok_ties_in (M : Mg K mg) (T : At K mg "ties_in" sties_in) (g_pairs_of : D_pairs_of P w K mg base) : D_ties_in P w K mg base := by
  refine dfn_of T sc_ties_in (fun _ _ _ _ _ _ us hl => match us, hl with | [_], _ => rfl) (fun ds d h => by obtain ⟨_, rfl, _⟩ := h; rfl) ?_
  intro f cdv A outer s H E hr C ds d σ h hE Q k
  obtain ⟨c, rfl, h0, hn, rfl⟩ := h
  have hl := pairs_len h0 hn
  refine s_ret (ed_dictP (kvs := (pairs c.1).map fun p => (p, .bool (decide (p ∈ c.2)))) rfl hr.units M.dict (ED.is (ed_lc1 (xs := pairs c.1) (enc := encP) (own := [("pair", 1)]) (fun p => [.dat (encC c), .dat (encP p)]) (fun p => .tuple [encP p, .bool (decide (p ∈ c.2))]) rfl sc_ties_in.nd
      (bk_ties_in (by decide +kernel)) (id_list (ed_call g_pairs_of hr ⟨c.1, rfl, h0, hn, rfl⟩ (ad_cons (ed_ixT (ed_var 0) ed_int) ad_nil))) (fun C1 s H C' cl fp y _ => gd_name 1 sc_ties_in.nd)
      (fun C1 s H C' cl fp y hy => ed_tup (ad_cons (ed_var 1) (ad_cons (ed_cmp (op_inT (u65 hr)) rd_inT (ed_var 1) (ed_ixT (ed_var 0) ed_int)) ad_nil)))
      (by show _ < 2 ^ 24; omega)) ?_) ?_ ?_) ⟨Same.refl H, hE⟩ k
  · rw [List.map_map]; rfl
  · rw [List.map_map]
    have : ((fun e : IP × PyData => e.1) ∘ fun p : IP => (p, PyData.bool (decide (p ∈ c.2)))) = id := rfl
    rw [this, List.map_id]
    exact pairs_nodup _
  · rw [List.length_map]
    show _ ≤ 2 ^ 24
    omega
end
end T2

set_option Elab.async false
set_option linter.all false
set_option maxRecDepth 100000
set_option maxHeartbeats 4000000
/-! TbD3: what a deed does, companies checked. -/
namespace T2
open PySem PySem.Spec PyProof.Rows L2
theorem atI_nat {xs : List PyData} {d : PyData} {i : Int} (h0 : 0 ≤ i) (h : xs[i.toNat]? = some d) : atI xs i = some d := by
  obtain ⟨hl, _⟩ := List.getElem?_eq_some_iff.mp h
  unfold atI ixN
  rw [if_pos h0, if_pos (by omega)]
  exact h
theorem atI_head {x : PyData} {xs : List PyData} : atI (x :: xs) 0 = some x := atI_nat (Int.le_refl _) rfl
theorem atI_ints {as : List Int} {i : Int} (h0 : 0 ≤ i) (h : i.toNat < as.length) : atI (as.map PyData.int) i = some (.int (as.getD i.toNat 0)) := by
  refine atI_nat h0 ?_
  rw [List.getElem?_map, List.getElem?_eq_getElem h, List.getD_eq_getElem?_getD, List.getElem?_eq_getElem h]
  rfl
theorem cut_tail (x : PyData) (xs : List PyData) : cutD (x :: xs) (some 1) none = xs := by
  unfold cutD
  rw [HT.sIx_none, show (some (1 : Int)) = some ((1 : Nat) : Int) from rfl, HT.sIx_nat, List.length_cons]
  rw [show min 1 (xs.length + 1) = 1 by omega, List.drop_one, List.tail_cons, show xs.length + 1 - 1 = xs.length by omega, List.take_length]
theorem cut_drop (xs : List PyData) : cutD xs (some 1) none = xs.drop 1 := by
  cases xs with
  | nil => rfl
  | cons x xs => rw [cut_tail]; rfl
theorem bI_cases (b : Bool) : bI b = 0 ∨ bI b = 1 := by cases b <;> simp [bI]
theorem sum_two (g : Int → Bool) (x y : Int) : ((([x, y].filter g).map fun _ => (1 : Int))).sum = bI (g x) + bI (g y) := by
  cases hx : g x <;> cases hy : g y <;> simp [List.filter_cons, hx, hy, bI]
theorem lexLt_pair {p q : IP} (h : ltP p q) : HT.lexLt [p.1, p.2] [q.1, q.2] = true := by
  rw [HT.lexLt_cons, HT.lexLt_cons]
  unfold ltP at h
  by_cases e : p.1 = q.1
  · rw [if_pos e, if_neg (by omega)]
    exact decide_eq_true (by omega)
  · rw [if_neg e]
    exact decide_eq_true (by omega)
theorem rd_ltP {X : Cx} {C : Addr → Prop} {p q : IP} : RD2 C (rLtT X.K) (encP p) (encP q) (.bool (HT.lexLt [p.1, p.2] [q.1, q.2])) := rd_ltT (ns := [p.1, p.2]) (ms := [q.1, q.2])
section
variable {P : Program} {w : World} {K : PySem.W.Frag} {mg : Str → Option Value} {base : Heap}
/-! ### fits_company -/
def rFitsCompany (ds : List PyData) (d : PyData) : Prop := ∃ (n : Int) (c : Cmp), ds = [.int n, encC c] ∧ 0 ≤ n ∧ n ≤ c.1 ∧ c.1 ≤ 9 ∧ canon c ∧ d = .bool true
abbrev N_fits_company : List Str := ["named", "value", "tie", "one", "other"]
abbrev P_fits_company : List Str := ["named", "value"]
theorem sc_fits_company : FnScope N_fits_company P_fits_company (defScope sfits_company) := ⟨rfl, rfl, rfl, by decide +kernel, rfl, by decide +kernel, by decide +kernel⟩
theorem bk_fits_company {scope : Scope} {own : List (Str × Nat)} (h : blkB N_fits_company (defScope sfits_company) scope own = true) : BlkOk N_fits_company (defScope sfits_company) scope own := blk_of h
abbrev D_fits_company (P : Program) (w : World) (K : PySem.W.Frag) (mg : Str → Option Value) (base : Heap) : Prop := Dfn P w K mg base "fits_company" P_fits_company 4 (spF rFitsCompany)
theorem ok_fits_company (M : Mg K mg) (T : At K mg "fits_company" sfits_company) (g_is_tuple_of : D_is_tuple_of P w K mg base) (g_is_whole : D_is_whole P w K mg base) (g_fits_tie : D_fits_tie P w K mg base) : D_fits_company P w K mg base := by
  refine dfn_of T sc_fits_company (fun _ _ _ _ _ _ us hl => match us, hl with | [_, _], _ => rfl) (fun ds d h => by obtain ⟨_, _, rfl, _⟩ := h; rfl) ?_
  intro f cdv A outer s H E hr C ds d σ h hE Q k
  obtain ⟨n, c, rfl, h0, h1, h9, hc, rfl⟩ := h
  have hl := pairs_len (n := c.1) (by omega) (by omega)
  have hl2 := hc.length_le
  have srt : c.2.Pairwise ltP := List.Pairwise.sublist hc (pairs_sorted c.1)
  refine s_skip (TD.is (td_w (wd_or (td_not (td_val (ed_call g_is_tuple_of (hr.mono (by decide)) ⟨_, 2, 2, rfl, rfl⟩ (ad_cons (ed_var 1) (ad_cons ed_int (ad_cons ed_int ad_nil)))))) fun _ =>
    wd_or (td_not (td_val (ed_call g_is_whole (hr.mono (by decide)) ⟨c.1, n, 9, rfl, rfl⟩ (ad_cons (ed_ixT (ed_var 1) ed_int) (ad_cons (ed_var 0) (ad_cons (ed_globI M.PEOPLE) ad_nil)))))) fun _ =>
    wd_or1 (td_not (td_val (ed_isi "tuple" "tuple" true M.isinstance M.tuple (ed_ixT (ed_var 1) ed_int) (by decide +kernel) (by decide +kernel)))))) ?_) ⟨Same.refl H, hE⟩ fun H1 S1 => ?_
  · simp
    omega
  refine s_skip (TD.is (td_not (td_val (ed_all (bs := c.2.map fun _ => true) rfl M.all (ED.is
    (ed_lc1 (xs := c.2) (enc := encP) (own := [("tie", 2)]) (fun p => [.dat (.int n), .dat (encC c), .dat (encP p), .any, .any]) (fun p => .bool true) rfl sc_fits_company.nd
      (bk_fits_company (by decide +kernel)) (id_tup (ed_ixT (ed_var 1) ed_int)) (fun C1 s H C' cl fp y _ => gd_name 2 sc_fits_company.nd)
      (fun C1 s H C' cl fp y hy => ed_call g_fits_tie hr ⟨c.1, y, rfl, hc.subset hy, rfl⟩ (ad_cons (ed_ixT (ed_var 1) ed_int) (ad_cons (ed_var 2) ad_nil))) (by show _ < 2 ^ 24; omega)) ?_)))) ?_) S1 fun H2 S2 => ?_
  · rw [List.map_map]; rfl
  · rw [List.all_map]
    simp
  refine s_ret (ED.is (ed_all (bs := (c.2.zip (c.2.drop 1)).map fun q => HT.lexLt [q.1.1, q.1.2] [q.2.1, q.2.2]) rfl M.all (ED.is
    (ed_lc1 (xs := c.2.zip (c.2.drop 1)) (enc := fun q => .tuple [encP q.1, encP q.2]) (own := [("one", 3), ("other", 4)]) (fun q => [.dat (.int n), .dat (encC c), .any, .dat (encP q.1), .dat (encP q.2)]) (fun q => .bool (HT.lexLt [q.1.1, q.1.2] [q.2.1, q.2.2])) rfl sc_fits_company.nd
      (bk_fits_company (by decide +kernel)) (by
        have e : (c.2.zip (c.2.drop 1)).map (fun q => PyData.tuple [encP q.1, encP q.2]) = zipD (c.2.map encP) (cutD (c.2.map encP) (some 1) none) := by
          rw [cut_drop]
          unfold zipD
          rw [← List.map_drop, List.zip_map, List.map_map]
          rfl
        rw [e]
        exact id_zipT M.zip (ed_ixT (ed_var 1) ed_int) (ed_slT (ed_ixT (ed_var 1) ed_int) (od_some ed_int) od_none)) (fun C1 s H C' cl fp y _ => gd_tup rfl (gsd_cons (gd_name 3 sc_fits_company.nd) (gsd_cons (gd_name 4 sc_fits_company.nd) gsd_nil)))
      (fun C1 s H C' cl fp y hy => ed_cmp (op_ltT hr.units0) rd_ltP (ed_var 3) (ed_var 4)) (by
        rw [List.length_zip]
        show _ < 2 ^ 24
        omega)) ?_)) ?_) S2 k
  · rw [List.map_map]; rfl
  · congr 1
    rw [List.all_map, List.all_eq_true]
    intro q hq
    obtain ⟨i, hi, e⟩ := List.mem_iff_getElem.mp hq
    rw [List.getElem_zip] at e
    have := List.pairwise_iff_getElem.mp srt i (i + 1) (by rw [List.length_zip] at hi; omega) (by rw [List.length_zip, List.length_drop] at hi; omega) (by omega)
    subst e
    exact lexLt_pair (by simpa [Nat.add_comm] using this)
/-! ### need_named, need_company -/
def rNeedNamed (ds : List PyData) (d : PyData) : Prop := ∃ n : Int, ds = [.int n] ∧ 1 ≤ n ∧ n ≤ 3 ∧ d = .none
abbrev N_need_named : List Str := ["value"]
abbrev P_need_named : List Str := ["value"]
theorem sc_need_named : FnScope N_need_named P_need_named (defScope sneed_named) := ⟨rfl, rfl, rfl, by decide +kernel, rfl, by decide +kernel, by decide +kernel⟩
theorem bk_need_named {scope : Scope} {own : List (Str × Nat)} (h : blkB N_need_named (defScope sneed_named) scope own = true) : BlkOk N_need_named (defScope sneed_named) scope own := blk_of h
abbrev D_need_named (P : Program) (w : World) (K : PySem.W.Frag) (mg : Str → Option Value) (base : Heap) : Prop := Dfn P w K mg base "need_named" P_need_named 2 (spF rNeedNamed)
theorem ok_need_named (M : Mg K mg) (T : At K mg "need_named" sneed_named) (g_is_whole : D_is_whole P w K mg base) : D_need_named P w K mg base := by
  refine dfn_of T sc_need_named (fun _ _ _ _ _ _ us hl => match us, hl with | [_], _ => rfl) (fun ds d h => by obtain ⟨_, rfl, _⟩ := h; rfl) ?_
  intro f cdv A outer s H E hr C ds d σ h hE Q k
  obtain ⟨n, rfl, h1, h3, rfl⟩ := h
  refine s_skip (TD.is (td_not (td_val (ed_call g_is_whole hr ⟨n, 1, 3, rfl, rfl⟩ (ad_cons (ed_var 0) (ad_cons ed_int (ad_cons (ed_globI M.NAMED) ad_nil)))))) ?_) ⟨Same.refl H, hE⟩ fun H1 S1 => ?_
  · simp
    omega
  exact s_nil (k _ _ S1.sm .non)
def rNeedCompany (ds : List PyData) (d : PyData) : Prop := ∃ (n : Int) (c : Cmp), ds = [.int n, encC c] ∧ 0 ≤ n ∧ n ≤ c.1 ∧ c.1 ≤ 9 ∧ canon c ∧ d = .none
abbrev N_need_company : List Str := ["named", "value"]
abbrev P_need_company : List Str := ["named", "value"]
theorem sc_need_company : FnScope N_need_company P_need_company (defScope sneed_company) := ⟨rfl, rfl, rfl, by decide +kernel, rfl, by decide +kernel, by decide +kernel⟩
theorem bk_need_company {scope : Scope} {own : List (Str × Nat)} (h : blkB N_need_company (defScope sneed_company) scope own = true) : BlkOk N_need_company (defScope sneed_company) scope own := blk_of h
abbrev D_need_company (P : Program) (w : World) (K : PySem.W.Frag) (mg : Str → Option Value) (base : Heap) : Prop := Dfn P w K mg base "need_company" P_need_company 5 (spF rNeedCompany)
theorem ok_need_company (M : Mg K mg) (T : At K mg "need_company" sneed_company) (g_fits_company : D_fits_company P w K mg base) : D_need_company P w K mg base := by
  refine dfn_of T sc_need_company (fun _ _ _ _ _ _ us hl => match us, hl with | [_, _], _ => rfl) (fun ds d h => by obtain ⟨_, _, rfl, _⟩ := h; rfl) ?_
  intro f cdv A outer s H E hr C ds d σ h hE Q k
  obtain ⟨n, c, rfl, h0, h1, h9, hc, rfl⟩ := h
  refine s_skip (TD.is (td_not (td_val (ed_call g_fits_company hr ⟨n, c, rfl, h0, h1, h9, hc, rfl⟩ (ad_cons (ed_var 0) (ad_cons (ed_var 1) ad_nil))))) rfl) ⟨Same.refl H, hE⟩ fun H1 S1 => ?_
  exact s_nil (k _ _ S1.sm .non)
end
end T2

set_option Elab.async false
set_option linter.all false
set_option maxRecDepth 100000
set_option maxHeartbeats 4000000
/-! TbD4: answer_of, behind. -/
namespace T2
open PySem PySem.Spec PyProof.Rows L2
theorem mem_two {x a b : Int} : x ∈ [a, b] ↔ x = a ∨ x = b := by simp
theorem oks_at {as : List Int} {n : Nat} (h : oks as n) {i : Int} (h0 : 0 ≤ i) (h1 : i < n) : i.toNat < as.length := by
  have := h.1
  omega
section
variable {P : Program} {w : World} {K : PySem.W.Frag} {mg : Str → Option Value} {base : Heap}
def rAnswerOf (ds : List PyData) (d : PyData) : Prop := ∃ (c : Cmp) (e : Deed) (p : IP) (n : Int), ds = [tiesD c, encDeed e, .int p.1, .int p.2] ∧ e.ok n ∧ n ≤ c.1 ∧ c.1 ≤ 12 ∧ p ∈ pairs c.1 ∧ d = .bool (ansM c e p)
abbrev N_answer_of : List Str := ["ties", "deed", "one", "other", "know", "many", "third", "person"]
abbrev P_answer_of : List Str := ["ties", "deed", "one", "other"]
theorem sc_answer_of : FnScope N_answer_of P_answer_of (defScope sanswer_of) := ⟨rfl, rfl, rfl, by decide +kernel, rfl, by decide +kernel, by decide +kernel⟩
theorem bk_answer_of {scope : Scope} {own : List (Str × Nat)} (h : blkB N_answer_of (defScope sanswer_of) scope own = true) : BlkOk N_answer_of (defScope sanswer_of) scope own := blk_of h
abbrev D_answer_of (P : Program) (w : World) (K : PySem.W.Frag) (mg : Str → Option Value) (base : Heap) : Prop := Dfn P w K mg base "answer_of" P_answer_of 2 (spF rAnswerOf)
theorem ok_answer_of (M : Mg K mg) (T : At K mg "answer_of" sanswer_of) (g_pair_of : D_pair_of P w K mg base) : D_answer_of P w K mg base := by
  refine dfn_of T sc_answer_of (fun _ _ _ _ _ _ us hl => match us, hl with | [_, _, _, _], _ => rfl) (fun ds d h => by obtain ⟨_, _, _, _, rfl, _⟩ := h; rfl) ?_
  intro f cdv A outer s H E hr C ds d σ h hE Q k
  obtain ⟨c, e, p, n, rfl, he, hn, h12, hp, rfl⟩ := h
  have hp' := mem_pairs.mp hp
  have kn : ∀ x y : Int, 0 ≤ x → x < c.1 → 0 ≤ y → y < c.1 → x ≠ y → getP ((pairs c.1).map fun p => (p, .bool (decide (p ∈ c.2)))) (pairOf x y) = some (.bool (knM c x y)) := fun x y a1 a2 a3 a4 a5 => getP_map (pairOf_mem a1 a2 a3 a4 a5)
  refine s_set 4 (ed_get (p := p) (kvs := (pairs c.1).map fun p => (p, .bool (decide (p ∈ c.2)))) (u1 hr) (ed_var 0) (ed_tup (ad_cons (ed_var 2) (ad_cons (ed_var 3) ad_nil))) (getP_map hp)) ⟨Same.refl H, hE⟩ sc_answer_of.nd fun σ1 H1 S1 => ?_
  cases e with
  | pairs d as =>
    obtain ⟨h1, h2, ha⟩ := he
    refine s_ifT (TD.is (td_cmp op_eq rd_eqS (ed_ixT (ed_var 1) ed_int) ed_str) (by decide)) S1 fun H2 S2 => ?_
    by_cases hd : d ∈ [p.1, p.2]
    · refine s_ifT (TD.is (td_cmp op_in_seq (rd_inI (ns := [p.1, p.2])) (ed_ixT (ed_var 1) ed_int) (ed_tup (ad_cons (ed_var 2) (ad_cons (ed_var 3) ad_nil)))) (decide_eq_true hd)) S2 fun H3 S3 => ?_
      refine s_ret (ED.is (ed_var 4) ?_) S3 k
      rw [mem_two] at hd
      rw [ansM, if_pos hd]
    · refine s_skip (TD.is (td_cmp op_in_seq (rd_inI (ns := [p.1, p.2])) (ed_ixT (ed_var 1) ed_int) (ed_tup (ad_cons (ed_var 2) (ad_cons (ed_var 3) ad_nil)))) (decide_eq_false hd)) S2 fun H3 S3 => ?_
      rw [mem_two] at hd
      have hx : ∀ x ∈ [p.1, p.2], getP ((pairs c.1).map fun p => (p, .bool (decide (p ∈ c.2)))) (pairOf d x) = some (.bool (knM c d x)) := fun x hx => by
        rw [mem_two] at hx
        refine kn d x h1 (by omega) ?_ ?_ (fun e => hd (e ▸ hx)) <;> omega
      refine s_set 5 (ed_sum (ns := ([p.1, p.2].filter (knM c d)).map fun _ => (1 : Int)) rfl M.sum (ED.is
        (ed_lc (xs := [p.1, p.2]) (enc := PyData.int) (own := [("person", 7)]) (fun x => [.dat (tiesD c), .dat (encDeed (.pairs d as)), .dat (.int p.1), .dat (.int p.2), .dat (.bool (decide (p ∈ c.2))), .any, .any, .dat (.int x)]) (knM c d) (fun _ => .int 1) rfl sc_answer_of.nd
          (bk_answer_of (by decide +kernel)) (id_tup (ed_tup (ad_cons (ed_var 2) (ad_cons (ed_var 3) ad_nil)))) (fun C1 s H C' cl fp y _ => gd_name 7 sc_answer_of.nd)
          (fun C1 s H C' cl fp y hy => tsd_one (td_val (ed_get (u1 hr) (ed_var 0) (ed_call g_pair_of (hr.mono (by decide)) ⟨d, y, rfl, rfl⟩ (ad_cons (ed_ixT (ed_var 1) ed_int) (ad_cons (ed_var 7) ad_nil))) (hx y hy))))
          (fun C1 s H C' cl fp y hy _ => ed_int) (Nat.lt_of_lt_of_le (show 2 < 3 by decide) (Nat.le_of_ble_eq_true rfl))) (by rw [List.map_map]; rfl))) S3 sc_answer_of.nd fun σ4 H4 S4 => ?_
      refine s_ret (ED.is (ed_cmp op_eq rd_eqI (ed_ixT (ed_ixT (ed_var 1) ed_int) (ed_add (ed_mul ed_int (ed_intB M.int (ed_var 4)) (.inl (by decide))) (ed_var 5)) (atI_ints ?_ ?_)) ed_int) ?_) S4 k
      · rw [sum_two]
        have := bI_cases (knM c d p.1)
        have := bI_cases (knM c d p.2)
        split <;> omega
      · rw [sum_two]
        refine oks_at ha ?_ ?_
        all_goals
          have := bI_cases (knM c d p.1)
          have := bI_cases (knM c d p.2)
          split <;> omega
      · rw [ansM, if_neg hd, sum_two]
        rfl
  | takes x y as =>
    obtain ⟨⟨h1, h2, h3, h4, h5⟩, ha⟩ := he
    refine s_skip (TD.is (td_cmp op_eq rd_eqS (ed_ixT (ed_var 1) ed_int) ed_str) (by decide)) S1 fun H2 S2 => ?_
    refine s_ifT (TD.is (td_cmp op_eq rd_eqS (ed_ixT (ed_var 1) ed_int) ed_str) (by decide)) S2 fun H3 S3 => ?_
    by_cases hc : (x = p.1 ∨ x = p.2) ∧ ¬ (y = p.1 ∨ y = p.2)
    · refine s_skip (TD.is (td_w (wd_or (td_cmp op_eq rd_eqB (ed_cmp op_in_seq (rd_inI (ns := [p.1, p.2])) (ed_ixT (ed_var 1) ed_int) (ed_tup (ad_cons (ed_var 2) (ad_cons (ed_var 3) ad_nil)))) (ed_cmp op_in_seq (rd_inI (ns := [p.1, p.2])) (ed_ixT (ed_var 1) ed_int) (ed_tup (ad_cons (ed_var 2) (ad_cons (ed_var 3) ad_nil))))) fun _ =>
        wd_or1 (td_cmp op_notIn_seq (rd_niI (ns := [p.1, p.2])) (ed_ixT (ed_var 1) ed_int) (ed_tup (ad_cons (ed_var 2) (ad_cons (ed_var 3) ad_nil)))))) ?_) S3 fun H4 S4 => ?_
      · have e1 : decide (x ∈ [p.1, p.2]) = true := decide_eq_true (mem_two.mpr hc.1)
        have e2 : decide (y ∈ [p.1, p.2]) = false := decide_eq_false fun q => hc.2 (mem_two.mp q)
        rw [e1, e2]
        rfl
      refine s_set 6 (ed_subI (ed_add (ed_var 2) (ed_var 3)) (ed_ixT (ed_var 1) ed_int)) S4 sc_answer_of.nd fun σ5 H5 S5 => ?_
      have hk := kn y (p.1 + p.2 - x) h3 (by omega) (by omega) (by omega) (by omega)
      refine s_ret (ED.is (ed_cmp op_eq rd_eqI (ed_ixT (ed_ixT (ed_var 1) ed_int) (ed_add (ed_mul ed_int (ed_intB M.int (ed_var 4)) (.inl (by decide))) (ed_intB M.int (ed_get (u1 hr) (ed_var 0) (ed_call g_pair_of (hr.mono (by decide)) ⟨y, p.1 + p.2 - x, rfl, rfl⟩ (ad_cons (ed_ixT (ed_var 1) ed_int) (ad_cons (ed_var 6) ad_nil))) hk))) (atI_ints ?_ ?_)) ed_int) ?_) S5 k
      · split <;> split <;> omega
      · refine oks_at ha ?_ ?_ <;> split <;> split <;> omega
      · rw [ansM, if_pos hc]
        rfl
    · refine s_ifT (TD.is (td_w (wd_or (td_cmp op_eq rd_eqB (ed_cmp op_in_seq (rd_inI (ns := [p.1, p.2])) (ed_ixT (ed_var 1) ed_int) (ed_tup (ad_cons (ed_var 2) (ad_cons (ed_var 3) ad_nil)))) (ed_cmp op_in_seq (rd_inI (ns := [p.1, p.2])) (ed_ixT (ed_var 1) ed_int) (ed_tup (ad_cons (ed_var 2) (ad_cons (ed_var 3) ad_nil))))) fun _ =>
        wd_or1 (td_cmp op_notIn_seq (rd_niI (ns := [p.1, p.2])) (ed_ixT (ed_var 1) ed_int) (ed_tup (ad_cons (ed_var 2) (ad_cons (ed_var 3) ad_nil)))))) ?_) S3 fun H4 S4 => ?_
      · by_cases q1 : x ∈ [p.1, p.2] <;> by_cases q2 : y ∈ [p.1, p.2]
        · rw [decide_eq_true q1, decide_eq_true q2]; rfl
        · exact absurd ⟨mem_two.mp q1, fun q => q2 (mem_two.mpr q)⟩ hc
        · rw [decide_eq_false q1, decide_eq_true q2]; rfl
        · rw [decide_eq_false q1, decide_eq_false q2]; rfl
      · refine s_ret (ED.is (ed_var 4) ?_) S4 k
        rw [ansM, if_neg hc]
  | tie x y w =>
    obtain ⟨⟨h1, h2, h3, h4, h5⟩, hw⟩ := he
    refine s_skip (TD.is (td_cmp op_eq rd_eqS (ed_ixT (ed_var 1) ed_int) ed_str) (by decide)) S1 fun H2 S2 => ?_
    refine s_skip (TD.is (td_cmp op_eq rd_eqS (ed_ixT (ed_var 1) ed_int) ed_str) (by decide)) S2 fun H3 S3 => ?_
    by_cases hq : pairOf x y = p
    · refine s_skip (TD.is (td_cmp (op_neD hr.units) (rd_neP (q := p)) (ed_call g_pair_of (hr.mono (by decide)) ⟨x, y, rfl, rfl⟩ (ad_cons (ed_ixT (ed_var 1) ed_int) (ad_cons (ed_ixT (ed_var 1) ed_int) ad_nil))) (ed_tup (ad_cons (ed_var 2) (ad_cons (ed_var 3) ad_nil)))) (by rw [decide_eq_true hq]; rfl)) S3 fun H4 S4 => ?_
      refine s_ret (ed_if (td_cmp op_eq rd_eqS (ed_ixT (ed_var 1) ed_int) ed_str) (fun hk => ED.is (ed_not (ed_var 4)) ?_) (fun hk => ED.is (ed_cmp op_eq rd_eqS (ed_ixT (ed_var 1) ed_int) ed_str) ?_)) S4 k
      · rw [ansM, if_pos hq, if_pos (by simpa using hk)]
      · rw [ansM, if_pos hq, if_neg (by simpa using hk), PySem.W.beq_decide]
    · refine s_ifT (TD.is (td_cmp (op_neD hr.units) (rd_neP (q := p)) (ed_call g_pair_of (hr.mono (by decide)) ⟨x, y, rfl, rfl⟩ (ad_cons (ed_ixT (ed_var 1) ed_int) (ad_cons (ed_ixT (ed_var 1) ed_int) ad_nil))) (ed_tup (ad_cons (ed_var 2) (ad_cons (ed_var 3) ad_nil)))) (by rw [decide_eq_false hq]; rfl)) S3 fun H4 S4 => ?_
      refine s_ret (ED.is (ed_var 4) ?_) S4 k
      rw [ansM, if_neg hq]
/-! ### behind -/
def rBehind (ds : List PyData) (d : PyData) : Prop := ∃ (c : Cmp) (e : Deed) (n : Int), ds = [encC c, encDeed e] ∧ e.ok n ∧ 0 ≤ n ∧ n ≤ c.1 ∧ c.1 ≤ 12 ∧ d = encC (behindM c e)
abbrev N_behind : List Str := ["company", "deed", "ties", "pairs", "pair"]
abbrev P_behind : List Str := ["company", "deed"]
theorem sc_behind : FnScope N_behind P_behind (defScope sbehind) := ⟨rfl, rfl, rfl, by decide +kernel, rfl, by decide +kernel, by decide +kernel⟩
theorem bk_behind {scope : Scope} {own : List (Str × Nat)} (h : blkB N_behind (defScope sbehind) scope own = true) : BlkOk N_behind (defScope sbehind) scope own := blk_of h
abbrev D_behind (P : Program) (w : World) (K : PySem.W.Frag) (mg : Str → Option Value) (base : Heap) : Prop := Dfn P w K mg base "behind" P_behind 3 (spF rBehind)
theorem ok_behind (M : Mg K mg) (T : At K mg "behind" sbehind) (g_ties_in : D_ties_in P w K mg base) (g_pairs_of : D_pairs_of P w K mg base) (g_company_by : D_company_by P w K mg base) (g_answer_of : D_answer_of P w K mg base) : D_behind P w K mg base := by
  refine dfn_of T sc_behind (fun _ _ _ _ _ _ us hl => match us, hl with | [_, _], _ => rfl) (fun ds d h => by obtain ⟨_, _, _, rfl, _⟩ := h; rfl) ?_
  intro f cdv A outer s H E hr C ds d σ h hE Q k
  obtain ⟨c, e, n, rfl, he, h0, hn, h12, rfl⟩ := h
  have hl := pairs_len (n := c.1) (by omega) h12
  refine s_set 2 (ed_call g_ties_in hr ⟨c, rfl, by omega, h12, rfl⟩ (ad_cons (ed_var 0) ad_nil)) ⟨Same.refl H, hE⟩ sc_behind.nd fun σ1 H1 S1 => ?_
  refine s_set 3 (ed_call g_pairs_of (hr.mono (by decide)) ⟨c.1, rfl, by omega, h12, rfl⟩ (ad_cons (ed_ixT (ed_var 0) ed_int) ad_nil)) S1 sc_behind.nd fun σ2 H2 S2 => ?_
  refine s_ret (ed_call g_company_by hr ⟨c.1, ansM c e, rfl, by omega, h12, rfl⟩ (ad_cons (ed_ixT (ed_var 0) ed_int) (ad_cons (ed_dictP (kvs := (pairs c.1).map fun p => (p, .bool (ansM c e p))) rfl hr.units M.dict (ED.is
    (ed_lc1 (xs := pairs c.1) (enc := encP) (own := [("pair", 4)]) (fun p => [.dat (encC c), .dat (encDeed e), .dat (tiesD c), .dat (encL (pairs c.1)), .dat (encP p)]) (fun p => .tuple [encP p, .bool (ansM c e p)]) rfl sc_behind.nd
      (bk_behind (by decide +kernel)) (id_list (ed_var 3)) (fun C1 s H C' cl fp y _ => gd_name 4 sc_behind.nd)
      (fun C1 s H C' cl fp y hy => ed_tup (ad_cons (ed_var 4) (ad_cons (ed_call g_answer_of hr ⟨c, e, y, n, rfl, he, hn, h12, hy, rfl⟩ (ad_cons (ed_var 2) (ad_cons (ed_var 1) (ad_cons (ed_ixT (ed_var 4) ed_int) (ad_cons (ed_ixT (ed_var 4) ed_int) ad_nil))))) ad_nil)))
      (by show _ < 2 ^ 24; omega)) ?_) ?_ ?_) ad_nil))) S2 k
  · rw [List.map_map]; rfl
  · rw [List.map_map]
    have : ((fun e : IP × PyData => e.1) ∘ fun p : IP => (p, PyData.bool (ansM c e p))) = id := rfl
    rw [this, List.map_id]
    exact pairs_nodup _
  · rw [List.length_map]
    show _ ≤ 2 ^ 24
    omega
end
end T2

set_option Elab.async false
set_option linter.all false
set_option maxRecDepth 100000
set_option maxHeartbeats 4000000
/-! TbM2: run_by's states; the shapes of deeds and items. -/
namespace T2
open PySem PySem.Spec PySem.W PyProof.Rows L2
structure RS where
  left : List Item
  c : Cmp
  fd : List Deed
def nextR (s : RS) : RS :=
  match s.left with
  | [] => s
  | .deed d :: r => ⟨r, behindM s.c d, s.fd ++ [d]⟩
  | .ask x y yes no :: r => ⟨(if knM s.c x y then yes else no).map .deed ++ r, s.c, s.fd⟩
def itR (s : RS) : Nat → RS
  | 0 => s
  | i + 1 => itR (nextR s) i
theorem itR_succ : ∀ (i : Nat) (s : RS), itR s (i + 1) = nextR (itR s i)
  | 0, _ => rfl
  | i + 1, s => itR_succ i (nextR s)
theorem itR_nil : ∀ (i : Nat) (s : RS), s.left = [] → itR s i = s
  | 0, _, _ => rfl
  | i + 1, s, h => by
    have e : nextR s = s := by unfold nextR; rw [h]
    show itR (nextR s) i = s
    rw [e]
    exact itR_nil i s h
theorem cntS_cons (i : Item) (r : List Item) : cntS (i :: r) = i.cnt + cntS r := rfl
theorem cntS_append (a b : List Item) : cntS (a ++ b) = cntS a + cntS b := by unfold cntS; rw [List.map_append, List.sum_append]
theorem cntS_deeds (l : List Deed) : cntS (l.map .deed) = l.length := by
  induction l with
  | nil => rfl
  | cons d l ih => rw [List.map_cons, cntS_cons, ih, List.length_cons]; show 1 + l.length = _; omega
theorem runM_deeds (c : Cmp) (l : List Deed) (r : List Item) : runM c (l.map .deed ++ r) = runM (l.foldl behindM c) r := by
  unfold runM
  rw [List.foldl_append, List.foldl_map]
  rfl
theorem runM_next (s : RS) : runM (nextR s).c (nextR s).left = runM s.c s.left := by
  obtain ⟨left, c, fd⟩ := s
  match left with
  | [] => rfl
  | .deed d :: r => rfl
  | .ask x y yes no :: r =>
    show runM c ((if knM c x y then yes else no).map .deed ++ r) = _
    rw [runM_deeds]
    rfl
theorem cnt_next (s : RS) (h : s.left ≠ []) : cntS (nextR s).left < cntS s.left := by
  obtain ⟨left, c, fd⟩ := s
  match left, h with
  | .deed d :: r, _ => show cntS r < cntS (.deed d :: r); rw [cntS_cons]; show _ < 1 + _; omega
  | .ask x y yes no :: r, _ =>
    show cntS ((if knM c x y then yes else no).map .deed ++ r) < cntS (.ask x y yes no :: r)
    rw [cntS_append, cntS_deeds, cntS_cons]
    show _ < 1 + yes.length + no.length + cntS r
    by_cases q : knM c x y = true
    · rw [if_pos q]; omega
    · rw [if_neg q]; omega
theorem run_ends : ∀ (m : Nat) (s : RS), cntS s.left ≤ m → ∃ n, (∀ i, i < n → (itR s i).left ≠ []) ∧ (itR s n).left = [] ∧ (itR s n).c = runM s.c s.left ∧ itR s n = itR s m
  | 0, s, h => by
    have e : s.left = [] := by
      match hl : s.left with
      | [] => rfl
      | .deed d :: r => rw [hl, cntS_cons] at h; simp [Item.cnt] at h
      | .ask x y yes no :: r => rw [hl, cntS_cons] at h; simp [Item.cnt] at h
    exact ⟨0, fun i h => absurd h (Nat.not_lt_zero _), e, by rw [e]; rfl, rfl⟩
  | m + 1, s, h => by
    by_cases e : s.left = []
    · exact ⟨0, fun i h => absurd h (Nat.not_lt_zero _), e, by rw [e]; rfl, (itR_nil _ _ e).symm⟩
    · have := cnt_next s e
      obtain ⟨n, h1, h2, h3, h4⟩ := run_ends m (nextR s) (by omega)
      refine ⟨n + 1, fun i hi => ?_, h2, by rw [← runM_next]; exact h3, h4⟩
      match i with
      | 0 => exact e
      | i + 1 => exact h1 i (by omega)
/-- what stays along the way -/
structure RI (named : Int) (s : RS) : Prop where
  ok : ∀ i ∈ s.left, i.ok named
  n : cntS s.left + s.fd.length ≤ 30
  c : named ≤ s.c.1 ∧ s.c.1 ≤ 12
theorem RI.next {named : Int} {s : RS} (h : RI named s) : RI named (nextR s) := by
  obtain ⟨left, c, fd⟩ := s
  obtain ⟨h1, h2, h3⟩ := h
  match left, h1, h2 with
  | [], h1, h2 => exact ⟨h1, h2, h3⟩
  | .deed d :: r, h1, h2 =>
    refine ⟨fun i hi => h1 i (List.mem_cons_of_mem _ hi), ?_, h3⟩
    show cntS r + (fd ++ [d]).length ≤ 30
    rw [List.length_append]
    have h2 : cntS (.deed d :: r) + fd.length ≤ 30 := h2
    rw [cntS_cons] at h2
    have : Item.cnt (.deed d) = 1 := rfl
    simp only [List.length_singleton]
    omega
  | .ask x y yes no :: r, h1, h2 =>
    have hk := h1 _ List.mem_cons_self
    refine ⟨fun i hi => ?_, ?_, h3⟩
    · rcases List.mem_append.mp hi with hi | hi
      · obtain ⟨d, hd, rfl⟩ := List.mem_map.mp hi
        split at hd
        · exact hk.2.1 d hd
        · exact hk.2.2 d hd
      · exact h1 i (List.mem_cons_of_mem _ hi)
    · have := cnt_next ⟨.ask x y yes no :: r, c, fd⟩ (by simp)
      have h2 : cntS (.ask x y yes no :: r) + fd.length ≤ 30 := h2
      show cntS (nextR ⟨.ask x y yes no :: r, c, fd⟩).left + fd.length ≤ 30
      have e : cntS (RS.left ⟨.ask x y yes no :: r, c, fd⟩) = cntS (.ask x y yes no :: r) := rfl
      omega
theorem RI.it {named : Int} : ∀ (i : Nat) {s : RS}, RI named s → RI named (itR s i)
  | 0, _, h => h
  | i + 1, _, h => RI.it i h.next
def dName : Deed → Str
  | .pairs .. => "pairs" | .takes .. => "takes" | .tie .. => "tie"
def dTail : Deed → List PyData
  | .pairs d as => [.int d, encInts as] | .takes x y as => [.int x, .int y, encInts as] | .tie x y w => [.int x, .int y, .str w]
theorem encDeed_eq (d : Deed) : encDeed d = .tuple (.str (dName d) :: dTail d) := by cases d <;> rfl
theorem dName_ask (d : Deed) : (dName d == ("ask" : Str)) = false := by
  cases d
  · exact (by decide : (("pairs" : Str) == ("ask" : Str)) = false)
  · exact (by decide : (("takes" : Str) == ("ask" : Str)) = false)
  · exact (by decide : (("tie" : Str) == ("ask" : Str)) = false)
/-! ### shapes -/
theorem layInts : ∀ as : List Int, PyData.canLayAll0 (as.map .int) = true
  | [] => rfl
  | a :: as => by
    rw [List.map_cons, PyData.canLayAll0, layInts as]
    rfl
theorem depInts : ∀ as : List Int, PyData.depthAll (as.map .int) ≤ 0
  | [] => Nat.le_refl _
  | a :: as => by
    rw [List.map_cons, PyData.depthAll]
    exact Nat.max_le.mpr ⟨Nat.le_refl _, depInts as⟩
theorem layDeed {n : Int} (d : Deed) (h : d.ok n) : (encDeed d).canLay0 = true := by
  cases d with
  | pairs d as => simp [encDeed, encInts, PyData.canLay0, PyData.canLayAll0, layInts]; decide +kernel
  | takes x y as => simp [encDeed, encInts, PyData.canLay0, PyData.canLayAll0, layInts]; decide +kernel
  | tie x y w =>
    obtain ⟨_, rfl | rfl | rfl⟩ := h <;> simp [encDeed, PyData.canLay0, PyData.canLayAll0] <;> decide +kernel
theorem depDeed (d : Deed) : (encDeed d).depth ≤ 2 := by
  cases d with
  | pairs d as => have := depInts as; simp [encDeed, encInts, PyData.depth, PyData.depthAll]; omega
  | takes x y as => have := depInts as; simp [encDeed, encInts, PyData.depth, PyData.depthAll]; omega
  | tie x y w => simp [encDeed, PyData.depth, PyData.depthAll]
theorem layDeeds {n : Int} : ∀ l : List Deed, (∀ d ∈ l, d.ok n) → PyData.canLayAll0 (l.map encDeed) = true
  | [], _ => rfl
  | d :: l, h => by
    rw [List.map_cons, PyData.canLayAll0, layDeed d (h d List.mem_cons_self), layDeeds l fun d hd => h d (List.mem_cons_of_mem _ hd)]
    rfl
theorem depDeeds : ∀ l : List Deed, PyData.depthAll (l.map encDeed) ≤ 2
  | [] => Nat.zero_le _
  | d :: l => by
    rw [List.map_cons, PyData.depthAll]
    exact Nat.max_le.mpr ⟨depDeed d, depDeeds l⟩
theorem layItem {n : Int} (i : Item) (h : i.ok n) : (encItem i).canLay0 = true := by
  cases i with
  | deed d => exact layDeed d h
  | ask x y yes no => simp [encItem, PyData.canLay0, PyData.canLayAll0, layDeeds yes h.2.1, layDeeds no h.2.2]; decide +kernel
theorem depItem (i : Item) : (encItem i).depth ≤ 4 := by
  cases i with
  | deed d => have := depDeed d; show (encDeed d).depth ≤ 4; omega
  | ask x y yes no => have := depDeeds yes; have := depDeeds no; simp [encItem, PyData.depth, PyData.depthAll]; omega
theorem layItems {n : Int} : ∀ l : List Item, (∀ d ∈ l, d.ok n) → PyData.canLayAll0 (l.map encItem) = true
  | [], _ => rfl
  | d :: l, h => by
    rw [List.map_cons, PyData.canLayAll0, layItem d (h d List.mem_cons_self), layItems l fun d hd => h d (List.mem_cons_of_mem _ hd)]
    rfl
theorem depItems : ∀ l : List Item, PyData.depthAll (l.map encItem) ≤ 4
  | [] => Nat.zero_le _
  | d :: l => by
    rw [List.map_cons, PyData.depthAll]
    exact Nat.max_le.mpr ⟨depItem d, depItems l⟩
theorem shItems {n : Int} (l : List Item) (h : ∀ d ∈ l, d.ok n) : SeqAt.shaped (.list (l.map encItem)) = true := by
  unfold SeqAt.shaped
  rw [PyData.canLay0, layItems l h, PyData.depth]
  have := depItems l
  exact decide_eq_true (by omega)
theorem shNil : SeqAt.shaped (.list []) = true := rfl
theorem rd_neNil {X : Cx} {C : Addr → Prop} {xs : List PyData} (h : SeqAt.shaped (.list xs) = true) : RD2 C (rNeD X.K) (.list xs) (.list []) (.bool (!xs.isEmpty)) := by
  have e : PyData.eqv (.list xs) (.list []) = xs.isEmpty := by
    cases xs <;> simp [PyData.eqv, PyData.eqvAll]
  rw [← e]
  exact rd_neD h shNil
theorem Sn.weak {C : Addr → Prop} {H0 H : Hp} {σ : L2.St} {Γ Γ' : List Sd} (h : Sn C H0 H σ Γ) (hl : Γ'.length = Γ.length) (w : ∀ (i : Nat) (s : Sd), Γ'[i]? = some s → s = .any ∨ Γ[i]? = some s) : Sn C H0 H σ Γ' := ⟨h.sm, h.en.weak hl w⟩
/-- a slot forgotten -/
theorem Sn.forget {C : Addr → Prop} {H0 H : Hp} {σ : L2.St} {Γ : List Sd} (h : Sn C H0 H σ Γ) (i : Nat) : Sn C H0 H σ (Γ.set i .any) := h.weak (List.length_set ..) fun j s e => by
  rw [List.getElem?_set] at e
  by_cases q : i = j
  · subst q
    simp only [if_true] at e
    split at e
    · cases e; exact .inl rfl
    · cases e
  · rw [if_neg q] at e
    exact .inr e
end T2

set_option Elab.async false
set_option linter.all false
set_option maxRecDepth 100000
set_option maxHeartbeats 4000000
/-! TbD5: run_by. -/
namespace T2
open PySem PySem.Spec PyProof.Rows L2
def foundM (c : Cmp) (s : List Item) : List Deed := (itR ⟨s, c, []⟩ 30).fd
section
variable {P : Program} {w : World} {K : PySem.W.Frag} {mg : Str → Option Value} {base : Heap}
def rRunBy (ds : List PyData) (d : PyData) : Prop := ∃ (c : Cmp) (s : List Item) (n : Int), ds = [encC c, encS s] ∧ okS n s ∧ 0 ≤ n ∧ n ≤ c.1 ∧ c.1 ≤ 12 ∧ d = .tuple [encC (runM c s), .list ((foundM c s).map encDeed)]
abbrev N_run_by : List Str := ["company", "script", "found", "left", "item"]
abbrev P_run_by : List Str := ["company", "script"]
theorem sc_run_by : FnScope N_run_by P_run_by (defScope srun_by) := ⟨rfl, rfl, rfl, by decide +kernel, rfl, by decide +kernel, by decide +kernel⟩
theorem bk_run_by {scope : Scope} {own : List (Str × Nat)} (h : blkB N_run_by (defScope srun_by) scope own = true) : BlkOk N_run_by (defScope srun_by) scope own := blk_of h
abbrev D_run_by (P : Program) (w : World) (K : PySem.W.Frag) (mg : Str → Option Value) (base : Heap) : Prop := Dfn P w K mg base "run_by" P_run_by 4 (spF rRunBy)
theorem ok_run_by (M : Mg K mg) (T : At K mg "run_by" srun_by) (g_pair_of : D_pair_of P w K mg base) (g_behind : D_behind P w K mg base) : D_run_by P w K mg base := by
  refine dfn_of T sc_run_by (fun _ _ _ _ _ _ us hl => match us, hl with | [_, _], _ => rfl) (fun ds d h => by obtain ⟨_, _, _, rfl, _⟩ := h; rfl) ?_
  intro f cdv A outer s H E hr C ds d σ h hE Q k
  obtain ⟨c, s0, n, rfl, ⟨hs, hcnt⟩, h0, hn, h12, rfl⟩ := h
  have I0 : RI n ⟨s0, c, []⟩ := ⟨hs, by simpa using hcnt, hn, h12⟩
  obtain ⟨m, g1, g2, g3, g4⟩ := run_ends 30 ⟨s0, c, []⟩ hcnt
  refine s_par 2 3 rfl (ad_cons (ed_lst ad_nil) (ad_cons (ed_listT M.list (ed_var 1)) ad_nil)) ⟨Same.refl H, hE⟩ sc_run_by.nd (fun σ1 H1 S1 => ?_) rfl
  let Γs : Nat → List Sd := fun i => [.dat (encC (itR ⟨s0, c, []⟩ i).c), .dat (encS s0), .dat (.list ((itR ⟨s0, c, []⟩ i).fd.map encDeed)), .dat (.list ((itR ⟨s0, c, []⟩ i).left.map encItem)), .any]
  refine s_while m Γs PassesOwn.never S1 (fun i hi => ?_) ?_ (fun i hi Hb sb σ2 H2 D' S2 hrt hnx => ?_) fun σ2 H2 S2 => ?_
  · refine TD.is (td_cmp (op_neD hr.units) (rd_neNil (shItems _ (RI.it _ I0).ok)) (ed_var 3) (ed_lst ad_nil)) ?_
    have := g1 i hi
    cases hl : (itR ⟨s0, c, []⟩ i).left with
    | nil => exact absurd hl this
    | cons _ _ => rfl
  · refine TD.is (td_cmp (op_neD hr.units) (rd_neNil (shItems _ (RI.it _ I0).ok)) (ed_var 3) (ed_lst ad_nil)) ?_
    rw [g2]
    rfl
  · have Ii := RI.it i I0
    have hne := g1 i hi
    have esc := itR_succ i ⟨s0, c, []⟩
    have eΓ : Γs (i + 1) = [.dat (encC (nextR (itR ⟨s0, c, []⟩ i)).c), .dat (encS s0), .dat (.list ((nextR (itR ⟨s0, c, []⟩ i)).fd.map encDeed)), .dat (.list ((nextR (itR ⟨s0, c, []⟩ i)).left.map encItem)), .any] := by
      show [_, _, _, _, _] = _
      rw [esc]
    rw [eΓ] at hnx
    clear eΓ
    have S2 : Sn C Hb H2 σ2 [.dat (encC (itR ⟨s0, c, []⟩ i).c), .dat (encS s0), .dat (.list ((itR ⟨s0, c, []⟩ i).fd.map encDeed)), .dat (.list ((itR ⟨s0, c, []⟩ i).left.map encItem)), .any] := S2
    generalize itR ⟨s0, c, []⟩ i = st at S2 Ii hne hnx
    obtain ⟨left, c, fd⟩ := st
    match left, hne with
    | it :: r, _ =>
      have S2 : Sn C Hb H2 σ2 [.dat (encC c), .dat (encS s0), .dat (.list (fd.map encDeed)), .dat (.list (encItem it :: r.map encItem)), .any] := S2
      refine s_par 4 3 rfl (ad_cons (ed_ixL (d := encItem it) (ed_var 3) ed_int atI_head) (ad_cons (ED.is (ed_slL (ed_var 3) (od_some ed_int) od_none) (congrArg PyData.list (cut_tail (encItem it) (r.map encItem)))) ad_nil)) S2 sc_run_by.nd (fun σ3 H3 S3 => ?_) rfl
      have hlen : (r.map encItem).length ≤ 30 := by
        have := Ii.n
        have e : cntS (it :: r) = it.cnt + cntS r := rfl
        have hc : ∀ l : List Item, l.length ≤ cntS l := by
          intro l
          induction l with
          | nil => exact Nat.le_refl _
          | cons a l ih =>
            rw [cntS_cons, List.length_cons]
            have : 1 ≤ a.cnt := by cases a <;> simp [Item.cnt] <;> omega
            omega
        have := hc r
        rw [List.length_map]
        have h2 : cntS (it :: r) + fd.length ≤ 30 := Ii.n
        omega
      have hfd : (fd.map encDeed).length ≤ 30 := by
        rw [List.length_map]
        have h2 : cntS (it :: r) + fd.length ≤ 30 := Ii.n
        omega
      have hcr : n ≤ c.1 ∧ c.1 ≤ 12 := Ii.c
      have hk := Ii.ok it List.mem_cons_self
      cases it with
      | deed dd =>
        refine s_ifF (TD.is (td_cmp op_eq rd_eqS (ed_ixT (ds := .str (dName dd) :: dTail dd) (ed_var 4 (hΓ := congrArg (fun z => some (Sd.dat z)) (encDeed_eq dd))) ed_int atI_head) ed_str) (dName_ask dd)) S3 fun H4 S4 => ?_
        refine s_par 0 2 rfl (ad_cons (ed_call g_behind hr ⟨c, dd, n, rfl, hk, h0, hcr.1, hcr.2, rfl⟩ (ad_cons (ed_var 0) (ad_cons (ed_var 4) ad_nil))) (ad_cons (ed_catL (ed_var 2) (ed_lst (ad_cons (ed_var 4) ad_nil)) (Nat.le_trans (Nat.add_le_add_right hfd 1) (Nat.le_of_ble_eq_true rfl))) ad_nil)) S4 sc_run_by.nd (fun σ5 H5 S5 => ?_) rfl
        refine s_nil (s_nil (hnx _ _ ((S5.forget 4).weak rfl fun j s e => .inr ?_)))
        have e2 : (fd.map encDeed ++ [encItem (.deed dd)]) = (fd ++ [dd]).map encDeed := by rw [List.map_append]; rfl
        rw [e2]
        exact e
      | ask x y yes no =>
        refine s_ifT (TD.is (td_cmp op_eq rd_eqS (ed_ixT (ed_var 4) ed_int) ed_str) (by decide)) S3 fun H4 S4 => ?_
        have hyn : (if knM c x y then yes else no).length ≤ 30 := by
          have h2 : cntS (.ask x y yes no :: r) + fd.length ≤ 30 := Ii.n
          rw [cntS_cons] at h2
          have : Item.cnt (.ask x y yes no) = 1 + yes.length + no.length := rfl
          split <;> omega
        refine s_set 3 (ed_catL (ds := (if knM c x y then yes else no).map encDeed) (ed_listT M.list (ed_if (td_cmp (op_inT (u65 hr)) rd_inT (ed_call g_pair_of (hr.mono (by decide)) ⟨x, y, rfl, rfl⟩ (ad_cons (ed_ixT (ed_var 4) ed_int) (ad_cons (ed_ixT (ed_var 4) ed_int) ad_nil))) (ed_ixT (ed_var 0) ed_int)) (fun hk => ?_) (fun hk => ?_))) (ed_var 3) (by
            rw [List.length_map]
            show _ ≤ 2 ^ 24
            omega)) S4 sc_run_by.nd fun σ5 H5 S5 => ?_
        · have hk : knM c x y = true := hk
          rw [if_pos hk]
          exact ed_ixT (ed_var 4) ed_int
        · have hk : knM c x y = false := hk
          rw [hk, if_neg Bool.false_ne_true]
          exact ed_ixT (ed_var 4) ed_int
        refine s_nil (s_nil (hnx _ _ ((S5.forget 4).weak rfl fun j s e => .inr ?_)))
        have e2 : (if knM c x y then yes else no).map encDeed ++ r.map encItem = ((if knM c x y then yes else no).map Item.deed ++ r).map encItem := by
          rw [List.map_append, List.map_map]; rfl
        rw [e2]
        exact e
  · have e1 : (itR ⟨s0, c, []⟩ m).c = runM c s0 := g3
    have e2 : (itR ⟨s0, c, []⟩ m).fd = foundM c s0 := by rw [g4]; rfl
    refine s_ret (ED.is (ed_tup (ad_cons (ed_var 0) (ad_cons (ed_var 2) ad_nil))) ?_) S2 k
    rw [e1, e2]
end
end T2

set_option Elab.async false
set_option linter.all false
set_option maxRecDepth 100000
set_option maxHeartbeats 4000000
/-! TbD6: deeds and scripts checked. -/
namespace T2
open PySem PySem.Spec PyProof.Rows L2
def Item.isAsk : Item → Bool
  | .deed _ => false | .ask .. => true
/-! the states of items_in -/
structure IS where
  line : List (List Item × Nat)
  found : List (Item × Nat)
def kids (dep : Nat) : Item → List (List Item × Nat)
  | .deed _ => [] | .ask _ _ yes no => [(yes.map .deed, dep + 1), (no.map .deed, dep + 1)]
def nextI (s : IS) : IS :=
  match s.line with
  | [] => s
  | (l, dep) :: r => ⟨r ++ l.flatMap (kids dep), s.found ++ l.map fun i => (i, dep)⟩
def itI (s : IS) : Nat → IS
  | 0 => s
  | i + 1 => itI (nextI s) i
theorem itI_succ : ∀ (i : Nat) (s : IS), itI s (i + 1) = nextI (itI s i)
  | 0, _ => rfl
  | i + 1, s => itI_succ i (nextI s)
def wIt : Item → Nat
  | .deed _ => 0 | .ask .. => 2
def wL (l : List Item) : Nat := 1 + (l.map wIt).sum
def wLs (l : List (List Item × Nat)) : Nat := (l.map fun e => wL e.1).sum
def cLs (l : List (List Item × Nat)) : Nat := (l.map fun e => cntS e.1).sum
theorem wLs_append (a b : List (List Item × Nat)) : wLs (a ++ b) = wLs a + wLs b := by unfold wLs; rw [List.map_append, List.sum_append]
theorem cLs_append (a b : List (List Item × Nat)) : cLs (a ++ b) = cLs a + cLs b := by unfold cLs; rw [List.map_append, List.sum_append]
theorem wL_deeds (l : List Deed) : wL (l.map .deed) = 1 := by
  unfold wL
  rw [List.map_map]
  have : (l.map (wIt ∘ Item.deed)).sum = 0 := by
    induction l with
    | nil => rfl
    | cons d l ih => rw [List.map_cons, List.sum_cons, ih]; rfl
  rw [this]
theorem wLs_kids (dep : Nat) : ∀ l : List Item, wLs (l.flatMap (kids dep)) = (l.map wIt).sum
  | [] => rfl
  | i :: l => by
    rw [List.flatMap_cons, wLs_append, wLs_kids dep l, List.map_cons, List.sum_cons]
    congr 1
    cases i with
    | deed d => rfl
    | ask x y yes no => show wLs [_, _] = 2; simp [wLs, wL_deeds]
theorem cLs_kids (dep : Nat) : ∀ l : List Item, cLs (l.flatMap (kids dep)) + l.length = cntS l
  | [] => rfl
  | i :: l => by
    have ih := cLs_kids dep l
    rw [List.flatMap_cons, cLs_append, cntS_cons, List.length_cons]
    have : cLs (kids dep i) + 1 = i.cnt := by
      cases i with
      | deed d => rfl
      | ask x y yes no => show cLs [_, _] + 1 = 1 + yes.length + no.length; simp [cLs, cntS_deeds]; omega
    omega
theorem w_next (s : IS) (h : s.line ≠ []) : wLs (nextI s).line + 1 = wLs s.line := by
  obtain ⟨line, found⟩ := s
  match line, h with
  | (l, dep) :: r, _ =>
    show wLs (r ++ l.flatMap (kids dep)) + 1 = wLs ((l, dep) :: r)
    rw [wLs_append, wLs_kids]
    show _ = wL l + wLs r
    unfold wL
    omega
theorem w_it : ∀ (i : Nat) (s : IS), i ≤ wLs s.line → wLs (itI s i).line + i = wLs s.line
  | 0, _, _ => rfl
  | i + 1, s, h => by
    have hne : s.line ≠ [] := fun e => by rw [e] at h; simp [wLs] at h
    have := w_next s hne
    have ih := w_it i (nextI s) (by omega)
    show wLs (itI (nextI s) i).line + (i + 1) = _
    omega
structure II (named : Int) (m : Nat) (s : IS) : Prop where
  ok : ∀ e ∈ s.line, (∀ i ∈ e.1, i.ok named) ∧ (e.2 = 0 ∨ e.2 = 1 ∧ ∀ i ∈ e.1, i.isAsk = false)
  n : cLs s.line + s.found.length = m
  fo : ∀ e ∈ s.found, e.1.ok named ∧ e.2 ≤ 1
theorem II.next {named : Int} {m : Nat} {s : IS} (h : II named m s) : II named m (nextI s) := by
  obtain ⟨line, found⟩ := s
  obtain ⟨h1, h2, h3⟩ := h
  match line, h1, h2 with
  | [], h1, h2 => exact ⟨h1, h2, h3⟩
  | (l, dep) :: r, h1, h2 =>
    obtain ⟨hl, hd⟩ := h1 _ List.mem_cons_self
    refine ⟨fun e he => ?_, ?_, fun e he => ?_⟩
    · rcases List.mem_append.mp he with he | he
      · exact h1 e (List.mem_cons_of_mem _ he)
      · obtain ⟨i, hi, he⟩ := List.mem_flatMap.mp he
        have hio := hl i hi
        cases i with
        | deed d => cases he
        | ask x y yes no =>
          have hd0 : dep = 0 := by
            rcases hd with hd | ⟨_, hd⟩
            · exact hd
            · exact absurd (hd _ hi) (by simp [Item.isAsk])
          subst hd0
          rcases List.mem_cons.mp he with rfl | he
          · refine ⟨fun i hi => ?_, .inr ⟨rfl, fun i hi => ?_⟩⟩ <;> obtain ⟨d, hd, rfl⟩ := List.mem_map.mp hi
            · exact hio.2.1 d hd
            · rfl
          · rcases List.mem_cons.mp he with rfl | he
            · refine ⟨fun i hi => ?_, .inr ⟨rfl, fun i hi => ?_⟩⟩ <;> obtain ⟨d, hd, rfl⟩ := List.mem_map.mp hi
              · exact hio.2.2 d hd
              · rfl
            · cases he
    · show cLs (r ++ l.flatMap (kids dep)) + (found ++ l.map fun i => (i, dep)).length = m
      rw [cLs_append, List.length_append, List.length_map]
      have := cLs_kids dep l
      have h2 : cLs ((l, dep) :: r) + found.length = m := h2
      have e : cLs ((l, dep) :: r) = cntS l + cLs r := rfl
      omega
    · rcases List.mem_append.mp he with he | he
      · exact h3 e he
      · obtain ⟨i, hi, rfl⟩ := List.mem_map.mp he
        exact ⟨hl i hi, by show dep ≤ 1; omega⟩
theorem II.it {named : Int} {m : Nat} : ∀ (i : Nat) {s : IS}, II named m s → II named m (itI s i)
  | 0, _, h => h
  | i + 1, _, h => II.it i h.next
theorem II.start {n : Int} {s : List Item} (h : okS n s) : II n (cntS s) ⟨[(s, 0)], []⟩ := by
  refine ⟨fun e he => ?_, by simp [cLs], fun e he => by cases he⟩
  rcases List.mem_cons.mp he with rfl | he
  · exact ⟨h.1, .inl rfl⟩
  · cases he
def itemsM (s : List Item) : List (Item × Nat) := (itI ⟨[(s, 0)], []⟩ (wLs [(s, 0)])).found
theorem itemsM_ok {n : Int} {s : List Item} (h : okS n s) : (∀ e ∈ itemsM s, e.1.ok n ∧ e.2 ≤ 1) ∧ (itemsM s).length ≤ 30 := by
  have I : II n (cntS s) (itI ⟨[(s, 0)], []⟩ (wLs [(s, 0)])) := II.it _ (II.start h)
  refine ⟨I.fo, ?_⟩
  have := I.n
  have := h.2
  show (itI ⟨[(s, 0)], []⟩ (wLs [(s, 0)])).found.length ≤ 30
  omega
def encLn (e : List Item × Nat) : PyData := .tuple [encS e.1, .int e.2]
def encIt (e : Item × Nat) : PyData := .tuple [encItem e.1, .int e.2]
theorem layLns {n : Int} : ∀ l : List (List Item × Nat), (∀ e ∈ l, ∀ i ∈ e.1, i.ok n) → PyData.canLayAll0 (l.map encLn) = true
  | [], _ => rfl
  | d :: l, h => by
    rw [List.map_cons, PyData.canLayAll0, layLns l fun d hd => h d (List.mem_cons_of_mem _ hd)]
    simp [encLn, encS, PyData.canLay0, PyData.canLayAll0, layItems d.1 (h d List.mem_cons_self)]
theorem depLns : ∀ l : List (List Item × Nat), PyData.depthAll (l.map encLn) ≤ 6
  | [] => Nat.zero_le _
  | d :: l => by
    rw [List.map_cons, PyData.depthAll]
    refine Nat.max_le.mpr ⟨?_, depLns l⟩
    have := depItems d.1
    simp [encLn, encS, PyData.depth, PyData.depthAll]
    omega
theorem shLns {n : Int} (l : List (List Item × Nat)) (h : ∀ e ∈ l, ∀ i ∈ e.1, i.ok n) : SeqAt.shaped (.list (l.map encLn)) = true := by
  unfold SeqAt.shaped
  rw [PyData.canLay0, layLns l h, PyData.depth]
  have := depLns l
  exact decide_eq_true (by omega)
theorem rd_isL {C : Addr → Prop} {ds : List PyData} : RD2 C (fun x y H Q => y = .non ∧ Q (.bl (decide (x = .non))) H) (.list ds) .none (.bool false) := fun H v u _ r1 r2 Q k => by
  cases r2
  cases r1 with
  | lst _ _ _ => exact ⟨rfl, k _ H (Same.refl H) (.bl _)⟩
section
variable {P : Program} {w : World} {K : PySem.W.Frag} {mg : Str → Option Value} {base : Heap}
def rAreTwoNamed (ds : List PyData) (d : PyData) : Prop := ∃ (n x y : Int), ds = [.int n, .int x, .int y] ∧ two n x y ∧ d = .bool true
abbrev N_are_two_named : List Str := ["named", "one", "other"]
abbrev P_are_two_named : List Str := ["named", "one", "other"]
theorem sc_are_two_named : FnScope N_are_two_named P_are_two_named (defScope sare_two_named) := ⟨rfl, rfl, rfl, by decide +kernel, rfl, by decide +kernel, by decide +kernel⟩
theorem bk_are_two_named {scope : Scope} {own : List (Str × Nat)} (h : blkB N_are_two_named (defScope sare_two_named) scope own = true) : BlkOk N_are_two_named (defScope sare_two_named) scope own := blk_of h
abbrev D_are_two_named (P : Program) (w : World) (K : PySem.W.Frag) (mg : Str → Option Value) (base : Heap) : Prop := Dfn P w K mg base "are_two_named" P_are_two_named 2 (spF rAreTwoNamed)
theorem ok_are_two_named (M : Mg K mg) (T : At K mg "are_two_named" sare_two_named) (g_is_whole : D_is_whole P w K mg base) : D_are_two_named P w K mg base := by
  refine dfn_of T sc_are_two_named (fun _ _ _ _ _ _ us hl => match us, hl with | [_, _, _], _ => rfl) (fun ds d h => by obtain ⟨_, _, _, rfl, _⟩ := h; rfl) ?_
  intro f cdv A outer s H E hr C ds d σ h hE Q k
  obtain ⟨n, x, y, rfl, ht, rfl⟩ := h
  refine s_ret (ED.is (ed_and (ed_call g_is_whole hr ⟨x, 0, n - 1, rfl, rfl⟩ (ad_cons (ed_var 1) (ad_cons ed_int (ad_cons (ed_subI (ed_var 0) ed_int) ad_nil)))) fun _ =>
    ed_and (ed_call g_is_whole hr ⟨y, 0, n - 1, rfl, rfl⟩ (ad_cons (ed_var 2) (ad_cons ed_int (ad_cons (ed_subI (ed_var 0) ed_int) ad_nil)))) fun _ =>
    ed_one (ed_cmp op_ne rd_neI (ed_var 1) (ed_var 2))) ?_) ⟨Same.refl H, hE⟩ k
  unfold two at ht
  simp
  omega
def rAreAnswers (ds : List PyData) (d : PyData) : Prop := ∃ (as : List Int) (m : Nat), ds = [encInts as, .int m] ∧ oks as m ∧ m ≤ 10 ∧ d = .bool true
abbrev N_are_answers : List Str := ["value", "many"]
abbrev P_are_answers : List Str := ["value", "many"]
theorem sc_are_answers : FnScope N_are_answers P_are_answers (defScope sare_answers) := ⟨rfl, rfl, rfl, by decide +kernel, rfl, by decide +kernel, by decide +kernel⟩
theorem bk_are_answers {scope : Scope} {own : List (Str × Nat)} (h : blkB N_are_answers (defScope sare_answers) scope own = true) : BlkOk N_are_answers (defScope sare_answers) scope own := blk_of h
abbrev D_are_answers (P : Program) (w : World) (K : PySem.W.Frag) (mg : Str → Option Value) (base : Heap) : Prop := Dfn P w K mg base "are_answers" P_are_answers 3 (spF rAreAnswers)
theorem ok_are_answers (M : Mg K mg) (T : At K mg "are_answers" sare_answers) (g_is_tuple_of : D_is_tuple_of P w K mg base) (g_are_whole : D_are_whole P w K mg base) : D_are_answers P w K mg base := by
  refine dfn_of T sc_are_answers (fun _ _ _ _ _ _ us hl => match us, hl with | [_, _], _ => rfl) (fun ds d h => by obtain ⟨_, _, rfl, _⟩ := h; rfl) ?_
  intro f cdv A outer s H E hr C ds d σ h hE Q k
  obtain ⟨as, m, rfl, ⟨ha, hb⟩, hm, rfl⟩ := h
  refine s_ret (ED.is (ed_and (ed_call g_is_tuple_of (hr.mono (by decide)) ⟨as.map .int, m, m, rfl, rfl⟩ (ad_cons (ed_var 0) (ad_cons (ed_var 1) (ad_cons (ed_var 1) ad_nil)))) fun _ =>
    ed_one (ed_call g_are_whole hr ⟨as, 0, 1, rfl, by omega, rfl⟩ (ad_cons (ed_var 0) (ad_cons ed_int (ad_cons ed_int ad_nil))))) ?_) ⟨Same.refl H, hE⟩ k
  have e : (as.all fun i => decide ((0 : Int) ≤ i) && decide (i ≤ 1)) = true := List.all_eq_true.mpr fun a h => by have := hb a h; simp; omega
  rw [e]
  simp
  omega
def rFitsDeed (ds : List PyData) (d : PyData) : Prop := ∃ (n : Int) (e : Deed), ds = [.int n, encDeed e] ∧ e.ok n ∧ d = .bool true
abbrev N_fits_deed : List Str := ["named", "value"]
abbrev P_fits_deed : List Str := ["named", "value"]
theorem sc_fits_deed : FnScope N_fits_deed P_fits_deed (defScope sfits_deed) := ⟨rfl, rfl, rfl, by decide +kernel, rfl, by decide +kernel, by decide +kernel⟩
theorem bk_fits_deed {scope : Scope} {own : List (Str × Nat)} (h : blkB N_fits_deed (defScope sfits_deed) scope own = true) : BlkOk N_fits_deed (defScope sfits_deed) scope own := blk_of h
abbrev D_fits_deed (P : Program) (w : World) (K : PySem.W.Frag) (mg : Str → Option Value) (base : Heap) : Prop := Dfn P w K mg base "fits_deed" P_fits_deed 4 (spF rFitsDeed)
theorem ok_fits_deed (M : Mg K mg) (T : At K mg "fits_deed" sfits_deed) (g_is_tuple_of : D_is_tuple_of P w K mg base) (g_is_whole : D_is_whole P w K mg base) (g_are_answers : D_are_answers P w K mg base) (g_are_two_named : D_are_two_named P w K mg base) : D_fits_deed P w K mg base := by
  refine dfn_of T sc_fits_deed (fun _ _ _ _ _ _ us hl => match us, hl with | [_, _], _ => rfl) (fun ds d h => by obtain ⟨_, _, rfl, _⟩ := h; rfl) ?_
  intro f cdv A outer s H E hr C ds d σ h hE Q k
  obtain ⟨n, e, rfl, he, rfl⟩ := h
  cases e with
  | pairs d as =>
    obtain ⟨h1, h2, ha⟩ := he
    refine s_skip (TD.is (td_w (wd_or (td_not (td_val (ed_call g_is_tuple_of (hr.mono (by decide)) ⟨_, 3, 4, rfl, rfl⟩ (ad_cons (ed_var 1) (ad_cons ed_int (ad_cons ed_int ad_nil)))))) fun _ =>
      wd_or1 (td_not (td_val (ed_isi "str" "str" true M.isinstance M.str (ed_ixT (ed_var 1) ed_int) (by decide +kernel) (by decide +kernel)))))) (by simp)) ⟨Same.refl H, hE⟩ fun H1 S1 => ?_
    refine s_ifT (TD.is (td_cmp op_eq rd_eqS (ed_ixT (ed_var 1) ed_int) ed_str) (by decide)) S1 fun H2 S2 => ?_
    refine s_ret (ED.is (ed_and (ed_cmp op_eq rd_eqI (ed_lenT M.len (ed_var 1)) ed_int) fun _ => ed_and (ed_call g_is_whole (hr.mono (by decide)) ⟨d, 0, n - 1, rfl, rfl⟩ (ad_cons (ed_ixT (ed_var 1) ed_int) (ad_cons ed_int (ad_cons (ed_subI (ed_var 0) ed_int) ad_nil)))) fun _ =>
      ed_one (ed_call g_are_answers hr ⟨as, 6, rfl, ha, by decide, rfl⟩ (ad_cons (ed_ixT (ed_var 1) ed_int) (ad_cons ed_int ad_nil)))) ?_) S2 k
    simp
    omega
  | takes x y as =>
    obtain ⟨ht, ha⟩ := he
    refine s_skip (TD.is (td_w (wd_or (td_not (td_val (ed_call g_is_tuple_of (hr.mono (by decide)) ⟨_, 3, 4, rfl, rfl⟩ (ad_cons (ed_var 1) (ad_cons ed_int (ad_cons ed_int ad_nil)))))) fun _ =>
      wd_or1 (td_not (td_val (ed_isi "str" "str" true M.isinstance M.str (ed_ixT (ed_var 1) ed_int) (by decide +kernel) (by decide +kernel)))))) (by simp)) ⟨Same.refl H, hE⟩ fun H1 S1 => ?_
    refine s_skip (TD.is (td_cmp op_eq rd_eqS (ed_ixT (ed_var 1) ed_int) ed_str) (by decide)) S1 fun H2 S2 => ?_
    refine s_skip (TD.is (td_w (wd_or (td_cmp op_ne rd_neI (ed_lenT M.len (ed_var 1)) ed_int) fun _ =>
      wd_or1 (td_not (td_val (ed_call g_are_two_named (hr.mono (by decide)) ⟨n, x, y, rfl, ht, rfl⟩ (ad_cons (ed_var 0) (ad_cons (ed_ixT (ed_var 1) ed_int) (ad_cons (ed_ixT (ed_var 1) ed_int) ad_nil)))))))) (by simp)) S2 fun H3 S3 => ?_
    refine s_ifT (TD.is (td_cmp op_eq rd_eqS (ed_ixT (ed_var 1) ed_int) ed_str) (by decide)) S3 fun H4 S4 => ?_
    exact s_ret (ed_call g_are_answers hr ⟨as, 4, rfl, ha, by decide, rfl⟩ (ad_cons (ed_ixT (ed_var 1) ed_int) (ad_cons ed_int ad_nil))) S4 k
  | tie x y w =>
    obtain ⟨ht, hw⟩ := he
    refine s_skip (TD.is (td_w (wd_or (td_not (td_val (ed_call g_is_tuple_of (hr.mono (by decide)) ⟨_, 3, 4, rfl, rfl⟩ (ad_cons (ed_var 1) (ad_cons ed_int (ad_cons ed_int ad_nil)))))) fun _ =>
      wd_or1 (td_not (td_val (ed_isi "str" "str" true M.isinstance M.str (ed_ixT (ed_var 1) ed_int) (by decide +kernel) (by decide +kernel)))))) (by simp)) ⟨Same.refl H, hE⟩ fun H1 S1 => ?_
    refine s_skip (TD.is (td_cmp op_eq rd_eqS (ed_ixT (ed_var 1) ed_int) ed_str) (by decide)) S1 fun H2 S2 => ?_
    refine s_skip (TD.is (td_w (wd_or (td_cmp op_ne rd_neI (ed_lenT M.len (ed_var 1)) ed_int) fun _ =>
      wd_or1 (td_not (td_val (ed_call g_are_two_named (hr.mono (by decide)) ⟨n, x, y, rfl, ht, rfl⟩ (ad_cons (ed_var 0) (ad_cons (ed_ixT (ed_var 1) ed_int) (ad_cons (ed_ixT (ed_var 1) ed_int) ad_nil)))))))) (by simp)) S2 fun H3 S3 => ?_
    refine s_skip (TD.is (td_cmp op_eq rd_eqS (ed_ixT (ed_var 1) ed_int) ed_str) (by decide)) S3 fun H4 S4 => ?_
    refine s_ret (ED.is (ed_and (ed_cmp op_eq rd_eqS (ed_ixT (ed_var 1) ed_int) ed_str) fun _ => ed_and (ed_isi "str" "str" true M.isinstance M.str (ed_ixT (ed_var 1) ed_int) (by decide +kernel) (by decide +kernel)) fun _ =>
      ed_one (ed_inWords (ns := ["know", "part", "turn"]) M.WORDS (ed_ixT (ed_var 1) ed_int))) ?_) S4 k
    have : w ∈ (["know", "part", "turn"] : List Str) := by simpa using hw
    rw [decide_eq_true this]
    rfl
def rFitsChoice (ds : List PyData) (d : PyData) : Prop := ∃ (n : Int) (i : Item), ds = [.int n, encItem i] ∧ i.ok n ∧ d = .bool i.isAsk
abbrev N_fits_choice : List Str := ["named", "value"]
abbrev P_fits_choice : List Str := ["named", "value"]
theorem sc_fits_choice : FnScope N_fits_choice P_fits_choice (defScope sfits_choice) := ⟨rfl, rfl, rfl, by decide +kernel, rfl, by decide +kernel, by decide +kernel⟩
theorem bk_fits_choice {scope : Scope} {own : List (Str × Nat)} (h : blkB N_fits_choice (defScope sfits_choice) scope own = true) : BlkOk N_fits_choice (defScope sfits_choice) scope own := blk_of h
abbrev D_fits_choice (P : Program) (w : World) (K : PySem.W.Frag) (mg : Str → Option Value) (base : Heap) : Prop := Dfn P w K mg base "fits_choice" P_fits_choice 3 (spF rFitsChoice)
theorem ok_fits_choice (M : Mg K mg) (T : At K mg "fits_choice" sfits_choice) (g_is_tuple_of : D_is_tuple_of P w K mg base) (g_are_two_named : D_are_two_named P w K mg base) : D_fits_choice P w K mg base := by
  refine dfn_of T sc_fits_choice (fun _ _ _ _ _ _ us hl => match us, hl with | [_, _], _ => rfl) (fun ds d h => by obtain ⟨_, _, rfl, _⟩ := h; rfl) ?_
  intro f cdv A outer s H E hr C ds d σ h hE Q k
  obtain ⟨n, i, rfl, hi, rfl⟩ := h
  cases i with
  | deed e =>
    refine s_ifT (TD.is (td_w (wd_or (k2 := false) (td_not (td_val (ed_call g_is_tuple_of (hr.mono (by decide)) ⟨.str (dName e) :: dTail e, 5, 5, rfl, rfl⟩ (ad_cons (ed_var 1 (hΓ := congrArg (fun z => some (Sd.dat z)) (encDeed_eq e))) (ad_cons ed_int (ad_cons ed_int ad_nil)))))) fun q => ?_)) ?_) ⟨Same.refl H, hE⟩ fun H1 S1 => ?_
    · cases e <;> simp [dTail] at q
    · cases e <;> simp [dTail]
    · exact s_ret ed_bl S1 k
  | ask x y yes no =>
    refine s_skip (TD.is (td_w (wd_or (td_not (td_val (ed_call g_is_tuple_of (hr.mono (by decide)) ⟨_, 5, 5, rfl, rfl⟩ (ad_cons (ed_var 1) (ad_cons ed_int (ad_cons ed_int ad_nil)))))) fun _ =>
      wd_or (td_not (td_val (ed_isi "str" "str" true M.isinstance M.str (ed_ixT (ed_var 1) ed_int) (by decide +kernel) (by decide +kernel)))) fun _ => wd_or1 (td_cmp op_ne rd_neS (ed_ixT (ed_var 1) ed_int) ed_str))) (by simp)) ⟨Same.refl H, hE⟩ fun H1 S1 => ?_
    exact s_ret (ED.is (ed_and (ed_call g_are_two_named hr ⟨n, x, y, rfl, hi.1, rfl⟩ (ad_cons (ed_var 0) (ad_cons (ed_ixT (ed_var 1) ed_int) (ad_cons (ed_ixT (ed_var 1) ed_int) ad_nil)))) fun _ =>
      ed_and (ed_isi "tuple" "tuple" true M.isinstance M.tuple (ed_ixT (ed_var 1) ed_int) (by decide +kernel) (by decide +kernel)) fun _ => ed_one (ed_isi "tuple" "tuple" true M.isinstance M.tuple (ed_ixT (ed_var 1) ed_int) (by decide +kernel) (by decide +kernel))) rfl) S1 k
/-! ### items_in -/
def rItemsIn (ds : List PyData) (d : PyData) : Prop := ∃ (n : Int) (s : List Item), ds = [.int n, encS s] ∧ okS n s ∧ d = .list ((itemsM s).map encIt)
abbrev N_items_in : List Str := ["named", "value", "found", "line", "script", "depth", "item"]
abbrev P_items_in : List Str := ["named", "value"]
theorem sc_items_in : FnScope N_items_in P_items_in (defScope sitems_in) := ⟨rfl, rfl, rfl, by decide +kernel, rfl, by decide +kernel, by decide +kernel⟩
theorem bk_items_in {scope : Scope} {own : List (Str × Nat)} (h : blkB N_items_in (defScope sitems_in) scope own = true) : BlkOk N_items_in (defScope sitems_in) scope own := blk_of h
abbrev D_items_in (P : Program) (w : World) (K : PySem.W.Frag) (mg : Str → Option Value) (base : Heap) : Prop := Dfn P w K mg base "items_in" P_items_in 5 (spF rItemsIn)
theorem ok_items_in (M : Mg K mg) (T : At K mg "items_in" sitems_in) (g_fits_choice : D_fits_choice P w K mg base) (g_fits_deed : D_fits_deed P w K mg base) : D_items_in P w K mg base := by
  refine dfn_of T sc_items_in (fun _ _ _ _ _ _ us hl => match us, hl with | [_, _], _ => rfl) (fun ds d h => by obtain ⟨_, _, rfl, _⟩ := h; rfl) ?_
  intro f cdv A outer s H E hr C ds d σ h hE Q k
  obtain ⟨n, s0, rfl, hs, rfl⟩ := h
  have I0 := II.start hs
  have hm : wLs [(s0, 0)] = wLs (IS.line ⟨[(s0, 0)], []⟩) := rfl
  refine s_par 2 3 rfl (ad_cons (ed_lst ad_nil) (ad_cons (ed_lst (ad_cons (ed_tup (ad_cons (ed_var 1) (ad_cons ed_int ad_nil))) ad_nil)) ad_nil)) ⟨Same.refl H, hE⟩ sc_items_in.nd (fun σ1 H1 S1 => ?_) rfl
  let Γs : Nat → List Sd := fun i => [.dat (.int n), .dat (encS s0), .dat (.list ((itI ⟨[(s0, 0)], []⟩ i).found.map encIt)), .dat (.list ((itI ⟨[(s0, 0)], []⟩ i).line.map encLn)), .any, .any, .any]
  refine s_while (wLs [(s0, 0)]) Γs PassesOwn.never S1 (fun i hi => ?_) ?_ (fun i hi Hb sb σ2 H2 D' S2 hrt hnx => ?_) fun σ2 H2 S2 => ?_
  · refine TD.is (td_cmp (op_neD hr.units) (rd_neNil (shLns _ fun e he => ((II.it i I0).ok e he).1)) (ed_var 3) (ed_lst ad_nil)) ?_
    have := w_it i ⟨[(s0, 0)], []⟩ (by rw [← hm]; omega)
    cases hl : (itI ⟨[(s0, 0)], []⟩ i).line with
    | nil =>
      rw [hl, ← hm] at this
      simp [wLs] at this hi
      omega
    | cons _ _ => rfl
  · refine TD.is (td_cmp (op_neD hr.units) (rd_neNil (shLns _ fun e he => ((II.it _ I0).ok e he).1)) (ed_var 3) (ed_lst ad_nil)) ?_
    have := w_it (wLs [(s0, 0)]) ⟨[(s0, 0)], []⟩ (Nat.le_refl _)
    cases hl : (itI ⟨[(s0, 0)], []⟩ (wLs [(s0, 0)])).line with
    | nil => rfl
    | cons e r =>
      rw [hl, ← hm] at this
      have e1 : wLs (e :: r) = wL e.1 + wLs r := rfl
      unfold wL at e1
      omega
  · have Ii := II.it i I0
    have In := II.it (i + 1) I0
    have hw := w_it i ⟨[(s0, 0)], []⟩ (by rw [← hm]; omega)
    have hne : (itI ⟨[(s0, 0)], []⟩ i).line ≠ [] := fun e => by
      rw [e, ← hm] at hw
      simp [wLs] at hw hi
      omega
    have esc := itI_succ i ⟨[(s0, 0)], []⟩
    have eΓ : Γs (i + 1) = [.dat (.int n), .dat (encS s0), .dat (.list ((nextI (itI ⟨[(s0, 0)], []⟩ i)).found.map encIt)), .dat (.list ((nextI (itI ⟨[(s0, 0)], []⟩ i)).line.map encLn)), .any, .any, .any] := by
      show [_, _, _, _, _, _, _] = _
      rw [esc]
    rw [esc] at In
    rw [eΓ] at hnx
    clear eΓ esc
    have S2 : Sn C Hb H2 σ2 [.dat (.int n), .dat (encS s0), .dat (.list ((itI ⟨[(s0, 0)], []⟩ i).found.map encIt)), .dat (.list ((itI ⟨[(s0, 0)], []⟩ i).line.map encLn)), .any, .any, .any] := S2
    generalize itI ⟨[(s0, 0)], []⟩ i = st at S2 Ii In hne hnx hw
    obtain ⟨line, found⟩ := st
    match line, hne with
    | (l, dep) :: r, _ =>
      have S2 : Sn C Hb H2 σ2 [.dat (.int n), .dat (encS s0), .dat (.list (found.map encIt)), .dat (.list (.tuple [encS l, .int dep] :: r.map encLn)), .any, .any, .any] := S2
      have hfo : (found ++ l.map fun i => (i, dep)).length ≤ 30 := by
        have := In.n
        have h30 := hs.2
        have h3 : cLs (r ++ l.flatMap (kids dep)) + (found ++ l.map fun i => (i, dep)).length = cntS s0 := In.n
        omega
      have hcl : ∀ q : List (List Item × Nat), q.length ≤ wLs q := by
        intro q
        induction q with
        | nil => exact Nat.zero_le _
        | cons a q ih =>
          have e1 : wLs (a :: q) = wL a.1 + wLs q := rfl
          unfold wL at e1
          rw [List.length_cons]
          omega
      have hwm : wLs [(s0, 0)] ≤ 61 := by
        have h30 := hs.2
        have key : ∀ q : List Item, (q.map wIt).sum ≤ 2 * cntS q := by
          intro q
          induction q with
          | nil => exact Nat.zero_le _
          | cons a q ih =>
            rw [cntS_cons, List.map_cons, List.sum_cons]
            have : wIt a ≤ 2 * a.cnt := by cases a <;> simp [wIt, Item.cnt] <;> omega
            omega
        have := key s0
        show wL s0 + 0 ≤ 61
        unfold wL
        omega
      have hwl : wLs ((l, dep) :: r) ≤ 61 := by
        have h3 : wLs ((l, dep) :: r) + i = wLs [(s0, 0)] := hw
        omega
      refine s_asg (ed_tup (ad_cons (ed_ixL (d := .tuple [encS l, .int dep]) (ed_var 3) ed_int atI_head) (ad_cons (ED.is (ed_slL (ed_var 3) (od_some ed_int) od_none) (congrArg PyData.list (cut_tail (.tuple [encS l, .int dep]) (r.map encLn)))) ad_nil)))
        (gd_tup rfl (gsd_cons (gd_tup rfl (gsd_cons (gd_name 4 sc_items_in.nd) (gsd_cons (gd_name 5 sc_items_in.nd) gsd_nil))) (gsd_cons (gd_name 3 sc_items_in.nd) gsd_nil))) S2 (fun σ3 H3 S3 => ?_)
      have hll : l.length ≤ 30 := by rw [List.length_append, List.length_map] at hfo; omega
      have hfl : found.length ≤ 30 := by rw [List.length_append] at hfo; omega
      refine s_set 2 (d := .list ((found ++ l.map fun i => (i, dep)).map encIt)) (ED.is (ed_catL (ed_var 2) (ed_lc1 (xs := l) (enc := encItem) (own := [("item", 6)]) (fun it => [.dat (.int n), .dat (encS s0), .dat (.list (found.map encIt)), .dat (.list (r.map encLn)), .dat (encS l), .dat (.int dep), .dat (encItem it)]) (fun it => encIt (it, dep)) rfl sc_items_in.nd
          (bk_items_in (by decide +kernel)) (id_tup (ed_var 4)) (fun C1 s H C' cl fp y _ => gd_name 6 sc_items_in.nd) (fun C1 s H C' cl fp y hy => ed_tup (ad_cons (ed_var 6) (ad_cons (ed_var 5) ad_nil))) (by show _ < 2 ^ 24; omega)) (by
            rw [List.length_map, List.length_map]
            show _ ≤ 2 ^ 24
            omega)) (by rw [List.map_append, List.map_map]; rfl)) S3 sc_items_in.nd fun σ4 H4 S4 => ?_
      refine s_skip (TD.is (td_cmp op_gt rd_gt (ed_lenL M.len (ed_var 2)) (ed_globI M.ITEMS)) (decide_eq_false (by rw [List.length_map]; omega))) S4 fun H5 S5 => ?_
      have hli : ∀ i ∈ l, i.ok n := (Ii.ok (l, dep) List.mem_cons_self).1
      let Γ2 : Nat → List Sd := fun j => [.dat (.int n), .dat (encS s0), .dat (.list ((found ++ l.map fun i => (i, dep)).map encIt)), .dat (.list ((r ++ (l.take j).flatMap (kids dep)).map encLn)), .dat (encS l), .dat (.int dep), .any]
      let Γt2 : Nat → PyData → List Sd := fun j d => [.dat (.int n), .dat (encS s0), .dat (.list ((found ++ l.map fun i => (i, dep)).map encIt)), .dat (.list ((r ++ (l.take j).flatMap (kids dep)).map encLn)), .dat (encS l), .dat (.int dep), .dat d]
      refine s_for (ws := [6]) Γ2 Γt2 PassesOwn.never rfl (id_tup (ed_var 4)) S5 (fun σ' H' h => by
          have e : (r.map encLn) = (r ++ (l.take 0).flatMap (kids dep)).map encLn := by simp
          rw [e] at h
          exact h) (fun j d hj => gd_name 6 sc_items_in.nd) (fun j d hj Hb2 sb2 σ6 H6 D2 S6 hrt2 hnx2 => ?_) fun σ6 H6 S6 => ?_
      · rw [List.getElem?_map] at hj
        cases hlj : l[j]? with
        | none => rw [hlj] at hj; cases hj
        | some it =>
          rw [hlj] at hj
          cases hj
          have hok := hli it (List.mem_of_getElem? hlj)
          have etk : l.take (j + 1) = l.take j ++ [it] := by rw [List.take_add_one, hlj]; rfl
          have hw2 : wLs (r ++ l.flatMap (kids dep)) ≤ 61 := by
            rw [wLs_append, wLs_kids]
            have e1 : wLs ((l, dep) :: r) = wL l + wLs r := rfl
            unfold wL at e1
            omega
          have hlen : (r ++ (l.take j).flatMap (kids dep)).length ≤ 61 := by
            have h1 := take_flat (kids dep) l j
            have h2 := hcl (r ++ l.flatMap (kids dep))
            rw [List.length_append] at h2 ⊢
            omega
          cases it with
          | deed e =>
            refine s_ifF (TD.is (td_val (ed_call g_fits_choice (hr.mono (by decide)) ⟨n, .deed e, rfl, hok, rfl⟩ (ad_cons (ed_var 0) (ad_cons (ed_var 6) ad_nil)))) rfl) S6 fun H7 S7 => ?_
            refine s_skip (TD.is (td_not (td_val (ed_call g_fits_deed hr ⟨n, e, rfl, hok, rfl⟩ (ad_cons (ed_var 0) (ad_cons (ed_var 6) ad_nil))))) rfl) S7 fun H8 S8 => ?_
            refine s_nil (s_nil (hnx2 _ _ ((S8.forget 6).weak rfl fun j' s e' => .inr ?_)))
            have e2 : (r ++ (l.take (j + 1)).flatMap (kids dep)) = (r ++ (l.take j).flatMap (kids dep)) := by
              rw [etk, List.flatMap_append]
              simp [kids]
            have e' : (Γ2 (j + 1))[j']? = some s := e'
            show (Γ2 j)[j']? = some s
            rw [← e']
            show ([_, _, _, _, _, _, _] : List Sd)[j']? = ([_, _, _, _, _, _, _] : List Sd)[j']?
            rw [e2]
          | ask x y yes no =>
            refine s_ifT (TD.is (td_val (ed_call g_fits_choice (hr.mono (by decide)) ⟨n, .ask x y yes no, rfl, hok, rfl⟩ (ad_cons (ed_var 0) (ad_cons (ed_var 6) ad_nil)))) rfl) S6 fun H7 S7 => ?_
            refine s_set 3 (d := .list ((r ++ (l.take (j + 1)).flatMap (kids dep)).map encLn)) (ED.is (ed_catL (ed_var 3) (ed_lst (ad_cons (ed_tup (ad_cons (ed_ixT (ed_var 6) ed_int) (ad_cons (ed_add (ed_var 5) ed_int) ad_nil))) (ad_cons (ed_tup (ad_cons (ed_ixT (ed_var 6) ed_int) (ad_cons (ed_add (ed_var 5) ed_int) ad_nil))) ad_nil))) (by
                rw [List.length_map]
                show _ + 2 ≤ 2 ^ 24
                omega)) ?_) S7 sc_items_in.nd fun σ8 H8 S8 => ?_
            · rw [etk, List.flatMap_append, ← List.append_assoc, List.map_append]
              simp [kids, encLn, encS, encItem]
            · exact s_nil (s_nil (hnx2 _ _ ((S8.forget 6).weak rfl fun j' s e' => .inr e')))
      · rw [List.length_map] at S6
        refine s_nil (hnx _ _ (((S6.forget 4).forget 5).weak rfl fun j' s e' => .inr ?_))
        have e2 : (r ++ (l.take l.length).flatMap (kids dep)) = r ++ l.flatMap (kids dep) := by rw [List.take_length]
        rw [← e']
        show ([_, _, _, _, _, _, _] : List Sd)[j']? = ([_, _, _, _, _, _, _] : List Sd)[j']?
        rw [e2]
        rfl
  · exact s_ret (ed_var 2) S2 k
end
end T2

set_option Elab.async false
set_option linter.all false
set_option maxRecDepth 100000
set_option maxHeartbeats 4000000
/-! TbM3: lots, views, the parting views; what may be sorted. -/
namespace T2
open PySem PySem.Spec PySem.W PyProof.Rows L2
theorem alike_P (p q : IP) : alike (encP p) (encP q) = true := rfl
theorem alikeAll_P : ∀ ps qs : List IP, alikeAll (ps.map encP) (qs.map encP) = true
  | [], _ => rfl
  | _ :: _, [] => rfl
  | p :: ps, q :: qs => by
    rw [List.map_cons, List.map_cons, alikeAll, alike_P, alikeAll_P ps qs]
    rfl
theorem srtOk_P (ps : List IP) : SrtOk (ps.map encP) := by
  refine ⟨fun d hd d' hd' => ?_, .inl (.inl fun d hd => ?_), fun d hd => ?_⟩
  · obtain ⟨p, _, rfl⟩ := List.mem_map.mp hd
    obtain ⟨q, _, rfl⟩ := List.mem_map.mp hd'
    exact alike_P p q
  · obtain ⟨p, _, rfl⟩ := List.mem_map.mp hd
    exact ⟨_, _, rfl⟩
  · obtain ⟨p, _, rfl⟩ := List.mem_map.mp hd
    exact Nat.le_of_ble_eq_true rfl
theorem layT (ps : List IP) : (encT ps).canLay0 = true := by
  unfold encT
  rw [PyData.canLay0]
  exact layPs ps
theorem layC (c : Cmp) : (encC c).canLay0 = true := SeqAt.canLay_of_shaped (shC c)
/-- lists of pairs, the first one empty or none of them -/
theorem srtOk_T (ls : List (List IP)) (h : ls.head? = some [] ∨ ∀ l ∈ ls, l ≠ []) : SrtOk (ls.map encT) := by
  refine ⟨fun d hd d' hd' => ?_, ?_, fun d hd => ?_⟩
  · obtain ⟨p, _, rfl⟩ := List.mem_map.mp hd
    obtain ⟨q, _, rfl⟩ := List.mem_map.mp hd'
    unfold encT
    rw [alike]
    exact alikeAll_P p q
  · rcases h with h | h
    · refine .inr ⟨fun d hd => ?_, ?_⟩
      · obtain ⟨p, _, rfl⟩ := List.mem_map.mp hd
        exact ⟨_, rfl⟩
      · rw [List.head?_map, h]
        rfl
    · refine .inl (.inl fun d hd => ?_)
      obtain ⟨p, hp, rfl⟩ := List.mem_map.mp hd
      cases p with
      | nil => exact absurd rfl (h _ hp)
      | cons x xs => exact ⟨_, _, rfl⟩
  · obtain ⟨p, _, rfl⟩ := List.mem_map.mp hd
    unfold encT
    rw [PyData.depth]
    have := depPs p
    omega
/-! ### lots -/
theorem lotsM_snoc (ps : List IP) (p : IP) : lotsM (ps ++ [p]) = lotsM ps ++ (lotsM ps).map (· ++ [p]) := by
  unfold lotsM
  rw [List.foldl_append]
  rfl
theorem lotsM_take {ps : List IP} {j : Nat} {p : IP} (h : ps[j]? = some p) : lotsM (ps.take (j + 1)) = lotsM (ps.take j) ++ (lotsM (ps.take j)).map (· ++ [p]) := by
  rw [List.take_add_one, h]
  exact lotsM_snoc _ _
/-- induction from the end -/
theorem snoc_ind {α : Type} {P : List α → Prop} (h0 : P []) (hs : ∀ l a, P l → P (l ++ [a])) (l : List α) : P l := by
  have : ∀ l : List α, P l.reverse := by
    intro l
    induction l with
    | nil => exact h0
    | cons a l ih => rw [List.reverse_cons]; exact hs _ _ ih
  have q := this l.reverse
  rwa [List.reverse_reverse] at q
theorem lotsM_mem (ps : List IP) : ∀ l, l ∈ lotsM ps ↔ l.Sublist ps := by
  refine snoc_ind (P := fun ps => ∀ l, l ∈ lotsM ps ↔ l.Sublist ps) (fun l => ?_) (fun ps p ih l => ?_) ps
  · show l ∈ [[]] ↔ _
    simp
  · rw [lotsM_snoc, List.mem_append, ih, List.mem_map]
    constructor
    · rintro (h | ⟨m, hm, rfl⟩)
      · exact h.trans (List.sublist_append_left _ _)
      · exact ((ih m).mp hm).append (List.Sublist.refl _)
    · intro h
      obtain ⟨l1, l2, rfl, h1, h2⟩ := List.sublist_append_iff.mp h
      cases h2 with
      | cons _ h2 =>
        have := List.sublist_nil.mp h2
        subst this
        rw [List.append_nil]
        exact .inl h1
      | cons_cons _ h2 =>
        have := List.sublist_nil.mp h2
        subst this
        exact .inr ⟨l1, (ih l1).mpr h1, rfl⟩
theorem lotsM_len (ps : List IP) : (lotsM ps).length = 2 ^ ps.length := by
  refine snoc_ind (P := fun ps => (lotsM ps).length = 2 ^ ps.length) rfl (fun ps p ih => ?_) ps
  rw [lotsM_snoc, List.length_append, List.length_map, ih, List.length_append, List.length_singleton, Nat.pow_succ]
  omega
theorem lotsM_le {ps l : List IP} (h : l ∈ lotsM ps) : l.length ≤ ps.length := ((lotsM_mem ps l).mp h).length_le
theorem lotsM_head (ps : List IP) : (lotsM ps).head? = some [] := by
  refine snoc_ind (P := fun ps => (lotsM ps).head? = some []) rfl (fun ps p ih => ?_) ps
  rw [lotsM_snoc]
  cases h : lotsM ps with
  | nil => rw [h] at ih; cases ih
  | cons x xs => rw [h] at ih; simpa using ih
def viewTs (n : Int) (st : List IP) : List (List IP) := ((lotsM (freshM n)).map fun lot => srtP (st ++ lot)).mergeSort (dataLe false encT)
def viewsM (n : Int) (st : List IP) : List Cmp := (viewTs n st).map fun t => (n + 2, t)
theorem fresh_len {n : Int} (h0 : 0 ≤ n) (h : n ≤ 3) : (freshM n).length ≤ 10 := by
  have h1 : n = 0 ∨ n = 1 ∨ n = 2 ∨ n = 3 := by omega
  rcases h1 with rfl | rfl | rfl | rfl <;> decide +kernel
theorem srtP_perm (l : List IP) : (srtP l).Perm l := List.mergeSort_perm _ _
theorem viewTs_mem {n : Int} {st t : List IP} : t ∈ viewTs n st ↔ ∃ lot, lot.Sublist (freshM n) ∧ t = srtP (st ++ lot) := by
  unfold viewTs
  rw [(List.mergeSort_perm _ _).mem_iff, List.mem_map]
  constructor
  · rintro ⟨lot, h, rfl⟩; exact ⟨lot, (lotsM_mem _ _).mp h, rfl⟩
  · rintro ⟨lot, h, rfl⟩; exact ⟨lot, (lotsM_mem _ _).mpr h, rfl⟩
/-! ### the parting views -/
def addV (ss : List (List Item)) (found : List (IP × Cmp)) (v : Cmp) : List (IP × Cmp) := found ++ ((partedM v ss).filter fun p => !decide (p ∈ found.map (·.1))).map fun p => (p, v)
def pvM (vs : List Cmp) (ss : List (List Item)) : List (IP × Cmp) := vs.foldl (addV ss) []
theorem pvM_take {vs : List Cmp} {ss : List (List Item)} {j : Nat} {v : Cmp} (h : vs[j]? = some v) : pvM (vs.take (j + 1)) ss = addV ss (pvM (vs.take j) ss) v := by
  unfold pvM
  rw [List.take_add_one, h, List.foldl_append]
  rfl
theorem addV_keys (ss : List (List Item)) (found : List (IP × Cmp)) (v : Cmp) : (addV ss found v).map (·.1) = found.map (·.1) ++ (partedM v ss).filter fun p => !decide (p ∈ found.map (·.1)) := by
  unfold addV
  rw [List.map_append, List.map_map]
  congr 1
  exact List.map_id _
theorem partedM_sub (v : Cmp) (ss : List (List Item)) : (partedM v ss).Sublist (pairs ss.length) := List.filter_sublist
theorem addV_ok {ss : List (List Item)} {found : List (IP × Cmp)} {v : Cmp} (h : (found.map (·.1)).Nodup ∧ ∀ p ∈ found.map (·.1), p ∈ pairs ss.length) : ((addV ss found v).map (·.1)).Nodup ∧ ∀ p ∈ (addV ss found v).map (·.1), p ∈ pairs ss.length := by
  rw [addV_keys]
  refine ⟨List.nodup_append.mpr ⟨h.1, (List.Sublist.nodup (List.filter_sublist.trans (partedM_sub v ss)) (pairs_nodup _)), ?_⟩, fun p hp => ?_⟩
  · intro a ha b hb e
    subst e
    have := (List.mem_filter.mp hb).2
    rw [decide_eq_true ha] at this
    cases this
  · rcases List.mem_append.mp hp with hp | hp
    · exact h.2 p hp
    · exact (partedM_sub v ss).subset (List.mem_filter.mp hp).1
theorem pvM_ok (vs : List Cmp) (ss : List (List Item)) : ((pvM vs ss).map (·.1)).Nodup ∧ ∀ p ∈ (pvM vs ss).map (·.1), p ∈ pairs ss.length := by
  refine snoc_ind (P := fun vs => ((pvM vs ss).map (·.1)).Nodup ∧ ∀ p ∈ (pvM vs ss).map (·.1), p ∈ pairs ss.length) ⟨List.nodup_nil, fun p h => by cases h⟩ (fun vs v ih => ?_) vs
  have e : pvM (vs ++ [v]) ss = addV ss (pvM vs ss) v := by unfold pvM; rw [List.foldl_append]; rfl
  rw [e]
  exact addV_ok ih
theorem pvM_mem (vs : List Cmp) (ss : List (List Item)) : ∀ p, p ∈ (pvM vs ss).map (·.1) ↔ ∃ v ∈ vs, p ∈ partedM v ss := by
  refine snoc_ind (P := fun vs => ∀ p, p ∈ (pvM vs ss).map (·.1) ↔ ∃ v ∈ vs, p ∈ partedM v ss) (fun p => by simp [pvM]) (fun vs v ih p => ?_) vs
  have e : pvM (vs ++ [v]) ss = addV ss (pvM vs ss) v := by unfold pvM; rw [List.foldl_append]; rfl
  rw [e, addV_keys, List.mem_append, ih, List.mem_filter]
  constructor
  · rintro (⟨u, hu, hp⟩ | ⟨hp, _⟩)
    · exact ⟨u, List.mem_append_left _ hu, hp⟩
    · exact ⟨v, List.mem_append_right _ List.mem_cons_self, hp⟩
  · rintro ⟨u, hu, hp⟩
    rcases List.mem_append.mp hu with hu | hu
    · exact .inl ⟨u, hu, hp⟩
    · rcases List.mem_singleton.mp hu with rfl
      by_cases q : p ∈ (pvM vs ss).map (·.1)
      · exact .inl ((ih p).mp q)
      · exact .inr ⟨hp, by rw [decide_eq_false q]; rfl⟩
theorem len_sub : ∀ {l m : List IP}, l.Nodup → (∀ p ∈ l, p ∈ m) → l.length ≤ m.length
  | [], _, _, _ => Nat.zero_le _
  | p :: l, m, hn, hs => by
    rw [List.nodup_cons] at hn
    have hp := hs p List.mem_cons_self
    have ih := len_sub (l := l) (m := m.erase p) hn.2 fun q hq => (List.mem_erase_of_ne (fun e : q = p => hn.1 (by rw [← e]; exact hq))).mpr (hs q (List.mem_cons_of_mem _ hq))
    have := List.length_erase_of_mem hp
    have : 0 < m.length := List.length_pos_of_mem hp
    rw [List.length_cons]
    omega
theorem keys_le {ss : List (List Item)} (h3 : ss.length ≤ 3) {l : List IP} (hn : l.Nodup) (hs : ∀ p ∈ l, p ∈ pairs ss.length) : l.length ≤ 66 := by
  have h1 : l.length ≤ (pairs ss.length).length := len_sub hn hs
  have := pairs_len (n := ss.length) (by omega) (by omega)
  omega
/-- the hashes of the few keys lie apart -/
def hashP (p : IP) : Int := reduceHash (Builtin.Tuple.tupleHashOf [hashInt p.1, hashInt p.2])
theorem hashP3 : ∀ p ∈ pairs 3, ∀ q ∈ pairs 3, hashP p = hashP q → p = q := by decide +kernel
theorem hash3 (P : Program) (w : World) : ∀ p ∈ pairs 3, ∀ q ∈ pairs 3, (tupleKind (mixKind P w)).hash (pk p) = (tupleKind (mixKind P w)).hash (pk q) → p = q := fun p hp q hq h => hashP3 p hp q hq h
theorem pairs_mono {m n : Int} (h : m ≤ n) {p : IP} (hp : p ∈ pairs m) : p ∈ pairs n := by
  rw [mem_pairs] at hp ⊢
  omega
theorem hash_nodup {P : Program} {w : World} {l : List (IP × PyData)} (hn : (l.map (·.1)).Nodup) (hs : ∀ p ∈ l.map (·.1), p ∈ pairs 3) : (l.map fun e => (tupleKind (mixKind P w)).hash (pk e.1)).Nodup := by
  have e : (l.map fun e => (tupleKind (mixKind P w)).hash (pk e.1)) = (l.map (·.1)).map fun p => (tupleKind (mixKind P w)).hash (pk p) := by rw [List.map_map] <;> rfl
  rw [e]
  generalize l.map (·.1) = k at hn hs
  induction k with
  | nil => exact List.nodup_nil
  | cons p k ih =>
    rw [List.map_cons, List.nodup_cons]
    rw [List.nodup_cons] at hn
    refine ⟨fun h => ?_, ih hn.2 fun q hq => hs q (List.mem_cons_of_mem _ hq)⟩
    obtain ⟨q, hq, e⟩ := List.mem_map.mp h
    exact hn.1 (hash3 P w q (hs q (List.mem_cons_of_mem _ hq)) p (hs p List.mem_cons_self) e ▸ hq)
theorem getP_some {p : IP} : ∀ {l : List (IP × PyData)}, (getP l p).isSome = decide (p ∈ l.map (·.1))
  | [] => rfl
  | (q, d) :: l => by
    have ih := getP_some (p := p) (l := l)
    unfold getP at ih ⊢
    by_cases e : q = p
    · subst e
      simp
    · rw [List.find?_cons_of_neg (by simpa using e), ih]
      have e' : ¬ p = q := fun h => e h.symm
      simp [e']
end T2

set_option Elab.async false
set_option linter.all false
set_option maxRecDepth 100000
set_option maxHeartbeats 4000000
/-! TbD7: the program's other defs. -/
namespace T2
open PySem PySem.Spec PyProof.Rows L2
theorem ed_dnew {X : Cx} {C : Addr → Prop} {Γ : List Sd} {pos : Pos} : ED X C (.Dict [] [] pos) Γ (.dict (dictD [])) := fun σ H hE Q k =>
  ⟨_, pe_dnewT, fun p hp => k _ _ (same_new hp) (.dic (hE.fresh hp) upd_same .nil)⟩
theorem endAt_at {c : Cmp} {ss : List (List Item)} {i : Int} (h0 : 0 ≤ i) (h : i < ss.length) : atI (ss.map fun s => encC (runM c s)) i = some (encC (endAt c ss i)) := by
  refine atI_nat h0 ?_
  have hl : i.toNat < ss.length := by omega
  unfold endAt
  rw [List.getElem?_map, List.getElem?_eq_getElem hl, List.getD_eq_getElem?_getD, List.getElem?_eq_getElem hl]
  rfl
section
variable {P : Program} {w : World} {K : PySem.W.Frag} {mg : Str → Option Value} {base : Heap}
/-! ### fits_script, need_scripts, need_start, twos_of -/
def rFitsScript (ds : List PyData) (d : PyData) : Prop := ∃ (n : Int) (s : List Item), ds = [.int n, encS s] ∧ okS n s ∧ d = .bool true
abbrev N_fits_script : List Str := ["named", "value", "items", "item", "depth"]
abbrev P_fits_script : List Str := ["named", "value"]
theorem sc_fits_script : FnScope N_fits_script P_fits_script (defScope sfits_script) := ⟨rfl, rfl, rfl, by decide +kernel, rfl, by decide +kernel, by decide +kernel⟩
theorem bk_fits_script {scope : Scope} {own : List (Str × Nat)} (h : blkB N_fits_script (defScope sfits_script) scope own = true) : BlkOk N_fits_script (defScope sfits_script) scope own := blk_of h
abbrev D_fits_script (P : Program) (w : World) (K : PySem.W.Frag) (mg : Str → Option Value) (base : Heap) : Prop := Dfn P w K mg base "fits_script" P_fits_script 6 (spF rFitsScript)
theorem ok_fits_script (M : Mg K mg) (T : At K mg "fits_script" sfits_script) (g_items_in : D_items_in P w K mg base) : D_fits_script P w K mg base := by
  refine dfn_of T sc_fits_script (fun _ _ _ _ _ _ us hl => match us, hl with | [_, _], _ => rfl) (fun ds d h => by obtain ⟨_, _, rfl, _⟩ := h; rfl) ?_
  intro f cdv A outer s H E hr C ds d σ h hE Q k
  obtain ⟨n, s0, rfl, hs, rfl⟩ := h
  obtain ⟨h1, h2⟩ := itemsM_ok hs
  refine s_set 2 (ed_if (td_val (ed_isi "tuple" "tuple" true M.isinstance M.tuple (ed_var 1) (by decide +kernel) (by decide +kernel))) (fun _ => ed_call g_items_in hr ⟨n, s0, rfl, hs, rfl⟩ (ad_cons (ed_var 0) (ad_cons (ed_var 1) ad_nil))) (fun q => nomatch q)) ⟨Same.refl H, hE⟩ sc_fits_script.nd fun σ1 H1 S1 => ?_
  refine s_skip (td_cmp op_isN rd_isL (ed_var 2) ed_non) S1 fun H2 S2 => ?_
  refine s_ret (ED.is (ed_all (bs := ((itemsM s0).filter fun e => e.1.isAsk).map fun e => decide ((e.2 : Int) < 4)) rfl M.all (ED.is
    (ed_lc (xs := itemsM s0) (enc := encIt) (own := [("item", 3), ("depth", 4)]) (fun e => [.dat (.int n), .dat (encS s0), .dat (.list ((itemsM s0).map encIt)), .dat (encItem e.1), .dat (.int e.2)]) (fun e => e.1.isAsk) (fun e => .bool (decide ((e.2 : Int) < 4))) rfl sc_fits_script.nd
      (bk_fits_script (by decide +kernel)) (id_list (ed_var 2)) (fun C1 s H C' cl fp y _ => gd_tup rfl (gsd_cons (gd_name 3 sc_fits_script.nd) (gsd_cons (gd_name 4 sc_fits_script.nd) gsd_nil)))
      (fun C1 s H C' cl fp y hy => tsd_one (by
        obtain ⟨it, dep⟩ := y
        cases it with
        | deed e => exact TD.is (td_cmp op_eq rd_eqS (ed_ixT (ds := .str (dName e) :: dTail e) (ed_var 3 (hΓ := congrArg (fun z => some (Sd.dat z)) (encDeed_eq e))) ed_int atI_head) ed_str) (dName_ask e)
        | ask x y yes no => exact TD.is (td_cmp op_eq rd_eqS (ed_ixT (ed_var 3) ed_int) ed_str) (by decide : (("ask" : Str) == ("ask" : Str)) = true)))
      (fun C1 s H C' cl fp y hy _ => ed_cmp op_lt rd_lt (ed_var 4) (ed_globI M.DEEPEST)) (by show _ < 2 ^ 24; omega)) ?_)) ?_) S2 k
  · rw [List.map_map]; rfl
  · congr 1
    rw [List.all_map, List.all_eq_true]
    intro e he
    have := (h1 e (List.mem_filter.mp he).1).2
    simp
    omega
def okSs (n : Int) (ss : List (List Item)) : Prop := (2 ≤ ss.length ∧ ss.length ≤ 3) ∧ ∀ s ∈ ss, okS n s
def rNeedScripts (ds : List PyData) (d : PyData) : Prop := ∃ (n : Int) (ss : List (List Item)), ds = [.int n, .tuple (ss.map encS)] ∧ okSs n ss ∧ d = .none
abbrev N_need_scripts : List Str := ["named", "value", "script"]
abbrev P_need_scripts : List Str := ["named", "value"]
theorem sc_need_scripts : FnScope N_need_scripts P_need_scripts (defScope sneed_scripts) := ⟨rfl, rfl, rfl, by decide +kernel, rfl, by decide +kernel, by decide +kernel⟩
theorem bk_need_scripts {scope : Scope} {own : List (Str × Nat)} (h : blkB N_need_scripts (defScope sneed_scripts) scope own = true) : BlkOk N_need_scripts (defScope sneed_scripts) scope own := blk_of h
abbrev D_need_scripts (P : Program) (w : World) (K : PySem.W.Frag) (mg : Str → Option Value) (base : Heap) : Prop := Dfn P w K mg base "need_scripts" P_need_scripts 7 (spF rNeedScripts)
theorem ok_need_scripts (M : Mg K mg) (T : At K mg "need_scripts" sneed_scripts) (g_is_tuple_of : D_is_tuple_of P w K mg base) (g_fits_script : D_fits_script P w K mg base) : D_need_scripts P w K mg base := by
  refine dfn_of T sc_need_scripts (fun _ _ _ _ _ _ us hl => match us, hl with | [_, _], _ => rfl) (fun ds d h => by obtain ⟨_, _, rfl, _⟩ := h; rfl) ?_
  intro f cdv A outer s H E hr C ds d σ h hE Q k
  obtain ⟨n, ss, rfl, ⟨h23, hs⟩, rfl⟩ := h
  refine s_skip (TD.is (td_w (wd_or (td_not (td_val (ed_call g_is_tuple_of (hr.mono (by decide)) ⟨_, 2, 3, rfl, rfl⟩ (ad_cons (ed_var 1) (ad_cons ed_int (ad_cons ed_int ad_nil)))))) fun _ =>
    wd_or1 (td_not (td_val (ed_all (bs := ss.map fun _ => true) rfl M.all (ED.is (ed_lc1 (xs := ss) (enc := encS) (own := [("script", 2)]) (fun s => [.dat (.int n), .dat (.tuple (ss.map encS)), .dat (encS s)]) (fun _ => .bool true) rfl sc_need_scripts.nd
      (bk_need_scripts (by decide +kernel)) (id_tup (ed_var 1)) (fun C1 s H C' cl fp y _ => gd_name 2 sc_need_scripts.nd) (fun C1 s H C' cl fp y hy => ed_call g_fits_script hr ⟨n, y, rfl, hs y hy, rfl⟩ (ad_cons (ed_var 0) (ad_cons (ed_var 2) ad_nil))) (by show _ < 2 ^ 24; omega)) ?_)))))) ?_) ⟨Same.refl H, hE⟩ fun H1 S1 => s_nil (k _ _ S1.sm .non)
  · rw [List.map_map]; rfl
  · rw [List.all_map]
    simp
    omega
def rNeedStart (ds : List PyData) (d : PyData) : Prop := ∃ (n : Int) (c : Cmp), ds = [.int n, encC c] ∧ 0 ≤ n ∧ n ≤ 9 ∧ c.1 = n ∧ canon c ∧ d = .none
abbrev N_need_start : List Str := ["named", "value"]
abbrev P_need_start : List Str := ["named", "value"]
theorem sc_need_start : FnScope N_need_start P_need_start (defScope sneed_start) := ⟨rfl, rfl, rfl, by decide +kernel, rfl, by decide +kernel, by decide +kernel⟩
theorem bk_need_start {scope : Scope} {own : List (Str × Nat)} (h : blkB N_need_start (defScope sneed_start) scope own = true) : BlkOk N_need_start (defScope sneed_start) scope own := blk_of h
abbrev D_need_start (P : Program) (w : World) (K : PySem.W.Frag) (mg : Str → Option Value) (base : Heap) : Prop := Dfn P w K mg base "need_start" P_need_start 5 (spF rNeedStart)
theorem ok_need_start (M : Mg K mg) (T : At K mg "need_start" sneed_start) (g_fits_company : D_fits_company P w K mg base) : D_need_start P w K mg base := by
  refine dfn_of T sc_need_start (fun _ _ _ _ _ _ us hl => match us, hl with | [_, _], _ => rfl) (fun ds d h => by obtain ⟨_, _, rfl, _⟩ := h; rfl) ?_
  intro f cdv A outer s H E hr C ds d σ h hE Q k
  obtain ⟨n, c, rfl, h0, h9, hn, hc, rfl⟩ := h
  refine s_skip (TD.is (td_w (wd_or (td_not (td_val (ed_call g_fits_company hr ⟨n, c, rfl, h0, by omega, by omega, hc, rfl⟩ (ad_cons (ed_var 0) (ad_cons (ed_var 1) ad_nil))))) fun _ =>
    wd_or1 (td_cmp op_ne rd_neI (ed_ixT (ed_var 1) ed_int) (ed_var 0)))) ?_) ⟨Same.refl H, hE⟩ fun H1 S1 => s_nil (k _ _ S1.sm .non)
  rw [decide_eq_true hn]
  rfl
def rTwosOf (ds : List PyData) (d : PyData) : Prop := ∃ (xs : List PyData), ds = [.tuple xs] ∧ xs.length ≤ 12 ∧ d = encL (pairs xs.length)
abbrev N_twos_of : List Str := ["scripts"]
abbrev P_twos_of : List Str := ["scripts"]
theorem sc_twos_of : FnScope N_twos_of P_twos_of (defScope stwos_of) := ⟨rfl, rfl, rfl, by decide +kernel, rfl, by decide +kernel, by decide +kernel⟩
theorem bk_twos_of {scope : Scope} {own : List (Str × Nat)} (h : blkB N_twos_of (defScope stwos_of) scope own = true) : BlkOk N_twos_of (defScope stwos_of) scope own := blk_of h
abbrev D_twos_of (P : Program) (w : World) (K : PySem.W.Frag) (mg : Str → Option Value) (base : Heap) : Prop := Dfn P w K mg base "twos_of" P_twos_of 2 (spF rTwosOf)
theorem ok_twos_of (M : Mg K mg) (T : At K mg "twos_of" stwos_of) (g_pairs_of : D_pairs_of P w K mg base) : D_twos_of P w K mg base := by
  refine dfn_of T sc_twos_of (fun _ _ _ _ _ _ us hl => match us, hl with | [_], _ => rfl) (fun ds d h => by obtain ⟨_, rfl, _⟩ := h; rfl) ?_
  intro f cdv A outer s H E hr C ds d σ h hE Q k
  obtain ⟨xs, rfl, h, rfl⟩ := h
  exact s_ret (ed_call g_pairs_of hr ⟨xs.length, rfl, by omega, by omega, rfl⟩ (ad_cons (ed_lenT M.len (ed_var 0)) ad_nil)) ⟨Same.refl H, hE⟩ k
/-! ### parted_in -/
def rPartedIn (ds : List PyData) (d : PyData) : Prop := ∃ (n : Int) (c : Cmp) (ss : List (List Item)), ds = [encC c, .tuple (ss.map encS)] ∧ okSs n ss ∧ 0 ≤ n ∧ n ≤ c.1 ∧ c.1 ≤ 12 ∧ d = encL (partedM c ss)
abbrev N_parted_in : List Str := ["company", "scripts", "ends", "script", "pair"]
abbrev P_parted_in : List Str := ["company", "scripts"]
theorem sc_parted_in : FnScope N_parted_in P_parted_in (defScope sparted_in) := ⟨rfl, rfl, rfl, by decide +kernel, rfl, by decide +kernel, by decide +kernel⟩
theorem bk_parted_in {scope : Scope} {own : List (Str × Nat)} (h : blkB N_parted_in (defScope sparted_in) scope own = true) : BlkOk N_parted_in (defScope sparted_in) scope own := blk_of h
abbrev D_parted_in (P : Program) (w : World) (K : PySem.W.Frag) (mg : Str → Option Value) (base : Heap) : Prop := Dfn P w K mg base "parted_in" P_parted_in 5 (spF rPartedIn)
theorem ok_parted_in (M : Mg K mg) (T : At K mg "parted_in" sparted_in) (g_run_by : D_run_by P w K mg base) (g_twos_of : D_twos_of P w K mg base) : D_parted_in P w K mg base := by
  refine dfn_of T sc_parted_in (fun _ _ _ _ _ _ us hl => match us, hl with | [_, _], _ => rfl) (fun ds d h => by obtain ⟨_, _, _, rfl, _⟩ := h; rfl) ?_
  intro f cdv A outer s H E hr C ds d σ h hE Q k
  obtain ⟨n, c, ss, rfl, ⟨h23, hs⟩, h0, hn, h12, rfl⟩ := h
  have hl := pairs_len (n := ss.length) (by omega) (by omega)
  refine s_set 2 (ed_lc1 (xs := ss) (enc := encS) (own := [("script", 3)]) (fun s => [.dat (encC c), .dat (.tuple (ss.map encS)), .any, .dat (encS s), .any]) (fun s => encC (runM c s)) rfl sc_parted_in.nd
      (bk_parted_in (by decide +kernel)) (id_tup (ed_var 1)) (fun C1 s H C' cl fp y _ => gd_name 3 sc_parted_in.nd)
      (fun C1 s H C' cl fp y hy => ed_ixT (ed_call g_run_by hr ⟨c, y, n, rfl, hs y hy, h0, hn, h12, rfl⟩ (ad_cons (ed_var 0) (ad_cons (ed_var 3) ad_nil))) ed_int) (by show _ < 2 ^ 24; omega)) ⟨Same.refl H, hE⟩ sc_parted_in.nd fun σ1 H1 S1 => ?_
  refine s_ret (ED.is (ed_lc (xs := pairs ss.length) (enc := encP) (own := [("pair", 4)]) (fun p => [.dat (encC c), .dat (.tuple (ss.map encS)), .dat (.list (ss.map fun s => encC (runM c s))), .any, .dat (encP p)]) (fun p => !decide (endAt c ss p.1 = endAt c ss p.2)) encP rfl sc_parted_in.nd
      (bk_parted_in (by decide +kernel)) (id_list (ED.is (ed_call g_twos_of (hr.mono (by decide)) ⟨ss.map encS, rfl, by rw [List.length_map]; omega, rfl⟩ (ad_cons (ed_var 1) ad_nil)) (by rw [List.length_map]; rfl))) (fun C1 s H C' cl fp y _ => gd_name 4 sc_parted_in.nd)
      (fun C1 s H C' cl fp y hy => by
        have hp := mem_pairs.mp hy
        exact tsd_one (td_cmp (op_neD hr.units) rd_neC (ed_ixL (ed_var 2) (ed_ixT (ed_var 4) ed_int) (endAt_at (by omega) (by omega))) (ed_ixL (ed_var 2) (ed_ixT (ed_var 4) ed_int) (endAt_at (by omega) (by omega)))))
      (fun C1 s H C' cl fp y hy _ => ed_var 4) (by show _ < 2 ^ 24; omega)) rfl) S1 k
/-! ### lots_within -/
def rLotsWithin (ds : List PyData) (d : PyData) : Prop := ∃ (ps : List IP), ds = [encL ps] ∧ ps.length ≤ 12 ∧ d = .list ((lotsM ps).map encT)
abbrev N_lots_within : List Str := ["pairs", "found", "pair", "lot"]
abbrev P_lots_within : List Str := ["pairs"]
theorem sc_lots_within : FnScope N_lots_within P_lots_within (defScope slots_within) := ⟨rfl, rfl, rfl, by decide +kernel, rfl, by decide +kernel, by decide +kernel⟩
theorem bk_lots_within {scope : Scope} {own : List (Str × Nat)} (h : blkB N_lots_within (defScope slots_within) scope own = true) : BlkOk N_lots_within (defScope slots_within) scope own := blk_of h
abbrev D_lots_within (P : Program) (w : World) (K : PySem.W.Frag) (mg : Str → Option Value) (base : Heap) : Prop := Dfn P w K mg base "lots_within" P_lots_within 1 (spF rLotsWithin)
theorem ok_lots_within (M : Mg K mg) (T : At K mg "lots_within" slots_within)  : D_lots_within P w K mg base := by
  refine dfn_of T sc_lots_within (fun _ _ _ _ _ _ us hl => match us, hl with | [_], _ => rfl) (fun ds d h => by obtain ⟨_, rfl, _⟩ := h; rfl) ?_
  intro f cdv A outer s H E hr C ds d σ h hE Q k
  obtain ⟨ps, rfl, h12, rfl⟩ := h
  refine s_set 1 (d := .list ((lotsM []).map encT)) (ed_lst (ad_cons (ed_tup ad_nil) ad_nil)) ⟨Same.refl H, hE⟩ sc_lots_within.nd fun σ1 H1 S1 => ?_
  refine s_for (ws := [2]) (fun j => [.dat (encL ps), .dat (.list ((lotsM (ps.take j)).map encT)), .any, .any]) (fun j d => [.dat (encL ps), .dat (.list ((lotsM (ps.take j)).map encT)), .dat d, .any]) PassesOwn.never rfl (id_list (ed_var 0)) S1 (fun σ' H' h => h) (fun j d hj => gd_name 2 sc_lots_within.nd)
    (fun j d hj Hb2 sb2 σ6 H6 D2 S6 hrt2 hnx2 => ?_) fun σ6 H6 S6 => ?_
  · rw [List.getElem?_map] at hj
    cases hlj : ps[j]? with
    | none => rw [hlj] at hj; cases hj
    | some p =>
      rw [hlj] at hj
      cases hj
      have htk := lotsM_take hlj
      have hlen : (lotsM (ps.take j)).length ≤ 4096 := by
        rw [lotsM_len]
        exact Nat.pow_le_pow_right (by decide) (show (ps.take j).length ≤ 12 by rw [List.length_take]; omega)
      refine s_set 1 (d := .list ((lotsM (ps.take (j + 1))).map encT)) (ED.is (ed_catL (ed_var 1) (ed_lc1 (xs := lotsM (ps.take j)) (enc := encT) (own := [("lot", 3)]) (fun l => [.dat (encL ps), .dat (.list ((lotsM (ps.take j)).map encT)), .dat (encP p), .dat (encT l)]) (fun l => encT (l ++ [p])) rfl sc_lots_within.nd
          (bk_lots_within (by decide +kernel)) (id_list (ed_var 1)) (fun C1 s H C' cl fp y _ => gd_name 3 sc_lots_within.nd) (fun C1 s H C' cl fp y hy => ED.is (ed_catT (ed_var 3) (ed_tup (ad_cons (ed_var 2) ad_nil)) (by
            have := lotsM_le hy
            rw [List.length_take] at this
            rw [List.length_map]
            show _ + 1 ≤ 2 ^ 24
            omega)) (by unfold encT; rw [List.map_append]; rfl)) (by show _ < 2 ^ 24; omega)) (by
              rw [List.length_map, List.length_map]
              show _ ≤ 2 ^ 24
              omega)) ?_) S6 sc_lots_within.nd fun σ7 H7 S7 => s_nil (hnx2 _ _ (S7.forget 2))
      rw [htk, List.map_append, List.map_map]
      rfl
  · rw [List.length_map] at S6
    refine s_ret (ED.is (ed_var 1) ?_) S6 k
    rw [List.take_length]
/-! ### views_at -/
def rViewsAt (ds : List PyData) (d : PyData) : Prop := ∃ (n : Int) (c : Cmp), ds = [.int n, encC c] ∧ 0 ≤ n ∧ n ≤ 3 ∧ c.1 = n ∧ canon c ∧ d = .list ((viewsM n c.2).map encC)
abbrev N_views_at : List Str := ["named", "start", "fresh", "pair", "lot", "ties"]
abbrev P_views_at : List Str := ["named", "start"]
theorem sc_views_at : FnScope N_views_at P_views_at (defScope sviews_at) := ⟨rfl, rfl, rfl, by decide +kernel, rfl, by decide +kernel, by decide +kernel⟩
theorem bk_views_at {scope : Scope} {own : List (Str × Nat)} (h : blkB N_views_at (defScope sviews_at) scope own = true) : BlkOk N_views_at (defScope sviews_at) scope own := blk_of h
abbrev D_views_at (P : Program) (w : World) (K : PySem.W.Frag) (mg : Str → Option Value) (base : Heap) : Prop := Dfn P w K mg base "views_at" P_views_at 2 (spF rViewsAt)
theorem ok_views_at (M : Mg K mg) (T : At K mg "views_at" sviews_at) (g_pairs_of : D_pairs_of P w K mg base) (g_lots_within : D_lots_within P w K mg base) : D_views_at P w K mg base := by
  refine dfn_of T sc_views_at (fun _ _ _ _ _ _ us hl => match us, hl with | [_, _], _ => rfl) (fun ds d h => by obtain ⟨_, _, rfl, _⟩ := h; rfl) ?_
  intro f cdv A outer s H E hr C ds d σ h hE Q k
  obtain ⟨n, c, rfl, h0, h3, hn, hc, rfl⟩ := h
  have hl := pairs_len (n := n + 2) (by omega) (by omega)
  have hfl := fresh_len h0 h3
  have hcl : c.2.length ≤ 66 := Nat.le_trans hc.length_le (pairs_len (by omega) (by omega))
  have hvl : (viewTs n c.2).length ≤ 1024 := by
    unfold viewTs
    rw [List.length_mergeSort, List.length_map, lotsM_len]
    exact Nat.pow_le_pow_right (by decide) hfl
  refine s_setLc 2 (xs := pairs (n + 2)) (enc := encP) (own := [("pair", 3)]) (fun p => [.dat (.int n), .dat (encC c), .any, .dat (encP p), .any, .any]) (fun p => decide (n ≤ p.2)) encP rfl sc_views_at.nd
      (bk_views_at (by decide +kernel)) (id_list (ed_call g_pairs_of hr ⟨n + 2, rfl, by omega, by omega, rfl⟩ (ad_cons (ed_add (ed_var 0) ed_int) ad_nil))) ⟨Same.refl H, hE⟩ (fun C1 s H C' cl fp y _ => gd_name 3 sc_views_at.nd)
      (fun C1 s H C' cl fp y hy => tsd_one (td_cmp op_ge rd_ge (ed_ixT (ed_var 3) ed_int) (ed_var 0))) (fun C1 s H C' cl fp y hy _ => ed_var 3) (by show _ < 2 ^ 24; omega) fun σ1 H1 S1 => ?_
  refine s_ret (ED.is (ed_lc1 (xs := viewTs n c.2) (enc := encT) (own := [("ties", 5)]) (fun t => [.dat (.int n), .dat (encC c), .dat (encL (freshM n)), .any, .any, .dat (encT t)]) (fun t => encC (n + 2, t)) rfl sc_views_at.nd
      (bk_views_at (by decide +kernel)) (id_list (ed_sortL (enc := encT) (bs := (lotsM (freshM n)).map fun lot => srtP (c.2 ++ lot)) rfl hr.units M.sorted (ED.is (ed_lc1 (xs := lotsM (freshM n)) (enc := encT) (own := [("lot", 4)]) (fun l => [.dat (.int n), .dat (encC c), .dat (encL (freshM n)), .any, .dat (encT l), .any]) (fun l => encT (srtP (c.2 ++ l))) rfl sc_views_at.nd
          (bk_views_at (by decide +kernel)) (id_list (ed_call g_lots_within hr ⟨freshM n, rfl, by omega, rfl⟩ (ad_cons (ed_var 2) ad_nil))) (fun C1 s H C' cl fp y _ => gd_name 4 sc_views_at.nd)
          (fun C1 s H C' cl fp y hy => by
            have hy' := lotsM_le hy
            exact ed_tupL M.tuple (ed_sortT (enc := encP) (bs := c.2 ++ y) rfl hr.units M.sorted (ED.is (ed_catT (ds := c.2.map encP) (es := y.map encP) (ed_ixT (ed_var 1) ed_int) (ed_var 4) (by
              rw [List.length_map, List.length_map]
              show _ ≤ 2 ^ 24
              omega)) (by rw [List.map_append])) (srtOk_P _) (fun b _ => layP b) (by
              rw [List.length_append]
              show _ ≤ 2 ^ 24
              omega)))
          (by
            rw [lotsM_len]
            exact Nat.lt_of_le_of_lt (Nat.pow_le_pow_right (by decide) hfl) (by decide))) (by rw [List.map_map]; rfl)) (srtOk_T _ ?_) (fun b _ => layT b) ?_)) (fun C1 s H C' cl fp y _ => gd_name 5 sc_views_at.nd)
      (fun C1 s H C' cl fp y hy => ed_tup (ad_cons (ed_add (ed_var 0) ed_int) (ad_cons (ed_var 5) ad_nil))) (by show _ < 2 ^ 24; omega)) ?_) S1 k
  · cases hst : c.2 with
    | nil =>
      left
      rw [List.head?_map, lotsM_head]
      show some (srtP []) = some []
      simp [srtP]
    | cons a st =>
      right
      intro l hl e
      obtain ⟨lot, _, rfl⟩ := List.mem_map.mp hl
      have := (srtP_perm (a :: st ++ lot)).length_eq
      rw [e] at this
      simp at this
  · rw [List.length_map, lotsM_len]
    exact Nat.le_trans (Nat.pow_le_pow_right (by decide) hfl) (by decide)
  · unfold viewsM
    rw [List.map_map]
    rfl
/-! ### parting_views -/
def kvC (l : List (IP × Cmp)) : List (IP × PyData) := l.map fun e => (e.1, encC e.2)
theorem kvC_keys (l : List (IP × Cmp)) : (kvC l).map (·.1) = l.map (·.1) := by unfold kvC; rw [List.map_map]; rfl
def rPartingViews (ds : List PyData) (d : PyData) : Prop := ∃ (n : Int) (c : Cmp) (ss : List (List Item)), ds = [.int n, encC c, .tuple (ss.map encS)] ∧ okSs n ss ∧ 0 ≤ n ∧ n ≤ 3 ∧ c.1 = n ∧ canon c ∧ d = .dict (dictD (kvC (pvM (viewsM n c.2) ss)))
abbrev N_parting_views : List Str := ["named", "start", "scripts", "found", "view", "fresh", "pair"]
abbrev P_parting_views : List Str := ["named", "start", "scripts"]
theorem sc_parting_views : FnScope N_parting_views P_parting_views (defScope sparting_views) := ⟨rfl, rfl, rfl, by decide +kernel, rfl, by decide +kernel, by decide +kernel⟩
theorem bk_parting_views {scope : Scope} {own : List (Str × Nat)} (h : blkB N_parting_views (defScope sparting_views) scope own = true) : BlkOk N_parting_views (defScope sparting_views) scope own := blk_of h
abbrev D_parting_views (P : Program) (w : World) (K : PySem.W.Frag) (mg : Str → Option Value) (base : Heap) : Prop := Dfn P w K mg base "parting_views" P_parting_views 6 (spF rPartingViews)
theorem ok_parting_views (M : Mg K mg) (T : At K mg "parting_views" sparting_views) (g_views_at : D_views_at P w K mg base) (g_parted_in : D_parted_in P w K mg base) : D_parting_views P w K mg base := by
  refine dfn_of T sc_parting_views (fun _ _ _ _ _ _ us hl => match us, hl with | [_, _, _], _ => rfl) (fun ds d h => by obtain ⟨_, _, _, rfl, _⟩ := h; rfl) ?_
  intro f cdv A outer s H E hr C ds d σ h hE Q k
  obtain ⟨n, c, ss, rfl, hss, h0, h3, hn, hc, rfl⟩ := h
  have hl3 : ss.length ≤ 3 := hss.1.2
  refine s_set 3 ed_dnew ⟨Same.refl H, hE⟩ sc_parting_views.nd fun σ1 H1 S1 => ?_
  refine s_for (ws := [4]) (fun j => [.dat (.int n), .dat (encC c), .dat (.tuple (ss.map encS)), .dat (.dict (dictD (kvC (pvM ((viewsM n c.2).take j) ss)))), .any, .any, .any]) (fun j d => [.dat (.int n), .dat (encC c), .dat (.tuple (ss.map encS)), .dat (.dict (dictD (kvC (pvM ((viewsM n c.2).take j) ss)))), .dat d, .any, .any])
    PassesOwn.never rfl (id_list (ed_call g_views_at (hr.mono (by decide)) ⟨n, c, rfl, h0, h3, hn, hc, rfl⟩ (ad_cons (ed_var 0) (ad_cons (ed_var 1) ad_nil)))) S1 (fun σ' H' h => h) (fun j d hj => gd_name 4 sc_parting_views.nd)
    (fun j d hj Hb2 sb2 σ6 H6 D2 S6 hrt2 hnx2 => ?_) fun σ6 H6 S6 => ?_
  · rw [List.getElem?_map] at hj
    cases hlj : (viewsM n c.2)[j]? with
    | none => rw [hlj] at hj; cases hj
    | some v =>
      rw [hlj] at hj
      cases hj
      have htk := pvM_take (ss := ss) hlj
      have hv1 : v.1 = n + 2 := by
        obtain ⟨t, _, rfl⟩ := List.mem_map.mp (List.mem_of_getElem? hlj)
        rfl
      have hok := pvM_ok ((viewsM n c.2).take j) ss
      have hok2 := addV_ok (v := v) hok
      generalize pvM ((viewsM n c.2).take j) ss = fo at htk hok hok2 S6
      have hpl : (partedM v ss).length ≤ 66 := Nat.le_trans (partedM_sub v ss).length_le (pairs_len (by omega) (by omega))
      have hadd : kvC (addV ss fo v) = kvC fo ++ ((partedM v ss).filter fun p => !decide (p ∈ fo.map (·.1))).map fun p => (p, encC v) := by
        unfold kvC addV
        rw [List.map_append, List.map_map]
        rfl
      have hk : ((kvC (addV ss fo v)).map (·.1)).Nodup ∧ ∀ p ∈ (kvC (addV ss fo v)).map (·.1), p ∈ pairs 3 := by
        rw [kvC_keys]
        exact ⟨hok2.1, fun p hp => pairs_mono (by omega) (hok2.2 p hp)⟩
      have hkl : (kvC (addV ss fo v)).length ≤ 66 := by
        have := keys_le hl3 hok2.1 hok2.2
        rw [List.length_map] at this
        unfold kvC
        rw [List.length_map]
        exact this
      rw [hadd] at hk hkl
      refine s_setLc 5 (xs := partedM v ss) (enc := encP) (own := [("pair", 6)]) (fun p => [.dat (.int n), .dat (encC c), .dat (.tuple (ss.map encS)), .dat (.dict (dictD (kvC fo))), .dat (encC v), .any, .dat (encP p)]) (fun p => !decide (p ∈ fo.map (·.1))) (fun p => .tuple [encP p, encC v]) rfl sc_parting_views.nd
          (bk_parting_views (by decide +kernel)) (id_list (ed_call g_parted_in hr ⟨n, v, ss, rfl, hss, h0, by omega, by omega, rfl⟩ (ad_cons (ed_var 4) (ad_cons (ed_var 2) ad_nil)))) S6 (fun C1 s H C' cl fp y _ => gd_name 6 sc_parting_views.nd)
          (fun C1 s H C' cl fp y hy => tsd_one (ed_dni (u1 hr) (ed_var 6) (ed_var 3) (by rw [getP_some, kvC_keys]))) (fun C1 s H C' cl fp y hy _ => ed_tup (ad_cons (ed_var 6) (ad_cons (ed_var 4) ad_nil))) (by show _ < 2 ^ 24; omega) fun σ7 H7 S7 => ?_
      refine s_set 3 (d := .dict (dictD (kvC (pvM ((viewsM n c.2).take (j + 1)) ss)))) (ED.is (ed_spread 3 (kvs := kvC fo) (kvs2 := ((partedM v ss).filter fun p => !decide (p ∈ fo.map (·.1))).map fun p => (p, encC v)) rfl hr.units M.dict (ED.is (ed_var 5) ?_) hk.1 (hash_nodup hk.1 hk.2) (by show _ ≤ 2 ^ 24; omega) fun e he => ?_) ?_) S7 sc_parting_views.nd fun σ8 H8 S8 => s_nil (hnx2 _ _ (((S8.forget 4).forget 5).weak rfl fun j' s e => .inr e))
      · rw [List.map_map]
        rfl
      · obtain ⟨p, _, rfl⟩ := List.mem_map.mp he
        exact layC v
      · rw [htk, hadd]
  · rw [List.length_map] at S6
    refine s_ret (ED.is (ed_var 3) ?_) S6 k
    rw [List.take_length]
/-! ### parted_by, parted_at -/
def rPartedBy (ds : List PyData) (d : PyData) : Prop := ∃ (n : Int) (c : Cmp) (ss : List (List Item)), ds = [.int n, encC c, .tuple (ss.map encS)] ∧ okSs n ss ∧ 1 ≤ n ∧ n ≤ 3 ∧ n ≤ c.1 ∧ c.1 ≤ 9 ∧ canon c ∧ d = encL (partedM c ss)
abbrev N_parted_by : List Str := ["named", "company", "scripts"]
abbrev P_parted_by : List Str := ["named", "company", "scripts"]
theorem sc_parted_by : FnScope N_parted_by P_parted_by (defScope sparted_by) := ⟨rfl, rfl, rfl, by decide +kernel, rfl, by decide +kernel, by decide +kernel⟩
theorem bk_parted_by {scope : Scope} {own : List (Str × Nat)} (h : blkB N_parted_by (defScope sparted_by) scope own = true) : BlkOk N_parted_by (defScope sparted_by) scope own := blk_of h
abbrev D_parted_by (P : Program) (w : World) (K : PySem.W.Frag) (mg : Str → Option Value) (base : Heap) : Prop := Dfn P w K mg base "parted_by" P_parted_by 8 (spF rPartedBy)
theorem ok_parted_by (M : Mg K mg) (T : At K mg "parted_by" sparted_by) (g_need_named : D_need_named P w K mg base) (g_need_company : D_need_company P w K mg base) (g_need_scripts : D_need_scripts P w K mg base) (g_parted_in : D_parted_in P w K mg base) : D_parted_by P w K mg base := by
  refine dfn_of T sc_parted_by (fun _ _ _ _ _ _ us hl => match us, hl with | [_, _, _], _ => rfl) (fun ds d h => by obtain ⟨_, _, _, rfl, _⟩ := h; rfl) ?_
  intro f cdv A outer s H E hr C ds d σ h hE Q k
  obtain ⟨n, c, ss, rfl, hss, h1, h3, hn, h9, hc, rfl⟩ := h
  refine s_drop (ed_call g_need_named (hr.mono (by decide)) ⟨n, rfl, h1, h3, rfl⟩ (ad_cons (ed_var 0) ad_nil)) ⟨Same.refl H, hE⟩ fun σ1 H1 S1 => ?_
  refine s_drop (ed_call g_need_company (hr.mono (by decide)) ⟨n, c, rfl, by omega, hn, h9, hc, rfl⟩ (ad_cons (ed_var 0) (ad_cons (ed_var 1) ad_nil))) S1 fun σ2 H2 S2 => ?_
  refine s_drop (ed_call g_need_scripts hr ⟨n, ss, rfl, hss, rfl⟩ (ad_cons (ed_var 0) (ad_cons (ed_var 2) ad_nil))) S2 fun σ3 H3 S3 => ?_
  exact s_ret (ed_call g_parted_in (hr.mono (by decide)) ⟨n, c, ss, rfl, hss, by omega, hn, by omega, rfl⟩ (ad_cons (ed_var 1) (ad_cons (ed_var 2) ad_nil))) S3 k
def atM (n : Int) (st : List IP) (ss : List (List Item)) : List IP := srtP ((pvM (viewsM n st) ss).map (·.1))
def rPartedAt (ds : List PyData) (d : PyData) : Prop := ∃ (n : Int) (c : Cmp) (ss : List (List Item)), ds = [.int n, encC c, .tuple (ss.map encS)] ∧ okSs n ss ∧ 1 ≤ n ∧ n ≤ 3 ∧ c.1 = n ∧ canon c ∧ d = encL (atM n c.2 ss)
abbrev N_parted_at : List Str := ["named", "start", "scripts"]
abbrev P_parted_at : List Str := ["named", "start", "scripts"]
theorem sc_parted_at : FnScope N_parted_at P_parted_at (defScope sparted_at) := ⟨rfl, rfl, rfl, by decide +kernel, rfl, by decide +kernel, by decide +kernel⟩
theorem bk_parted_at {scope : Scope} {own : List (Str × Nat)} (h : blkB N_parted_at (defScope sparted_at) scope own = true) : BlkOk N_parted_at (defScope sparted_at) scope own := blk_of h
abbrev D_parted_at (P : Program) (w : World) (K : PySem.W.Frag) (mg : Str → Option Value) (base : Heap) : Prop := Dfn P w K mg base "parted_at" P_parted_at 8 (spF rPartedAt)
theorem ok_parted_at (M : Mg K mg) (T : At K mg "parted_at" sparted_at) (g_need_named : D_need_named P w K mg base) (g_need_start : D_need_start P w K mg base) (g_need_scripts : D_need_scripts P w K mg base) (g_parting_views : D_parting_views P w K mg base) : D_parted_at P w K mg base := by
  refine dfn_of T sc_parted_at (fun _ _ _ _ _ _ us hl => match us, hl with | [_, _, _], _ => rfl) (fun ds d h => by obtain ⟨_, _, _, rfl, _⟩ := h; rfl) ?_
  intro f cdv A outer s H E hr C ds d σ h hE Q k
  obtain ⟨n, c, ss, rfl, hss, h1, h3, hn, hc, rfl⟩ := h
  have hok := pvM_ok (viewsM n c.2) ss
  have hkl := keys_le hss.1.2 hok.1 hok.2
  refine s_drop (ed_call g_need_named (hr.mono (by decide)) ⟨n, rfl, h1, h3, rfl⟩ (ad_cons (ed_var 0) ad_nil)) ⟨Same.refl H, hE⟩ fun σ1 H1 S1 => ?_
  refine s_drop (ed_call g_need_start (hr.mono (by decide)) ⟨n, c, rfl, by omega, by omega, hn, hc, rfl⟩ (ad_cons (ed_var 0) (ad_cons (ed_var 1) ad_nil))) S1 fun σ2 H2 S2 => ?_
  refine s_drop (ed_call g_need_scripts hr ⟨n, ss, rfl, hss, rfl⟩ (ad_cons (ed_var 0) (ad_cons (ed_var 2) ad_nil))) S2 fun σ3 H3 S3 => ?_
  refine s_ret (ED.is (ed_sortD (kvs := kvC (pvM (viewsM n c.2) ss)) rfl hr.units M.sorted (ed_call g_parting_views (hr.mono (by decide)) ⟨n, c, ss, rfl, hss, by omega, h3, hn, hc, rfl⟩ (ad_cons (ed_var 0) (ad_cons (ed_var 1) (ad_cons (ed_var 2) ad_nil)))) (srtOk_P _) ?_) ?_) S3 k
  · unfold kvC
    rw [List.length_map] at hkl ⊢
    show _ ≤ 2 ^ 24
    omega
  · rw [kvC_keys]
    rfl
end
end T2

set_option Elab.async false
set_option linter.all false
set_option maxRecDepth 100000
set_option maxHeartbeats 4000000
/-! TbN: a for with an invariant of its own; a list of one's own, appended to. -/
namespace T2
open PySem PySem.Spec PySem.W PyProof.Rows L2
section
variable {X : Cx} {C : Addr → Prop} {Γ Γ' : List Sd} {e a b c : Expr} {es : List Expr} {d d1 d2 d3 : PyData} {ds : List PyData} {pos : Pos}
variable {H0 H : Hp} {σ : L2.St} {D : Ends} {rest : List Stmt} {tg iter : Expr}
/-- a for; inv H1 i: what holds before the turn i, H1 the heap behind the iterated expression -/
theorem s_forG {body : List Stmt} (inv : Hp → Nat → L2.St → Hp → Prop) (hp : PassesOwn (model X.prog X.w) X.A X.env X.xe) (hc : X.calm = true) (hi : ID X C tg iter Γ ds) (hE : En C H σ Γ)
    (h0 : ∀ H1, Same H H1 → inv H1 0 σ H1) (hsb : ∀ H1 i σ' H', inv H1 i σ' H' → SameB C H1 H' ∧ Th C H')
    (turn : ∀ H1, Same H H1 → ∀ i d, ds[i]? = some d → ∀ σ' H' H'' x, inv H1 i σ' H' → Same H' H'' → Rep C H'' x d → ∀ D' : Ends, D'.rt = D.rt → (∀ σ3 H3, inv H1 (i + 1) σ3 H3 → D'.nx σ3 H3) → WG X tg x σ' H'' fun σ2 H2 => WSs X body D' σ2 H2)
    (k : ∀ H1, Same H H1 → ∀ σ' H', inv H1 ds.length σ' H' → WSs X rest D σ' H') (hs : ∀ x, foldedSetIterable iter X.env x = pure x := by intro _; rfl) : WSs X (.For tg iter body [] pos :: rest) D σ H := by
  refine ⟨_, pss_cons (ps_for hp hc WI.p (WG.p (tg := tg)) WSs.p hs) WSs.p, hi σ H hE _ fun J H1 s1 W => ?_⟩
  have ap : ∀ a o, H1 a = some o → ¬ C a → ¬ C a := fun _ _ _ c => c
  refine ⟨fun i m σ2 H2 => i + m = ds.length ∧ inv H1 i σ2 H2, ⟨ds.length, by omega, h0 H1 s1⟩, fun i m σ2 H2 hw => ?_⟩
  obtain ⟨em, I2⟩ := hw
  obtain ⟨sb, th⟩ := hsb _ _ _ _ I2
  by_cases h : i < ds.length
  · refine .inr ⟨W.go C i H2 ap sb h, fun σ3 H3 => inv H1 (i + 1) σ3 H3, fun σ3 H3 q => ⟨m - 1, by omega, by omega, q⟩, fun x H3 hy => ?_⟩
    obtain ⟨s3, rx⟩ := W.yld C i H2 x H3 ap th sb hy
    have gi : ds[i]? = some ds[i] := List.getElem?_eq_getElem h
    exact turn H1 s1 i ds[i] gi σ2 H2 H3 x I2 s3 (rx _ gi) _ rfl fun σ3 H3 q => q
  · have ei : i = ds.length := by omega
    subst ei
    exact .inl ⟨W.stop C _ H2 ap sb (Nat.le_refl _), k H1 s1 σ2 H2 I2⟩
/-- x = [], the new list to stand apart -/
theorem s_newL (i : Nat) {x : Str} {pos' pl : Pos} (hE : En C H σ Γ) (nd : X.N.Nodup) (k : ∀ p, H p = none → En (fun a => C a ∨ a = p) (upd H p (.lst [])) (σ.set i (some (.ref p))) (Γ.set i (.val (.ref p))) → WSs X rest D (σ.set i (some (.ref p))) (upd H p (.lst [])))
    (hi : X.N[i]? = some x := by rfl) (hx : Loc X.env.scope x := by first | exact Or.inl rfl | exact Or.inr rfl) (hs : swapsWith (.List [] pl) (some (.Name x pos')) pos.line X.env = pure false := by rfl) (hf : X.fn x = true ∨ X.env.scope.names.lookup x = some .local := by first | exact .inl rfl | exact .inr rfl) :
    WSs X (.Assign [.Name x pos'] (.List [] pl) pos :: rest) D σ H :=
  ⟨_, pss_cons (ps_set nd hi hx (pe_lst pa_nil) hs hf) WSs.p, by
    refine ⟨by decide, fun p hp => k p hp ?_⟩
    have ap : ∀ a o, H a = some o → ¬ C a → ¬ (C a ∨ a = p) := fun a o e c q => q.elim c (ne_of_none e hp)
    refine En.put (hE.apart ap (same_new hp) fun a ha => ?_) rfl
    rcases ha with ha | rfl
    · exact hE.there.same (same_new hp) a ha
    · exact ⟨[], upd_same⟩⟩
/-- x.append(e), x a name that holds a list that stands apart -/
theorem s_append (i : Nat) {x : Str} {px pa pc : Pos} {p : Addr} {xs : List V} (hE : En C H σ Γ) (h : ED X C e Γ d) (hp : H p = some (.lst xs)) (hl : xs.length < sizeLine) (k : ∀ v H', Same H H' → Rep C H' v d → WSs X rest D σ (upd H' p (.lst (xs ++ [v]))))
    (hN : X.N[i]? = some x := by rfl) (hv : Vis X.env.scope x := by first | exact Or.inl rfl | exact Or.inr (Or.inl rfl) | exact Or.inr (Or.inr rfl)) (hΓ : Γ[i]? = some (.val (.ref p)) := by rfl)
    (hd : (x == ("__debug__" : Str)) = false := by decide) (hcd : (x == ("__classdict__" : Str)) = false := by decide) (hs : swapsWith (.Call (.Attribute (.Name x px) "append" pa) [e] [] pc) none pos.line X.env = pure false := by rfl)
    (hbase : attributeBase (.Name x px) "append" X.env (eval (.Name x px) X.env) = eval (.Name x px) X.env := by rfl)
    (hfew : ((backTo pc (starEach [e] X.env)).all (fun x => !x.1) && (backToKw pc (keywordEach [] X.env)).all (fun x => x.1.isSome)
      && decide (([e] : List Expr).length + ([] : List Keyword).length + (if ([] : List Keyword).isEmpty then 0 else 1) < 30)) = true := by rfl)
    (hline : (pa.endLine == pc.line) = true := by rfl) (he : starEach [e] X.env = (false, eval e X.env) :: starEach [] X.env := by rfl) (hplain : (backTo pc (starEach [] X.env)).any (·.1) = false := by rfl) :
    WSs X (.Expr (.Call (.Attribute (.Name x px) "append" pa) [e] [] pc) pos :: rest) D σ H :=
  ⟨_, pss_cons (ps_expr (pe_bm PySem.F.plainAttrs_list PySem.F.slot_list_append PySem.F.type_list_append mt_append (pe_var hN hv hd hcd) (pa_cons WE.p pa_nil he) hbase hfew hline he hplain) hs) WSs.p, by
    refine ⟨_, hE.sl i _ hΓ, .inl ⟨rfl, _, SqL.of hp⟩, ?_⟩
    exact h σ H hE _ fun v H1 s1 r1 => ⟨_, _, _, rfl, rfl, s1 _ _ hp, hl, k v H1 s1 r1⟩⟩
/-- tuple(x), x a name that holds a list that stands apart -/
theorem ed_tupV (i : Nat) {x : Str} {p0 px : Pos} {p : Addr} (hm : X.mg "tuple" = none) (hx : ∀ H, En C H σ Γ → ∃ xs, H p = some (.lst xs) ∧ RepAll C H xs ds) (hΓ : Γ[i]? = some (.val (.ref p)) := by rfl) (hg : Gl X "tuple" := by rfl)
    (hN : X.N[i]? = some x := by rfl) (hv : Vis X.env.scope x := by first | exact Or.inl rfl | exact Or.inr (Or.inl rfl) | exact Or.inr (Or.inr rfl)) (hd : (x == ("__debug__" : Str)) = false := by decide) (hcd : (x == ("__classdict__" : Str)) = false := by decide)
    (he : starEach [.Name x px] X.env = (false, eval (.Name x px) X.env) :: starEach [] X.env := by rfl) :
    ∀ H, En C H σ Γ → ∀ Q : VK, (∀ v H', Same H H' → Rep C H' v (.tuple ds) → Q v H') → WE X (.Call (.Name "tuple" p0) [.Name x px] [] pos) σ H Q := fun H hE Q k =>
  ⟨_, pe_callTy call_tuple_of hg hm (by decide +kernel) (pa_cons (pe_var hN hv hd hcd) pa_nil he) (by decide) (by decide) he rfl, by
    obtain ⟨xs, h1, h2⟩ := hx H hE
    refine ⟨_, hE.sl i _ hΓ, ?_⟩
    exact ⟨_, _, rfl, .inl ⟨SqL.of h1, fun l hl => k _ _ (same_new hl) (.tup (hE.fresh hl) upd_same (h2.same (same_new hl)))⟩⟩⟩
end
end T2

set_option Elab.async false
set_option linter.all false
set_option maxRecDepth 100000
set_option maxHeartbeats 4000000
/-! TbL1: the law's own pairs, what a deed leaves. -/
namespace T2
open PySem PySem.Spec PyProof.Rows L2
theorem cnt_two (g : Int → Bool) (x y : Int) : Spec.countIn (.bool true) (([x, y].map g).map .bool) = bI (g x) + bI (g y) := by
  cases hx : g x <;> cases hy : g y <;> simp [hx, hy, bI, Spec.countIn, Spec.same]
section
variable {P : Program} {w : World} {K : PySem.W.Frag} {mg : Str → Option Value} {base : Heap}
def rLawTwo (ds : List PyData) (d : PyData) : Prop := ∃ x y : Int, ds = [.int x, .int y] ∧ d = encP (pairOf x y)
abbrev N_l_law_two : List Str := ["_law_one", "_law_other"]
abbrev P_l_law_two : List Str := ["_law_one", "_law_other"]
theorem sc_l_law_two : FnScope N_l_law_two P_l_law_two (defScope s_law_two) := ⟨rfl, rfl, rfl, by decide +kernel, rfl, by decide +kernel, by decide +kernel⟩
theorem bk_l_law_two {scope : Scope} {own : List (Str × Nat)} (h : blkB N_l_law_two (defScope s_law_two) scope own = true) : BlkOk N_l_law_two (defScope s_law_two) scope own := blk_of h
abbrev D_l_law_two (P : Program) (w : World) (K : PySem.W.Frag) (mg : Str → Option Value) (base : Heap) : Prop := Dfn P w K mg base "_law_two" P_l_law_two 1 (spF rLawTwo)
theorem ok_l_law_two (M : Mg K mg) (T : At K mg "_law_two" s_law_two)  : D_l_law_two P w K mg base := by
  refine dfn_of T sc_l_law_two (fun _ _ _ _ _ _ us hl => match us, hl with | [_, _], _ => rfl) (fun ds d h => by obtain ⟨_, _, rfl, _⟩ := h; rfl) ?_
  intro f cdv A outer s H E hr C ds d σ h hE Q k
  obtain ⟨x, y, rfl, rfl⟩ := h
  refine s_ret (ed_if (td_cmp op_lt rd_lt (ed_var 0) (ed_var 1)) (fun q => ED.is (ed_tup (ad_cons (ed_var 0) (ad_cons (ed_var 1) ad_nil))) ?_) (fun q => ED.is (ed_tup (ad_cons (ed_var 1) (ad_cons (ed_var 0) ad_nil))) ?_)) ⟨Same.refl H, hE⟩ k
  · rw [pairOf_lt (of_decide_eq_true q)]
    rfl
  · have q := of_decide_eq_false q
    by_cases e : x = y
    · subst e
      simp [pairOf, encP]
    · rw [pairOf_gt (by omega)]
      rfl
def rLawPairs (ds : List PyData) (d : PyData) : Prop := ∃ n : Int, ds = [.int n] ∧ 0 ≤ n ∧ n ≤ 12 ∧ d = encL (pairs n)
abbrev N_l_law_pairs : List Str := ["_law_people", "_law_found", "_law_one", "_law_other"]
abbrev P_l_law_pairs : List Str := ["_law_people"]
theorem sc_l_law_pairs : FnScope N_l_law_pairs P_l_law_pairs (defScope s_law_pairs) := ⟨rfl, rfl, rfl, by decide +kernel, rfl, by decide +kernel, by decide +kernel⟩
theorem bk_l_law_pairs {scope : Scope} {own : List (Str × Nat)} (h : blkB N_l_law_pairs (defScope s_law_pairs) scope own = true) : BlkOk N_l_law_pairs (defScope s_law_pairs) scope own := blk_of h
abbrev D_l_law_pairs (P : Program) (w : World) (K : PySem.W.Frag) (mg : Str → Option Value) (base : Heap) : Prop := Dfn P w K mg base "_law_pairs" P_l_law_pairs 1 (spF rLawPairs)
theorem ok_l_law_pairs (M : Mg K mg) (T : At K mg "_law_pairs" s_law_pairs)  : D_l_law_pairs P w K mg base := by
  refine dfn_of T sc_l_law_pairs (fun _ _ _ _ _ _ us hl => match us, hl with | [_], _ => rfl) (fun ds d h => by obtain ⟨_, rfl, _⟩ := h; rfl) ?_
  intro f cdv A outer s H E hr C ds d σ h hE Q k
  obtain ⟨n, rfl, h0, hn, rfl⟩ := h
  have hl := pairs_len h0 hn
  let g : Int → List IP := fun a => (rangeI (a + 1) n).map fun b => (a, b)
  refine s_set 1 (ed_lst ad_nil) ⟨Same.refl H, hE⟩ sc_l_law_pairs.nd fun σ1 H1 S1 => ?_
  refine s_for (ws := [2]) (fun j => [.dat (.int n), .dat (encL (((rangeI 0 n).take j).flatMap g)), .any, .any]) (fun j d => [.dat (.int n), .dat (encL (((rangeI 0 n).take j).flatMap g)), .dat d, .any]) PassesOwn.never rfl (ds := (rangeI 0 n).map .int) (by rw [← rangeD0_eq]; exact id_range1 M.range (ed_var 0) (by omega)) S1 (fun σ' H' h => h) (fun j d hj => gd_name 2 sc_l_law_pairs.nd)
    (fun j d hj Hb2 sb2 σ6 H6 D2 S6 hrt2 hnx2 => ?_) fun σ6 H6 S6 => ?_
  · rw [List.getElem?_map] at hj
    cases hlj : (rangeI 0 n)[j]? with
    | none => rw [hlj] at hj; cases hj
    | some a =>
      rw [hlj] at hj
      cases hj
      have ha := mem_rangeI.mp (List.mem_of_getElem? hlj)
      have etk : ((rangeI 0 n).take (j + 1)).flatMap g = ((rangeI 0 n).take j).flatMap g ++ g a := by
        rw [List.take_add_one, hlj, List.flatMap_append]
        simp
      have hle := take_flat g (rangeI 0 n) (j + 1)
      rw [etk, List.length_append] at hle
      have hle : (((rangeI 0 n).take j).flatMap g).length + (g a).length ≤ (pairs n).length := hle
      have hga : (g a).length = (rangeI (a + 1) n).length := List.length_map _
      refine s_set 1 (d := encL (((rangeI 0 n).take (j + 1)).flatMap g)) (ED.is (ed_catL (ed_var 1) (ed_lc1 (xs := rangeI (a + 1) n) (enc := PyData.int) (own := [("_law_other", 3)]) (fun b => [.dat (.int n), .dat (encL (((rangeI 0 n).take j).flatMap g)), .dat (.int a), .dat (.int b)]) (fun b => encP (a, b)) rfl sc_l_law_pairs.nd
          (bk_l_law_pairs (by decide +kernel)) (by rw [← rangeD_eq]; exact id_range2 M.range (ed_add (ed_var 2) ed_int) (ed_var 0) (by omega)) (fun C1 s H C' cl fp y _ => gd_name 3 sc_l_law_pairs.nd) (fun C1 s H C' cl fp y hy => ed_tup (ad_cons (ed_var 2) (ad_cons (ed_var 3) ad_nil))) (by show _ < 2 ^ 24; omega)) (by
            rw [List.length_map, List.length_map]
            show _ ≤ 2 ^ 24
            omega)) ?_) S6 sc_l_law_pairs.nd fun σ7 H7 S7 => s_nil (hnx2 _ _ (S7.forget 2))
      rw [etk]
      unfold encL
      rw [List.map_append, List.map_map]
      rfl
  · rw [List.length_map] at S6
    refine s_ret (ED.is (ed_var 1) ?_) S6 k
    rw [List.take_length]
    rfl
def rLawKnows (ds : List PyData) (d : PyData) : Prop := ∃ (c : Cmp) (x y : Int), ds = [encC c, .int x, .int y] ∧ d = .bool (knM c x y)
abbrev N_l_law_knows : List Str := ["_law_company_here", "_law_one", "_law_other"]
abbrev P_l_law_knows : List Str := ["_law_company_here", "_law_one", "_law_other"]
theorem sc_l_law_knows : FnScope N_l_law_knows P_l_law_knows (defScope s_law_knows) := ⟨rfl, rfl, rfl, by decide +kernel, rfl, by decide +kernel, by decide +kernel⟩
theorem bk_l_law_knows {scope : Scope} {own : List (Str × Nat)} (h : blkB N_l_law_knows (defScope s_law_knows) scope own = true) : BlkOk N_l_law_knows (defScope s_law_knows) scope own := blk_of h
abbrev D_l_law_knows (P : Program) (w : World) (K : PySem.W.Frag) (mg : Str → Option Value) (base : Heap) : Prop := Dfn P w K mg base "_law_knows" P_l_law_knows 2 (spF rLawKnows)
theorem ok_l_law_knows (M : Mg K mg) (T : At K mg "_law_knows" s_law_knows) (g_l_law_two : D_l_law_two P w K mg base) : D_l_law_knows P w K mg base := by
  refine dfn_of T sc_l_law_knows (fun _ _ _ _ _ _ us hl => match us, hl with | [_, _, _], _ => rfl) (fun ds d h => by obtain ⟨_, _, _, rfl, _⟩ := h; rfl) ?_
  intro f cdv A outer s H E hr C ds d σ h hE Q k
  obtain ⟨c, x, y, rfl, rfl⟩ := h
  exact s_ret (ed_cmp (op_inT (u65 hr)) rd_inT (ed_call g_l_law_two hr ⟨x, y, rfl, rfl⟩ (ad_cons (ed_var 1) (ad_cons (ed_var 2) ad_nil))) (ed_ixT (ed_var 0) ed_int)) ⟨Same.refl H, hE⟩ k
/-! ### _law_behind -/
def rLawBehind (ds : List PyData) (d : PyData) : Prop := ∃ (c : Cmp) (e : Deed) (n : Int), ds = [encC c, encDeed e] ∧ e.ok n ∧ 0 ≤ n ∧ n ≤ c.1 ∧ c.1 ≤ 12 ∧ d = encC (behindM c e)
abbrev N_l_law_behind : List Str := ["_law_company_here", "_law_deed_here", "_law_found", "_law_one", "_law_other", "_law_know", "_law_many", "_law_third", "_law_person"]
abbrev P_l_law_behind : List Str := ["_law_company_here", "_law_deed_here"]
theorem sc_l_law_behind : FnScope N_l_law_behind P_l_law_behind (defScope s_law_behind) := ⟨rfl, rfl, rfl, by decide +kernel, rfl, by decide +kernel, by decide +kernel⟩
theorem bk_l_law_behind {scope : Scope} {own : List (Str × Nat)} (h : blkB N_l_law_behind (defScope s_law_behind) scope own = true) : BlkOk N_l_law_behind (defScope s_law_behind) scope own := blk_of h
abbrev D_l_law_behind (P : Program) (w : World) (K : PySem.W.Frag) (mg : Str → Option Value) (base : Heap) : Prop := Dfn P w K mg base "_law_behind" P_l_law_behind 3 (spF rLawBehind)
theorem ok_l_law_behind (M : Mg K mg) (T : At K mg "_law_behind" s_law_behind) (g_l_law_two : D_l_law_two P w K mg base) (g_l_law_pairs : D_l_law_pairs P w K mg base) (g_l_law_knows : D_l_law_knows P w K mg base) : D_l_law_behind P w K mg base := by
  refine dfn_of T sc_l_law_behind (fun _ _ _ _ _ _ us hl => match us, hl with | [_, _], _ => rfl) (fun ds d h => by obtain ⟨_, _, _, rfl, _⟩ := h; rfl) ?_
  intro f cdv A outer s H E hr C ds d σ h hE Q k
  obtain ⟨c, e, n, rfl, he, h0, hn, h12, rfl⟩ := h
  have hl := pairs_len (n := c.1) (by omega) h12
  refine s_newL 2 hE sc_l_law_behind.nd fun p hp hE1 => ?_
  let C1 : Addr → Prop := fun a => C a ∨ a = p
  let Γb : List Sd := [.dat (encC c), .dat (encDeed e), .val (.ref p), .any, .any, .any, .any, .any, .any]
  have sH : Same H (upd H p (.lst [])) := same_new hp
  refine s_forG (C := C1) (Γ := Γb) (ds := (pairs c.1).map encP) (fun H1 i σ' H' => SameB C1 H1 H' ∧ Same H H' ∧ En C1 H' σ' Γb ∧ ∃ xs, H' p = some (.lst xs) ∧ RepAll C1 H' xs ((((pairs c.1).take i).filter (ansM c e)).map encP))
    PassesOwn.never rfl (id_list (ed_call g_l_law_pairs (hr.mono (by decide)) ⟨c.1, rfl, by omega, h12, rfl⟩ (ad_cons (ed_ixT (ed_var 0) ed_int) ad_nil))) hE1
    (fun H1 s1 => ⟨SameB.refl _, sH.trans s1, hE1.same s1, [], s1 _ _ upd_same, .nil⟩) (fun H1 i σ' H' q => ⟨q.1, q.2.2.1.there⟩) (fun H1 s1 i d hd σ' H' H'' x q s3 rx D' hrt hnx => ?_) fun H1 s1 σ' H' q => ?_
  · obtain ⟨sb, sm, en, xs, hxs, hrx⟩ := q
    rw [List.getElem?_map] at hd
    cases hlj : (pairs c.1)[i]? with
    | none => rw [hlj] at hd; cases hd
    | some q =>
      rw [hlj] at hd
      cases hd
      have hq := List.mem_of_getElem? hlj
      have etk : (pairs c.1).take (i + 1) = (pairs c.1).take i ++ [q] := by rw [List.take_add_one, hlj]; rfl
      have hqm := mem_pairs.mp hq
      have hlen : xs.length ≤ 66 := by
        have e1 := hrx.length
        rw [List.length_map] at e1
        have e2 := List.length_filter_le (ansM c e) ((pairs c.1).take i)
        rw [List.length_take] at e2
        omega
      refine (show GD _ C1 _ Γb (encP q) _ _ from gd_tup rfl (gsd_cons (gd_name 3 sc_l_law_behind.nd) (gsd_cons (gd_name 4 sc_l_law_behind.nd) gsd_nil))) σ' H'' x (en.same s3) rx _ fun σ2 H2 s2 en2 _ => ?_
      have S : Sn C1 H2 H2 σ2 [.dat (encC c), .dat (encDeed e), .val (.ref p), .dat (.int q.1), .dat (.int q.2), .any, .any, .any, .any] := ⟨Same.refl _, en2⟩
      have hx2 : H2 p = some (.lst xs) := s2 _ _ (s3 _ _ hxs)
      have hr2 := (hrx.same s3).same s2
      have sb2 : SameB C1 H1 H2 := sb.trans (toB (s3.trans s2))
      have sm2 : Same H H2 := (sm.trans s3).trans s2
      -- what follows the knowledge
      have fin : ∀ σ5 H5, Sn C1 H2 H5 σ5 [.dat (encC c), .dat (encDeed e), .val (.ref p), .dat (.int q.1), .dat (.int q.2), .dat (.bool (ansM c e q)), .any, .any, .any] →
          WSs (CxD P w K mg base N_l_law_behind "_law_behind" s_law_behind f cdv A outer s H E) (match defBody s_law_behind with | [_, .For _ _ [_, _, st] _ _, _] => [st] | _ => []) D' σ5 H5 := fun σ5 H5 S5 => by
        have wk : ∀ {H' : Hp}, En C1 H' σ5 [.dat (encC c), .dat (encDeed e), .val (.ref p), .dat (.int q.1), .dat (.int q.2), .dat (.bool (ansM c e q)), .any, .any, .any] → En C1 H' σ5 Γb := fun h => h.weak rfl fun j s es => by
          match j, es with
          | 0, es => exact .inr es
          | 1, es => exact .inr es
          | 2, es => exact .inr es
          | 3, es => cases es; exact .inl rfl
          | 4, es => cases es; exact .inl rfl
          | 5, es => cases es; exact .inl rfl
          | 6, es => exact .inr es
          | 7, es => exact .inr es
          | 8, es => exact .inr es
          | j + 9, es => cases es
        cases hans : ansM c e q with
        | true =>
          refine s_ifT (TD.is (td_val (ed_var 5)) hans) S5 fun H6 S6 => ?_
          refine s_append 2 (p := p) (xs := xs) S6.en (ed_tup (ad_cons (ed_var 3) (ad_cons (ed_var 4) ad_nil))) (S6.sm _ _ hx2) (by show _ < 2 ^ 24; omega) fun v H7 s7 r7 => ?_
          refine s_nil (s_nil (hnx _ _ ?_))
          have sB : SameB C1 H7 (upd H7 p (.lst (xs ++ [v]))) := fun a o hc e => by rw [upd_ne fun z => hc (.inr z)]; exact e
          have s27 : Same H2 H7 := S6.sm.trans s7
          refine ⟨(sb2.trans (toB s27)).trans sB, fun a o e => ?_, (wk (S6.en.same s7)).mono sB ?_, xs ++ [v], upd_same, ?_⟩
          · rw [upd_ne (ne_of_none e hp)]
            exact s27 _ _ (sm2 _ _ e)
          · intro a ha
            by_cases hap : a = p
            · subst hap
              exact ⟨_, upd_same⟩
            · rw [upd_ne hap]
              exact (S6.en.same s7).there a ha
          · rw [etk, List.filter_append, List.filter_cons_of_pos hans, List.filter_nil, List.map_append]
            exact ((hr2.same s27).snoc r7).mono sB
        | false =>
          refine s_skip (TD.is (td_val (ed_var 5)) hans) S5 fun H6 S6 => s_nil (hnx _ _ ?_)
          refine ⟨sb2.trans (toB S6.sm), sm2.trans S6.sm, wk S6.en, xs, S6.sm _ _ hx2, ?_⟩
          rw [etk, List.filter_append, List.filter_cons_of_neg (by rw [hans]; exact Bool.false_ne_true), List.filter_nil, List.append_nil]
          exact hr2.same S6.sm
      refine s_set 5 (ed_call g_l_law_knows (hr.mono (by decide)) ⟨c, q.1, q.2, rfl, rfl⟩ (ad_cons (ed_var 0) (ad_cons (ed_var 3) (ad_cons (ed_var 4) ad_nil)))) S sc_l_law_behind.nd fun σ3 H3 S3 => ?_
      have ek : knM c q.1 q.2 = decide (q ∈ c.2) := by
        unfold knM
        rw [pairOf_lt hqm.2.1]
      cases e with
      | pairs dd as =>
        obtain ⟨h1, h2, ha⟩ := he
        by_cases hd : dd ∈ [q.1, q.2]
        · refine s_ifF (TD.is (td_w (wd_and (td_cmp op_eq rd_eqS (ed_ixT (ed_var 1) ed_int) ed_str) fun _ => wd_and1 (td_cmp op_notIn_seq (rd_niI (ns := [q.1, q.2])) (ed_ixT (ed_var 1) ed_int) (ed_tup (ad_cons (ed_var 3) (ad_cons (ed_var 4) ad_nil)))))) (by rw [decide_eq_true hd]; rfl)) S3 fun H4 S4 => ?_
          refine s_ifF (TD.is (td_w (wd_and (k2 := false) (td_cmp op_eq rd_eqS (ed_ixT (ed_var 1) ed_int) ed_str) fun q => absurd q (by decide))) rfl) S4 fun H5 S5 => ?_
          refine s_skip (TD.is (td_w (wd_and (k2 := false) (td_cmp op_eq rd_eqS (ed_ixT (ed_var 1) ed_int) ed_str) fun q => absurd q (by decide))) rfl) S5 fun H6 S6 => s_nil (s_nil (fin _ _ ?_))
          have : ansM c (.pairs dd as) q = knM c q.1 q.2 := by rw [ansM, if_pos (mem_two.mp hd), ek]
          rw [this]
          exact S6
        · refine s_ifT (TD.is (td_w (wd_and (td_cmp op_eq rd_eqS (ed_ixT (ed_var 1) ed_int) ed_str) fun _ => wd_and1 (td_cmp op_notIn_seq (rd_niI (ns := [q.1, q.2])) (ed_ixT (ed_var 1) ed_int) (ed_tup (ad_cons (ed_var 3) (ad_cons (ed_var 4) ad_nil)))))) (by rw [decide_eq_false hd]; rfl)) S3 fun H4 S4 => ?_
          refine s_set 6 (ED.is (ed_cntB (bs := [q.1, q.2].map (knM c dd)) (ED.is (ed_lc1 (xs := [q.1, q.2]) (enc := PyData.int) (own := [("_law_person", 8)]) (fun x => [.dat (encC c), .dat (encDeed (.pairs dd as)), .val (.ref p), .dat (.int q.1), .dat (.int q.2), .dat (.bool (knM c q.1 q.2)), .any, .any, .dat (.int x)]) (fun x => .bool (knM c dd x)) rfl sc_l_law_behind.nd
              (bk_l_law_behind (by decide +kernel)) (id_tup (ed_tup (ad_cons (ed_var 3) (ad_cons (ed_var 4) ad_nil)))) (fun C1 s H C' cl fp y _ => gd_name 8 sc_l_law_behind.nd)
              (fun C1 s H C' cl fp y hy => ed_call g_l_law_knows (hr.mono (by decide)) ⟨c, dd, y, rfl, rfl⟩ (ad_cons (ed_var 0) (ad_cons (ed_ixT (ed_var 1) ed_int) (ad_cons (ed_var 8) ad_nil)))) (Nat.lt_of_lt_of_le (show 2 < 3 by decide) (Nat.le_of_ble_eq_true rfl))) (by rw [List.map_map]; rfl))) (congrArg PyData.int (cnt_two _ _ _))) S4 sc_l_law_behind.nd fun σ5 H5 S5 => ?_
          refine s_set 5 (ed_cmp op_eq rd_eqI (ed_ixT (ed_ixT (ed_var 1) ed_int) (ed_add (ed_if (d := .int (3 * bI (decide (q ∈ c.2)))) (td_val (ed_var 5)) (fun z => ED.is ed_int ?_) (fun z => ED.is ed_int ?_)) (ed_var 6)) (atI_ints ?_ ?_)) ed_int) S5 sc_l_law_behind.nd fun σ6 H6 S6 => s_nil (fin _ _ ?_)
          · rw [← ek, z]; rfl
          · rw [← ek, z]; rfl
          · have := bI_cases (knM c dd q.1)
            have := bI_cases (knM c dd q.2)
            have := bI_cases (decide (q ∈ c.2))
            omega
          · refine oks_at ha ?_ ?_
            all_goals
              have := bI_cases (knM c dd q.1)
              have := bI_cases (knM c dd q.2)
              have := bI_cases (decide (q ∈ c.2))
              omega
          · have : ansM c (.pairs dd as) q = decide (as.getD (3 * bI (decide (q ∈ c.2)) + (bI (knM c dd q.1) + bI (knM c dd q.2))).toNat 0 = 1) := by rw [ansM, if_neg (fun z => hd (mem_two.mpr z))]
            rw [this]
            exact S6.forget 6
      | takes x y as =>
        obtain ⟨⟨h1, h2, h3, h4, h5⟩, ha⟩ := he
        refine s_ifF (TD.is (td_w (wd_and (k2 := false) (td_cmp op_eq rd_eqS (ed_ixT (ed_var 1) ed_int) ed_str) fun q => absurd q (by decide))) rfl) S3 fun H4 S4 => ?_
        by_cases hc : (x = q.1 ∨ x = q.2) ∧ ¬ (y = q.1 ∨ y = q.2)
        · refine s_ifT (TD.is (td_w (wd_and (td_cmp op_eq rd_eqS (ed_ixT (ed_var 1) ed_int) ed_str) fun _ => wd_and (td_cmp op_in_seq (rd_inI (ns := [q.1, q.2])) (ed_ixT (ed_var 1) ed_int) (ed_tup (ad_cons (ed_var 3) (ad_cons (ed_var 4) ad_nil)))) fun _ => wd_and1 (td_cmp op_notIn_seq (rd_niI (ns := [q.1, q.2])) (ed_ixT (ed_var 1) ed_int) (ed_tup (ad_cons (ed_var 3) (ad_cons (ed_var 4) ad_nil)))))) ?_) S4 fun H5 S5 => ?_
          · rw [decide_eq_true (mem_two.mpr hc.1), decide_eq_false fun z => hc.2 (mem_two.mp z)]
            rfl
          refine s_set 7 (d := .int (q.1 + q.2 - x)) (ed_if (td_cmp op_eq rd_eqI (ed_ixT (ed_var 1) ed_int) (ed_var 3)) (fun z => ED.is (ed_var 4) ?_) (fun z => ED.is (ed_var 3) ?_)) S5 sc_l_law_behind.nd fun σ6 H6 S6 => ?_
          · have := of_decide_eq_true z
            congr 1
            omega
          · have := of_decide_eq_false z
            congr 1
            omega
          refine s_set 5 (ed_cmp op_eq rd_eqI (ed_ixT (ed_ixT (ed_var 1) ed_int) (ed_add (ed_if (d := .int (2 * bI (decide (q ∈ c.2)))) (td_val (ed_var 5)) (fun z => ED.is ed_int ?_) (fun z => ED.is ed_int ?_))
              (ed_if (d := .int (bI (knM c y (q.1 + q.2 - x)))) (td_val (ed_call g_l_law_knows (hr.mono (by decide)) ⟨c, y, q.1 + q.2 - x, rfl, rfl⟩ (ad_cons (ed_var 0) (ad_cons (ed_ixT (ed_var 1) ed_int) (ad_cons (ed_var 7) ad_nil))))) (fun z => ED.is ed_int ?_) (fun z => ED.is ed_int ?_))) (atI_ints ?_ ?_)) ed_int) S6 sc_l_law_behind.nd fun σ7 H7 S7 => s_nil (s_nil (fin _ _ ?_))
          · rw [← ek, z]; rfl
          · rw [← ek, z]; rfl
          · rw [z]; rfl
          · rw [z]; rfl
          · have := bI_cases (knM c y (q.1 + q.2 - x))
            have := bI_cases (decide (q ∈ c.2))
            omega
          · refine oks_at ha ?_ ?_
            all_goals
              have := bI_cases (knM c y (q.1 + q.2 - x))
              have := bI_cases (decide (q ∈ c.2))
              omega
          · have : ansM c (.takes x y as) q = decide (as.getD (2 * bI (decide (q ∈ c.2)) + bI (knM c y (q.1 + q.2 - x))).toNat 0 = 1) := by rw [ansM, if_pos hc]
            rw [this]
            exact S7.forget 7
        · refine s_ifF (TD.is (td_w (wd_and (td_cmp op_eq rd_eqS (ed_ixT (ed_var 1) ed_int) ed_str) fun _ => wd_and (td_cmp op_in_seq (rd_inI (ns := [q.1, q.2])) (ed_ixT (ed_var 1) ed_int) (ed_tup (ad_cons (ed_var 3) (ad_cons (ed_var 4) ad_nil)))) fun _ => wd_and1 (td_cmp op_notIn_seq (rd_niI (ns := [q.1, q.2])) (ed_ixT (ed_var 1) ed_int) (ed_tup (ad_cons (ed_var 3) (ad_cons (ed_var 4) ad_nil)))))) ?_) S4 fun H5 S5 => ?_
          · by_cases q1 : x ∈ [q.1, q.2] <;> by_cases q2 : y ∈ [q.1, q.2]
            · rw [decide_eq_true q1, decide_eq_true q2]; rfl
            · exact absurd ⟨mem_two.mp q1, fun z => q2 (mem_two.mpr z)⟩ hc
            · rw [decide_eq_false q1, decide_eq_true q2]; rfl
            · rw [decide_eq_false q1, decide_eq_false q2]; rfl
          refine s_skip (TD.is (td_w (wd_and (k2 := false) (td_cmp op_eq rd_eqS (ed_ixT (ed_var 1) ed_int) ed_str) fun q => absurd q (by decide))) rfl) S5 fun H6 S6 => s_nil (s_nil (fin _ _ ?_))
          have : ansM c (.takes x y as) q = knM c q.1 q.2 := by rw [ansM, if_neg hc, ek]
          rw [this]
          exact S6
      | tie x y ww =>
        obtain ⟨⟨h1, h2, h3, h4, h5⟩, hw⟩ := he
        refine s_ifF (TD.is (td_w (wd_and (k2 := false) (td_cmp op_eq rd_eqS (ed_ixT (ed_var 1) ed_int) ed_str) fun q => absurd q (by decide))) rfl) S3 fun H4 S4 => ?_
        refine s_ifF (TD.is (td_w (wd_and (k2 := false) (td_cmp op_eq rd_eqS (ed_ixT (ed_var 1) ed_int) ed_str) fun q => absurd q (by decide))) rfl) S4 fun H5 S5 => ?_
        by_cases hq : pairOf x y = q
        · refine s_ifT (TD.is (td_w (wd_and (td_cmp op_eq rd_eqS (ed_ixT (ed_var 1) ed_int) ed_str) fun _ => wd_and1 (td_cmp (op_eqD hr.units) (rd_eqP (q := q)) (ed_call g_l_law_two (hr.mono (by decide)) ⟨x, y, rfl, rfl⟩ (ad_cons (ed_ixT (ed_var 1) ed_int) (ad_cons (ed_ixT (ed_var 1) ed_int) ad_nil))) (ed_tup (ad_cons (ed_var 3) (ad_cons (ed_var 4) ad_nil)))))) (by rw [decide_eq_true hq]; rfl)) S5 fun H6 S6 => ?_
          refine s_set 5 (ed_disp3 (b0 := ansM c (.tie x y ww) q) (x := ww) (u1 hr) ed_bl ed_bl (ed_not (ed_var 5)) (ed_ixT (ed_var 1) ed_int) (by decide) (by decide) (by decide) ?_) S6 sc_l_law_behind.nd fun σ7 H7 S7 => s_nil (s_nil (s_nil (fin _ _ S7)))
          rw [ansM, if_pos hq, ek]
          rcases hw with rfl | rfl | rfl
          · rw [if_neg (by decide)]; rfl
          · rw [if_neg (by decide)]; rfl
          · rw [if_pos rfl]; rfl
        · refine s_skip (TD.is (td_w (wd_and (td_cmp op_eq rd_eqS (ed_ixT (ed_var 1) ed_int) ed_str) fun _ => wd_and1 (td_cmp (op_eqD hr.units) (rd_eqP (q := q)) (ed_call g_l_law_two (hr.mono (by decide)) ⟨x, y, rfl, rfl⟩ (ad_cons (ed_ixT (ed_var 1) ed_int) (ad_cons (ed_ixT (ed_var 1) ed_int) ad_nil))) (ed_tup (ad_cons (ed_var 3) (ad_cons (ed_var 4) ad_nil)))))) (by rw [decide_eq_false hq]; rfl)) S5 fun H6 S6 => s_nil (s_nil (fin _ _ ?_))
          have : ansM c (.tie x y ww) q = knM c q.1 q.2 := by rw [ansM, if_neg hq, ek]
          rw [this]
          exact S6
  · obtain ⟨sb, sm, en, xs, hxs, hrx⟩ := q
    rw [List.length_map, List.take_length] at hrx
    refine ⟨_, pss_cons (ps_ret (pe_tup (pa_cons WE.p (pa_cons (pe_callTy call_tuple_of rfl M.tuple (by decide +kernel) (pa_cons (pe_var (i := 2) rfl (.inl rfl)) pa_nil)) pa_nil)))) (WSs.p (st := [])), ?_⟩
    refine (show ED _ C1 _ Γb (.int c.1) from ed_ixT (ed_var 0) ed_int) σ' H' en _ fun v H2 s2 r2 => ?_
    cases r2
    refine ⟨_, en.sl 2 _ rfl, p, xs, rfl, .inl ⟨SqL.of (s2 _ _ hxs), fun l hl => ⟨Nat.le_of_ble_eq_true rfl, fun t ht => ?_⟩⟩⟩
    have s3 : Same H (upd H2 l (.tup xs)) := (sm.trans s2).trans (same_new hl)
    have s4 := s3.trans (same_new (o := .tup [.int c.1, .ref l]) ht)
    have fr : ∀ {q : Addr} {H3 : Hp}, Same H H3 → H3 q = none → ¬ C q := fun s e => (hE.same s).fresh e
    have hr3 : RepAll C (upd (upd H2 l (.tup xs)) t (.tup [.int c.1, .ref l])) xs (((pairs c.1).filter (ansM c e)).map encP) := (((hrx.apart fun a o _ q c => q (.inl c)).same s2).same (same_new hl)).same (same_new ht)
    refine k _ _ s4 (.tup (fr s3 ht) upd_same (.cons (.int _) (.cons (.tup (fr (sm.trans s2) hl) (same_new ht _ _ upd_same) hr3) .nil)))
end
end T2

set_option Elab.async false
set_option linter.all false
set_option maxRecDepth 100000
set_option maxHeartbeats 4000000
/-! TbL2: the law's own run, count, parted, starts. -/
namespace T2
open PySem PySem.Spec PyProof.Rows L2
theorem foldB_fst (l : List Deed) (c : Cmp) : (l.foldl behindM c).1 = c.1 := by
  induction l generalizing c with
  | nil => rfl
  | cons d l ih => rw [List.foldl_cons, ih]; rfl
theorem stepM_fst (c : Cmp) (i : Item) : (stepM c i).1 = c.1 := by
  cases i with
  | deed d => rfl
  | ask x y yes no => exact foldB_fst _ _
theorem runM_fst (s : List Item) (c : Cmp) : (runM c s).1 = c.1 := by
  induction s generalizing c with
  | nil => rfl
  | cons i s ih =>
    show (runM (stepM c i) s).1 = _
    rw [ih, stepM_fst]
theorem foldl_take {α β : Type} (g : β → α → β) (b : β) {l : List α} {j : Nat} {a : α} (h : l[j]? = some a) : (l.take (j + 1)).foldl g b = g ((l.take j).foldl g b) a := by
  rw [List.take_add_one, h, List.foldl_append]
  rfl
def addL (ss : List (List Item)) (n : Int) (st : List IP) (found : List IP) (lot : List IP) : List IP := found ++ (partedM (n + 2, srtP (st ++ lot)) ss).filter fun p => !decide (p ∈ found)
def plM (ls : List (List IP)) (ss : List (List Item)) (n : Int) (st : List IP) : List IP := ls.foldl (addL ss n st) []
def atL (n : Int) (st : List IP) (ss : List (List Item)) : List IP := srtP (plM (lotsM (freshM n)) ss n st)
theorem addL_ok {ss : List (List Item)} {n : Int} {st found lot : List IP} (h : found.Nodup ∧ ∀ p ∈ found, p ∈ pairs ss.length) : (addL ss n st found lot).Nodup ∧ ∀ p ∈ addL ss n st found lot, p ∈ pairs ss.length := by
  unfold addL
  refine ⟨List.nodup_append.mpr ⟨h.1, (List.Sublist.nodup (List.filter_sublist.trans (partedM_sub _ ss)) (pairs_nodup _)), ?_⟩, fun p hp => ?_⟩
  · intro a ha b hb e
    subst e
    have := (List.mem_filter.mp hb).2
    rw [decide_eq_true ha] at this
    cases this
  · rcases List.mem_append.mp hp with hp | hp
    · exact h.2 p hp
    · exact (partedM_sub _ ss).subset (List.mem_filter.mp hp).1
theorem plM_ok (ls : List (List IP)) (ss : List (List Item)) (n : Int) (st : List IP) : (plM ls ss n st).Nodup ∧ ∀ p ∈ plM ls ss n st, p ∈ pairs ss.length := by
  refine snoc_ind (P := fun ls => (plM ls ss n st).Nodup ∧ ∀ p ∈ plM ls ss n st, p ∈ pairs ss.length) ⟨List.nodup_nil, fun p h => by cases h⟩ (fun ls v ih => ?_) ls
  have e : plM (ls ++ [v]) ss n st = addL ss n st (plM ls ss n st) v := by unfold plM; rw [List.foldl_append]; rfl
  rw [e]
  exact addL_ok ih
theorem plM_mem (ls : List (List IP)) (ss : List (List Item)) (n : Int) (st : List IP) : ∀ p, p ∈ plM ls ss n st ↔ ∃ l ∈ ls, p ∈ partedM (n + 2, srtP (st ++ l)) ss := by
  refine snoc_ind (P := fun ls => ∀ p, p ∈ plM ls ss n st ↔ ∃ l ∈ ls, p ∈ partedM (n + 2, srtP (st ++ l)) ss) (fun p => by simp [plM]) (fun ls v ih p => ?_) ls
  have e : plM (ls ++ [v]) ss n st = addL ss n st (plM ls ss n st) v := by unfold plM; rw [List.foldl_append]; rfl
  rw [e, addL, List.mem_append, ih, List.mem_filter]
  constructor
  · rintro (⟨u, hu, hp⟩ | ⟨hp, _⟩)
    · exact ⟨u, List.mem_append_left _ hu, hp⟩
    · exact ⟨v, List.mem_append_right _ List.mem_cons_self, hp⟩
  · rintro ⟨u, hu, hp⟩
    rcases List.mem_append.mp hu with hu | hu
    · exact .inl ⟨u, hu, hp⟩
    · rcases List.mem_singleton.mp hu with rfl
      by_cases q : p ∈ plM ls ss n st
      · exact .inl ((ih p).mp q)
      · exact .inr ⟨hp, by rw [decide_eq_false q]; rfl⟩
section
variable {P : Program} {w : World} {K : PySem.W.Frag} {mg : Str → Option Value} {base : Heap}
/-! ### _law_done: of deeds alone, then with asks -/
def rLawDone0 (ds : List PyData) (d : PyData) : Prop := ∃ (c : Cmp) (l : List Deed) (n : Int), ds = [encC c, .tuple (l.map encDeed)] ∧ (∀ e ∈ l, e.ok n) ∧ 0 ≤ n ∧ n ≤ c.1 ∧ c.1 ≤ 12 ∧ d = encC (l.foldl behindM c)
abbrev N_l_law_done0 : List Str := ["_law_company_here", "_law_script_here", "_law_item"]
abbrev P_l_law_done0 : List Str := ["_law_company_here", "_law_script_here"]
theorem sc_l_law_done0 : FnScope N_l_law_done0 P_l_law_done0 (defScope s_law_done) := ⟨rfl, rfl, rfl, by decide +kernel, rfl, by decide +kernel, by decide +kernel⟩
theorem bk_l_law_done0 {scope : Scope} {own : List (Str × Nat)} (h : blkB N_l_law_done0 (defScope s_law_done) scope own = true) : BlkOk N_l_law_done0 (defScope s_law_done) scope own := blk_of h
abbrev D_l_law_done0 (P : Program) (w : World) (K : PySem.W.Frag) (mg : Str → Option Value) (base : Heap) : Prop := Dfn P w K mg base "_law_done" P_l_law_done0 4 (spF rLawDone0)
theorem ok_l_law_done0 (M : Mg K mg) (T : At K mg "_law_done" s_law_done) (g_l_law_behind : D_l_law_behind P w K mg base) : D_l_law_done0 P w K mg base := by
  refine dfn_of T sc_l_law_done0 (fun _ _ _ _ _ _ us hl => match us, hl with | [_, _], _ => rfl) (fun ds d h => by obtain ⟨_, _, _, rfl, _⟩ := h; rfl) ?_
  intro f cdv A outer s H E hr C ds d σ h hE Q k
  obtain ⟨c, l, n, rfl, hl, h0, hn, h12, rfl⟩ := h
  refine s_for (ws := [2]) (fun j => [.dat (encC ((l.take j).foldl behindM c)), .dat (.tuple (l.map encDeed)), .any]) (fun j d => [.dat (encC ((l.take j).foldl behindM c)), .dat (.tuple (l.map encDeed)), .dat d]) PassesOwn.never rfl (id_tup (ed_var 1)) ⟨Same.refl H, hE⟩ (fun σ' H' h => h) (fun j d hj => gd_name 2 sc_l_law_done0.nd)
    (fun j d hj Hb2 sb2 σ6 H6 D2 S6 hrt2 hnx2 => ?_) fun σ6 H6 S6 => ?_
  · rw [List.getElem?_map] at hj
    cases hlj : l[j]? with
    | none => rw [hlj] at hj; cases hj
    | some e =>
      rw [hlj] at hj
      cases hj
      have e1 := foldl_take behindM c hlj
      have e2 := foldB_fst (l.take j) c
      refine s_ifF (TD.is (td_cmp op_eq rd_eqS (ed_ixT (ds := .str (dName e) :: dTail e) (ed_var 2 (hΓ := congrArg (fun z => some (Sd.dat z)) (encDeed_eq e))) ed_int atI_head) ed_str) (dName_ask e)) S6 fun H4 S4 => ?_
      refine s_set 0 (d := encC ((l.take (j + 1)).foldl behindM c)) (ED.is (ed_call g_l_law_behind hr ⟨_, e, n, rfl, hl e (List.mem_of_getElem? hlj), h0, by rw [e2]; exact hn, by rw [e2]; exact h12, rfl⟩ (ad_cons (ed_var 0) (ad_cons (ed_var 2) ad_nil))) (by rw [e1])) S4 sc_l_law_done0.nd fun σ7 H7 S7 => s_nil (s_nil (hnx2 _ _ (S7.forget 2)))
  · rw [List.length_map] at S6
    refine s_ret (ED.is (ed_var 0) ?_) S6 k
    rw [List.take_length]
def rLawDone (ds : List PyData) (d : PyData) : Prop := ∃ (c : Cmp) (s : List Item) (n : Int), ds = [encC c, encS s] ∧ (∀ i ∈ s, i.ok n) ∧ 0 ≤ n ∧ n ≤ c.1 ∧ c.1 ≤ 12 ∧ d = encC (runM c s)
abbrev N_l_law_done : List Str := ["_law_company_here", "_law_script_here", "_law_item"]
abbrev P_l_law_done : List Str := ["_law_company_here", "_law_script_here"]
theorem sc_l_law_done : FnScope N_l_law_done P_l_law_done (defScope s_law_done) := ⟨rfl, rfl, rfl, by decide +kernel, rfl, by decide +kernel, by decide +kernel⟩
theorem bk_l_law_done {scope : Scope} {own : List (Str × Nat)} (h : blkB N_l_law_done (defScope s_law_done) scope own = true) : BlkOk N_l_law_done (defScope s_law_done) scope own := blk_of h
abbrev D_l_law_done (P : Program) (w : World) (K : PySem.W.Frag) (mg : Str → Option Value) (base : Heap) : Prop := Dfn P w K mg base "_law_done" P_l_law_done 5 (spF rLawDone)
theorem ok_l_law_done (M : Mg K mg) (T : At K mg "_law_done" s_law_done) (g_l_law_behind : D_l_law_behind P w K mg base) (g_l_law_knows : D_l_law_knows P w K mg base) (g_l_law_done0 : D_l_law_done0 P w K mg base) : D_l_law_done P w K mg base := by
  refine dfn_of T sc_l_law_done (fun _ _ _ _ _ _ us hl => match us, hl with | [_, _], _ => rfl) (fun ds d h => by obtain ⟨_, _, _, rfl, _⟩ := h; rfl) ?_
  intro f cdv A outer s H E hr C ds d σ h hE Q k
  obtain ⟨c, l, n, rfl, hl, h0, hn, h12, rfl⟩ := h
  refine s_for (ws := [2]) (fun j => [.dat (encC ((l.take j).foldl stepM c)), .dat (encS l), .any]) (fun j d => [.dat (encC ((l.take j).foldl stepM c)), .dat (encS l), .dat d]) PassesOwn.never rfl (id_tup (ds := l.map encItem) (ed_var 1)) ⟨Same.refl H, hE⟩ (fun σ' H' h => h) (fun j d hj => gd_name 2 sc_l_law_done.nd)
    (fun j d hj Hb2 sb2 σ6 H6 D2 S6 hrt2 hnx2 => ?_) fun σ6 H6 S6 => ?_
  · rw [List.getElem?_map] at hj
    cases hlj : l[j]? with
    | none => rw [hlj] at hj; cases hj
    | some it =>
      rw [hlj] at hj
      cases hj
      have e1 := foldl_take stepM c hlj
      have e2 := runM_fst (l.take j) c
      have hok := hl it (List.mem_of_getElem? hlj)
      unfold runM at e2
      generalize (l.take j).foldl stepM c = c1 at S6 e1 e2
      cases it with
      | deed e =>
        refine s_ifF (TD.is (td_cmp op_eq rd_eqS (ed_ixT (ds := .str (dName e) :: dTail e) (ed_var 2 (hΓ := congrArg (fun z => some (Sd.dat z)) (encDeed_eq e))) ed_int atI_head) ed_str) (dName_ask e)) S6 fun H4 S4 => ?_
        refine s_set 0 (d := encC ((l.take (j + 1)).foldl stepM c)) (ED.is (ed_call g_l_law_behind (hr.mono (by decide)) ⟨c1, e, n, rfl, hok, h0, by rw [e2]; exact hn, by rw [e2]; exact h12, rfl⟩ (ad_cons (ed_var 0) (ad_cons (ed_var 2) ad_nil))) (by rw [e1]; rfl)) S4 sc_l_law_done.nd fun σ7 H7 S7 => s_nil (s_nil (hnx2 _ _ (S7.forget 2)))
      | ask x y yes no =>
        refine s_ifT (TD.is (td_cmp op_eq rd_eqS (ed_ixT (ed_var 2) ed_int) ed_str) (by decide)) S6 fun H4 S4 => ?_
        refine s_set 0 (d := encC ((l.take (j + 1)).foldl stepM c)) (ED.is (ed_call g_l_law_done0 hr ⟨c1, if knM c1 x y then yes else no, n, rfl, fun e he => ?_, h0, by rw [e2]; exact hn, by rw [e2]; exact h12, rfl⟩ (ad_cons (ed_var 0) (ad_cons (ed_if (td_val (ed_call g_l_law_knows (hr.mono (by decide)) ⟨c1, x, y, rfl, rfl⟩ (ad_cons (ed_var 0) (ad_cons (ed_ixT (ed_var 2) ed_int) (ad_cons (ed_ixT (ed_var 2) ed_int) ad_nil))))) (fun hk => ?_) (fun hk => ?_)) ad_nil))) (by rw [e1]; rfl)) S4 sc_l_law_done.nd fun σ7 H7 S7 => s_nil (s_nil (hnx2 _ _ (S7.forget 2)))
        · split at he
          · exact hok.2.1 e he
          · exact hok.2.2 e he
        · rw [hk, if_pos rfl]
          exact ed_ixT (ed_var 2) ed_int
        · rw [hk, if_neg Bool.false_ne_true]
          exact ed_ixT (ed_var 2) ed_int
  · rw [List.length_map] at S6
    refine s_ret (ED.is (ed_var 0) ?_) S6 k
    rw [List.take_length]
    rfl
/-! ### _law_count -/
def rLawCount0 (ds : List PyData) (d : PyData) : Prop := ∃ (l : List Deed), ds = [.tuple (l.map encDeed)] ∧ d = .int l.length
abbrev N_l_law_count0 : List Str := ["_law_script_here", "_law_found", "_law_item"]
abbrev P_l_law_count0 : List Str := ["_law_script_here"]
theorem sc_l_law_count0 : FnScope N_l_law_count0 P_l_law_count0 (defScope s_law_count) := ⟨rfl, rfl, rfl, by decide +kernel, rfl, by decide +kernel, by decide +kernel⟩
theorem bk_l_law_count0 {scope : Scope} {own : List (Str × Nat)} (h : blkB N_l_law_count0 (defScope s_law_count) scope own = true) : BlkOk N_l_law_count0 (defScope s_law_count) scope own := blk_of h
abbrev D_l_law_count0 (P : Program) (w : World) (K : PySem.W.Frag) (mg : Str → Option Value) (base : Heap) : Prop := Dfn P w K mg base "_law_count" P_l_law_count0 1 (spF rLawCount0)
theorem ok_l_law_count0 (M : Mg K mg) (T : At K mg "_law_count" s_law_count)  : D_l_law_count0 P w K mg base := by
  refine dfn_of T sc_l_law_count0 (fun _ _ _ _ _ _ us hl => match us, hl with | [_], _ => rfl) (fun ds d h => by obtain ⟨_, rfl, _⟩ := h; rfl) ?_
  intro f cdv A outer s H E hr C ds d σ h hE Q k
  obtain ⟨l, rfl, rfl⟩ := h
  refine s_set 1 (d := .int ((0 : Nat) : Int)) ed_int ⟨Same.refl H, hE⟩ sc_l_law_count0.nd fun σ1 H1 S1 => ?_
  refine s_for (ws := [2]) (fun j => [.dat (.tuple (l.map encDeed)), .dat (.int (j : Nat)), .any]) (fun j d => [.dat (.tuple (l.map encDeed)), .dat (.int (j : Nat)), .dat d]) PassesOwn.never rfl (id_tup (ed_var 0)) S1 (fun σ' H' h => h) (fun j d hj => gd_name 2 sc_l_law_count0.nd)
    (fun j d hj Hb2 sb2 σ6 H6 D2 S6 hrt2 hnx2 => ?_) fun σ6 H6 S6 => ?_
  · rw [List.getElem?_map] at hj
    cases hlj : l[j]? with
    | none => rw [hlj] at hj; cases hj
    | some e =>
      rw [hlj] at hj
      cases hj
      refine s_set 1 (d := .int ((j + 1 : Nat) : Int)) (ED.is (ed_add (ed_add (ed_var 1) ed_int) (ed_if (k0 := false) (TD.is (td_cmp op_eq rd_eqS (ed_ixT (ds := .str (dName e) :: dTail e) (ed_var 2 (hΓ := congrArg (fun z => some (Sd.dat z)) (encDeed_eq e))) ed_int atI_head) ed_str) (dName_ask e)) (fun q => nomatch q) (fun _ => ed_int))) (by congr 1)) S6 sc_l_law_count0.nd fun σ7 H7 S7 => s_nil (hnx2 _ _ (S7.forget 2))
  · refine s_ret (ED.is (ed_var 1) ?_) S6 k
    rw [List.length_map]
def rLawCount (ds : List PyData) (d : PyData) : Prop := ∃ (s : List Item), ds = [encS s] ∧ d = .int (cntS s)
abbrev N_l_law_count : List Str := ["_law_script_here", "_law_found", "_law_item"]
abbrev P_l_law_count : List Str := ["_law_script_here"]
theorem sc_l_law_count : FnScope N_l_law_count P_l_law_count (defScope s_law_count) := ⟨rfl, rfl, rfl, by decide +kernel, rfl, by decide +kernel, by decide +kernel⟩
theorem bk_l_law_count {scope : Scope} {own : List (Str × Nat)} (h : blkB N_l_law_count (defScope s_law_count) scope own = true) : BlkOk N_l_law_count (defScope s_law_count) scope own := blk_of h
abbrev D_l_law_count (P : Program) (w : World) (K : PySem.W.Frag) (mg : Str → Option Value) (base : Heap) : Prop := Dfn P w K mg base "_law_count" P_l_law_count 2 (spF rLawCount)
theorem ok_l_law_count (M : Mg K mg) (T : At K mg "_law_count" s_law_count) (g_l_law_count0 : D_l_law_count0 P w K mg base) : D_l_law_count P w K mg base := by
  refine dfn_of T sc_l_law_count (fun _ _ _ _ _ _ us hl => match us, hl with | [_], _ => rfl) (fun ds d h => by obtain ⟨_, rfl, _⟩ := h; rfl) ?_
  intro f cdv A outer s H E hr C ds d σ h hE Q k
  obtain ⟨l, rfl, rfl⟩ := h
  refine s_set 1 (d := .int ((0 : Nat) : Int)) ed_int ⟨Same.refl H, hE⟩ sc_l_law_count.nd fun σ1 H1 S1 => ?_
  refine s_for (ws := [2]) (fun j => [.dat (encS l), .dat (.int (cntS (l.take j) : Nat)), .any]) (fun j d => [.dat (encS l), .dat (.int (cntS (l.take j) : Nat)), .dat d]) PassesOwn.never rfl (id_tup (ds := l.map encItem) (ed_var 0)) S1 (fun σ' H' h => h) (fun j d hj => gd_name 2 sc_l_law_count.nd)
    (fun j d hj Hb2 sb2 σ6 H6 D2 S6 hrt2 hnx2 => ?_) fun σ6 H6 S6 => ?_
  · rw [List.getElem?_map] at hj
    cases hlj : l[j]? with
    | none => rw [hlj] at hj; cases hj
    | some it =>
      rw [hlj] at hj
      cases hj
      have e1 : cntS (l.take (j + 1)) = cntS (l.take j) + it.cnt := by
        rw [List.take_add_one, hlj, cntS_append]
        rfl
      cases it with
      | deed e =>
        refine s_set 1 (d := .int (cntS (l.take (j + 1)) : Nat)) (ED.is (ed_add (ed_add (ed_var 1) ed_int) (ed_if (k0 := false) (TD.is (td_cmp op_eq rd_eqS (ed_ixT (ds := .str (dName e) :: dTail e) (ed_var 2 (hΓ := congrArg (fun z => some (Sd.dat z)) (encDeed_eq e))) ed_int atI_head) ed_str) (dName_ask e)) (fun q => nomatch q) (fun _ => ed_int))) (by
          rw [e1]
          congr 1)) S6 sc_l_law_count.nd fun σ7 H7 S7 => s_nil (hnx2 _ _ (S7.forget 2))
      | ask x y yes no =>
        refine s_set 1 (d := .int (cntS (l.take (j + 1)) : Nat)) (ED.is (ed_add (ed_add (ed_var 1) ed_int) (ed_if (k0 := true) (TD.is (td_cmp op_eq rd_eqS (ed_ixT (ed_var 2) ed_int) ed_str) (by decide)) (fun _ => ed_add (ed_call g_l_law_count0 hr ⟨yes, rfl, rfl⟩ (ad_cons (ed_ixT (ed_var 2) ed_int) ad_nil)) (ed_call g_l_law_count0 hr ⟨no, rfl, rfl⟩ (ad_cons (ed_ixT (ed_var 2) ed_int) ad_nil))) (fun q => nomatch q))) (by
          rw [e1]
          have : Item.cnt (.ask x y yes no) = 1 + yes.length + no.length := rfl
          rw [this]
          congr 1
          omega)) S6 sc_l_law_count.nd fun σ7 H7 S7 => s_nil (hnx2 _ _ (S7.forget 2))
  · refine s_ret (ED.is (ed_var 1) ?_) S6 k
    rw [List.length_map, List.take_length]
/-! ### _law_k, _law_parted -/
def kM : List Item := [.deed (.pairs 0 [0, 0, 1, 1, 1, 0])]
def rLawParted (ds : List PyData) (d : PyData) : Prop := ∃ (n : Int) (c : Cmp) (ss : List (List Item)), ds = [encC c, .tuple (ss.map encS)] ∧ okSs n ss ∧ 0 ≤ n ∧ n ≤ c.1 ∧ c.1 ≤ 12 ∧ d = encL (partedM c ss)
abbrev N_l_law_parted : List Str := ["_law_company_here", "_law_scripts_here", "_law_ends", "_law_script_here", "_law_pair"]
abbrev P_l_law_parted : List Str := ["_law_company_here", "_law_scripts_here"]
theorem sc_l_law_parted : FnScope N_l_law_parted P_l_law_parted (defScope s_law_parted) := ⟨rfl, rfl, rfl, by decide +kernel, rfl, by decide +kernel, by decide +kernel⟩
theorem bk_l_law_parted {scope : Scope} {own : List (Str × Nat)} (h : blkB N_l_law_parted (defScope s_law_parted) scope own = true) : BlkOk N_l_law_parted (defScope s_law_parted) scope own := blk_of h
abbrev D_l_law_parted (P : Program) (w : World) (K : PySem.W.Frag) (mg : Str → Option Value) (base : Heap) : Prop := Dfn P w K mg base "_law_parted" P_l_law_parted 6 (spF rLawParted)
theorem ok_l_law_parted (M : Mg K mg) (T : At K mg "_law_parted" s_law_parted) (g_l_law_done : D_l_law_done P w K mg base) (g_l_law_pairs : D_l_law_pairs P w K mg base) : D_l_law_parted P w K mg base := by
  refine dfn_of T sc_l_law_parted (fun _ _ _ _ _ _ us hl => match us, hl with | [_, _], _ => rfl) (fun ds d h => by obtain ⟨_, _, _, rfl, _⟩ := h; rfl) ?_
  intro f cdv A outer s H E hr C ds d σ h hE Q k
  obtain ⟨n, c, ss, rfl, ⟨h23, hs⟩, h0, hn, h12, rfl⟩ := h
  have hl := pairs_len (n := ss.length) (by omega) (by omega)
  refine s_set 2 (ed_lc1 (xs := ss) (enc := encS) (own := [("_law_script_here", 3)]) (fun s => [.dat (encC c), .dat (.tuple (ss.map encS)), .any, .dat (encS s), .any]) (fun s => encC (runM c s)) rfl sc_l_law_parted.nd
      (bk_l_law_parted (by decide +kernel)) (id_tup (ed_var 1)) (fun C1 s H C' cl fp y _ => gd_name 3 sc_l_law_parted.nd)
      (fun C1 s H C' cl fp y hy => ed_call g_l_law_done hr ⟨c, y, n, rfl, (hs y hy).1, h0, hn, h12, rfl⟩ (ad_cons (ed_var 0) (ad_cons (ed_var 3) ad_nil))) (by show _ < 2 ^ 24; omega)) ⟨Same.refl H, hE⟩ sc_l_law_parted.nd fun σ1 H1 S1 => ?_
  refine s_ret (ED.is (ed_lc (xs := pairs ss.length) (enc := encP) (own := [("_law_pair", 4)]) (fun p => [.dat (encC c), .dat (.tuple (ss.map encS)), .dat (.list (ss.map fun s => encC (runM c s))), .any, .dat (encP p)]) (fun p => !decide (endAt c ss p.1 = endAt c ss p.2)) encP rfl sc_l_law_parted.nd
      (bk_l_law_parted (by decide +kernel)) (id_list (ED.is (ed_call g_l_law_pairs (hr.mono (by decide)) ⟨(ss.map encS).length, rfl, by omega, by rw [List.length_map]; omega, rfl⟩ (ad_cons (ed_lenT M.len (ed_var 1)) ad_nil)) (by rw [List.length_map]; rfl))) (fun C1 s H C' cl fp y _ => gd_name 4 sc_l_law_parted.nd)
      (fun C1 s H C' cl fp y hy => by
        have hp := mem_pairs.mp hy
        exact tsd_one (td_cmp (op_neD hr.units) rd_neC (ed_ixL (ed_var 2) (ed_ixT (ed_var 4) ed_int) (endAt_at (by omega) (by omega))) (ed_ixL (ed_var 2) (ed_ixT (ed_var 4) ed_int) (endAt_at (by omega) (by omega)))))
      (fun C1 s H C' cl fp y hy _ => ed_var 4) (by show _ < 2 ^ 24; omega)) rfl) S1 k
end
end T2

set_option Elab.async false
set_option linter.all false
set_option maxRecDepth 100000
set_option maxHeartbeats 4000000
/-! TbL3: the law's starts, its parted_at. -/
namespace T2
open PySem PySem.Spec PySem.W PyProof.Rows L2
section
variable {P : Program} {w : World} {K : PySem.W.Frag} {mg : Str → Option Value} {base : Heap}
def rLawK (ds : List PyData) (d : PyData) : Prop := ds = [] ∧ d = encS kM
abbrev N_l_law_k : List Str := []
abbrev P_l_law_k : List Str := []
theorem sc_l_law_k : FnScope N_l_law_k P_l_law_k (defScope s_law_k) := ⟨rfl, rfl, rfl, by decide +kernel, rfl, by decide +kernel, by decide +kernel⟩
theorem bk_l_law_k {scope : Scope} {own : List (Str × Nat)} (h : blkB N_l_law_k (defScope s_law_k) scope own = true) : BlkOk N_l_law_k (defScope s_law_k) scope own := blk_of h
abbrev D_l_law_k (P : Program) (w : World) (K : PySem.W.Frag) (mg : Str → Option Value) (base : Heap) : Prop := Dfn P w K mg base "_law_k" P_l_law_k 1 (spF rLawK)
theorem ok_l_law_k (M : Mg K mg) (T : At K mg "_law_k" s_law_k)  : D_l_law_k P w K mg base := by
  refine dfn_of T sc_l_law_k (fun _ _ _ _ _ _ us hl => match us, hl with | [], _ => rfl) (fun ds d h => by obtain ⟨rfl, _⟩ := h; rfl) ?_
  intro f cdv A outer s H E hr C ds d σ h hE Q k
  obtain ⟨rfl, rfl⟩ := h
  exact s_ret (ed_tup (ad_cons (ed_tup (ad_cons ed_str (ad_cons ed_int (ad_cons (ed_tup (ad_cons ed_int (ad_cons ed_int (ad_cons ed_int (ad_cons ed_int (ad_cons ed_int (ad_cons ed_int ad_nil))))))) ad_nil)))) ad_nil)) ⟨Same.refl H, hE⟩ k
def startTs (n : Int) : List (List IP) := (lotsM (pairs n)).mergeSort (dataLe false encT)
def rLawStarts (ds : List PyData) (d : PyData) : Prop := ∃ n : Int, ds = [.int n] ∧ 0 ≤ n ∧ n ≤ 3 ∧ d = .list ((startTs n).map fun t => encC (n, t))
theorem pairs3_len {n : Int} (h0 : 0 ≤ n) (h : n ≤ 3) : (pairs n).length ≤ 3 := by
  have h1 : n = 0 ∨ n = 1 ∨ n = 2 ∨ n = 3 := by omega
  rcases h1 with rfl | rfl | rfl | rfl <;> decide +kernel
abbrev N_l_law_starts : List Str := ["_law_named", "_law_found", "_law_pair", "_law_ties"]
abbrev P_l_law_starts : List Str := ["_law_named"]
theorem sc_l_law_starts : FnScope N_l_law_starts P_l_law_starts (defScope s_law_starts) := ⟨rfl, rfl, rfl, by decide +kernel, rfl, by decide +kernel, by decide +kernel⟩
theorem bk_l_law_starts {scope : Scope} {own : List (Str × Nat)} (h : blkB N_l_law_starts (defScope s_law_starts) scope own = true) : BlkOk N_l_law_starts (defScope s_law_starts) scope own := blk_of h
abbrev D_l_law_starts (P : Program) (w : World) (K : PySem.W.Frag) (mg : Str → Option Value) (base : Heap) : Prop := Dfn P w K mg base "_law_starts" P_l_law_starts 2 (spF rLawStarts)
theorem ok_l_law_starts (M : Mg K mg) (T : At K mg "_law_starts" s_law_starts) (g_l_law_pairs : D_l_law_pairs P w K mg base) : D_l_law_starts P w K mg base := by
  refine dfn_of T sc_l_law_starts (fun _ _ _ _ _ _ us hl => match us, hl with | [_], _ => rfl) (fun ds d h => by obtain ⟨_, rfl, _⟩ := h; rfl) ?_
  intro f cdv A outer s H E hr C ds d σ h hE Q k
  obtain ⟨n, rfl, h0, h3, rfl⟩ := h
  have hp3 := pairs3_len h0 h3
  refine s_set 1 (d := .list ((lotsM []).map encT)) (ed_lst (ad_cons (ed_tup ad_nil) ad_nil)) ⟨Same.refl H, hE⟩ sc_l_law_starts.nd fun σ1 H1 S1 => ?_
  refine s_for (ws := [2]) (fun j => [.dat (.int n), .dat (.list ((lotsM ((pairs n).take j)).map encT)), .any, .any]) (fun j d => [.dat (.int n), .dat (.list ((lotsM ((pairs n).take j)).map encT)), .dat d, .any]) PassesOwn.never rfl (id_list (ed_call g_l_law_pairs hr ⟨n, rfl, h0, by omega, rfl⟩ (ad_cons (ed_var 0) ad_nil))) S1 (fun σ' H' h => h) (fun j d hj => gd_name 2 sc_l_law_starts.nd)
    (fun j d hj Hb2 sb2 σ6 H6 D2 S6 hrt2 hnx2 => ?_) fun σ6 H6 S6 => ?_
  · rw [List.getElem?_map] at hj
    cases hlj : (pairs n)[j]? with
    | none => rw [hlj] at hj; cases hj
    | some p =>
      rw [hlj] at hj
      cases hj
      have htk := lotsM_take hlj
      have hlen : (lotsM ((pairs n).take j)).length ≤ 8 := by
        rw [lotsM_len]
        exact Nat.pow_le_pow_right (by decide) (show ((pairs n).take j).length ≤ 3 by rw [List.length_take]; omega)
      refine s_set 1 (d := .list ((lotsM ((pairs n).take (j + 1))).map encT)) (ED.is (ed_catL (ed_var 1) (ed_lc1 (xs := lotsM ((pairs n).take j)) (enc := encT) (own := [("_law_ties", 3)]) (fun l => [.dat (.int n), .dat (.list ((lotsM ((pairs n).take j)).map encT)), .dat (encP p), .dat (encT l)]) (fun l => encT (l ++ [p])) rfl sc_l_law_starts.nd
          (bk_l_law_starts (by decide +kernel)) (id_list (ed_var 1)) (fun C1 s H C' cl fp y _ => gd_name 3 sc_l_law_starts.nd) (fun C1 s H C' cl fp y hy => ED.is (ed_catT (ed_var 3) (ed_tup (ad_cons (ed_var 2) ad_nil)) (by
            have := lotsM_le hy
            rw [List.length_take] at this
            rw [List.length_map]
            show _ + 1 ≤ 2 ^ 24
            omega)) (by unfold encT; rw [List.map_append]; rfl)) (by show _ < 2 ^ 24; omega)) (by
              rw [List.length_map, List.length_map]
              show _ ≤ 2 ^ 24
              omega)) ?_) S6 sc_l_law_starts.nd fun σ7 H7 S7 => s_nil (hnx2 _ _ (S7.forget 2))
      rw [htk, List.map_append, List.map_map]
      rfl
  · rw [List.length_map, List.take_length] at S6
    have hll : (lotsM (pairs n)).length ≤ 8 := by
      rw [lotsM_len]
      exact Nat.pow_le_pow_right (by decide) hp3
    have hst : (startTs n).length ≤ 8 := by
      unfold startTs
      rw [List.length_mergeSort]
      exact hll
    exact s_ret (ed_lc1 (xs := startTs n) (enc := encT) (own := [("_law_ties", 3)]) (fun l => [.dat (.int n), .dat (.list ((lotsM (pairs n)).map encT)), .any, .dat (encT l)]) (fun t => encC (n, t)) rfl sc_l_law_starts.nd
      (bk_l_law_starts (by decide +kernel)) (id_list (ed_sortL (enc := encT) (bs := lotsM (pairs n)) rfl hr.units M.sorted (ed_var 1) (srtOk_T _ (.inl (lotsM_head _))) (fun b _ => layT b) (by show _ ≤ 2 ^ 24; omega))) (fun C1 s H C' cl fp y _ => gd_name 3 sc_l_law_starts.nd)
      (fun C1 s H C' cl fp y hy => ed_tup (ad_cons (ed_var 0) (ad_cons (ed_var 3) ad_nil))) (by show _ < 2 ^ 24; omega)) S6 k
/-! ### _law_parted_at -/
def rLawPartedAt (ds : List PyData) (d : PyData) : Prop := ∃ (n : Int) (c : Cmp) (ss : List (List Item)), ds = [.int n, encC c, .tuple (ss.map encS)] ∧ okSs n ss ∧ 1 ≤ n ∧ n ≤ 3 ∧ c.1 = n ∧ canon c ∧ d = encL (atL n c.2 ss)
abbrev N_l_law_parted_at : List Str := ["_law_named", "_law_start", "_law_scripts_here", "_law_found", "_law_lots", "_law_pair", "_law_lot", "_law_two_here"]
abbrev P_l_law_parted_at : List Str := ["_law_named", "_law_start", "_law_scripts_here"]
theorem sc_l_law_parted_at : FnScope N_l_law_parted_at P_l_law_parted_at (defScope s_law_parted_at) := ⟨rfl, rfl, rfl, by decide +kernel, rfl, by decide +kernel, by decide +kernel⟩
theorem bk_l_law_parted_at {scope : Scope} {own : List (Str × Nat)} (h : blkB N_l_law_parted_at (defScope s_law_parted_at) scope own = true) : BlkOk N_l_law_parted_at (defScope s_law_parted_at) scope own := blk_of h
abbrev D_l_law_parted_at (P : Program) (w : World) (K : PySem.W.Frag) (mg : Str → Option Value) (base : Heap) : Prop := Dfn P w K mg base "_law_parted_at" P_l_law_parted_at 7 (spF rLawPartedAt)
theorem ok_l_law_parted_at (M : Mg K mg) (T : At K mg "_law_parted_at" s_law_parted_at) (g_l_law_pairs : D_l_law_pairs P w K mg base) (g_l_law_parted : D_l_law_parted P w K mg base) : D_l_law_parted_at P w K mg base := by
  refine dfn_of T sc_l_law_parted_at (fun _ _ _ _ _ _ us hl => match us, hl with | [_, _, _], _ => rfl) (fun ds d h => by obtain ⟨_, _, _, rfl, _⟩ := h; rfl) ?_
  intro f cdv A outer s H E hr C ds d σ h hE Q k
  obtain ⟨n, c, ss, rfl, hss, h1, h3, hn, hc, rfl⟩ := h
  have hl3 : ss.length ≤ 3 := hss.1.2
  have hl := pairs_len (n := n + 2) (by omega) (by omega)
  have hfl := fresh_len (n := n) (by omega) h3
  have hcl : c.2.length ≤ 66 := Nat.le_trans hc.length_le (pairs_len (by omega) (by omega))
  refine s_asg (d := .tuple [encL [], .list ((lotsM []).map encT)]) (ed_tup (ad_cons (ed_lst ad_nil) (ad_cons (ed_lst (ad_cons (ed_tup ad_nil) ad_nil)) ad_nil))) (gd_tup rfl (gsd_cons (gd_name 3 sc_l_law_parted_at.nd) (gsd_cons (gd_name 4 sc_l_law_parted_at.nd) gsd_nil))) ⟨Same.refl H, hE⟩ (fun σ1 H1 S1 => ?_)
  refine s_for (ws := [5]) (fun j => [.dat (.int n), .dat (encC c), .dat (.tuple (ss.map encS)), .dat (encL []), .dat (.list ((lotsM ((freshM n).take j)).map encT)), .any, .any, .any]) (fun j d => [.dat (.int n), .dat (encC c), .dat (.tuple (ss.map encS)), .dat (encL []), .dat (.list ((lotsM ((freshM n).take j)).map encT)), .dat d, .any, .any]) PassesOwn.never rfl
    (id_list (ED.is (ed_lc (xs := pairs (n + 2)) (enc := encP) (own := [("_law_two_here", 7)]) (fun p => [.dat (.int n), .dat (encC c), .dat (.tuple (ss.map encS)), .dat (encL []), .dat (.list ((lotsM []).map encT)), .any, .any, .dat (encP p)]) (fun p => decide (n ≤ p.2)) encP rfl sc_l_law_parted_at.nd
      (bk_l_law_parted_at (by decide +kernel)) (id_list (ed_call g_l_law_pairs (hr.mono (by decide)) ⟨n + 2, rfl, by omega, by omega, rfl⟩ (ad_cons (ed_add (ed_var 0) ed_int) ad_nil))) (fun C1 s H C' cl fp y _ => gd_name 7 sc_l_law_parted_at.nd)
      (fun C1 s H C' cl fp y hy => tsd_one (td_cmp op_ge rd_ge (ed_ixT (ed_var 7) ed_int) (ed_var 0))) (fun C1 s H C' cl fp y hy _ => ed_var 7) (by show _ < 2 ^ 24; omega)) rfl)) S1 (fun σ' H' h => h) (fun j d hj => gd_name 5 sc_l_law_parted_at.nd)
    (fun j d hj Hb2 sb2 σ6 H6 D2 S6 hrt2 hnx2 => ?_) fun σ2 H2 S2 => ?_
  · have hj : ((freshM n).map encP)[j]? = some d := hj
    rw [List.getElem?_map] at hj
    cases hlj : (freshM n)[j]? with
    | none => rw [hlj] at hj; cases hj
    | some p =>
      rw [hlj] at hj
      cases hj
      have htk := lotsM_take hlj
      have hlen : (lotsM ((freshM n).take j)).length ≤ 1024 := by
        rw [lotsM_len]
        exact Nat.pow_le_pow_right (by decide) (show ((freshM n).take j).length ≤ 10 by rw [List.length_take]; omega)
      refine s_set 4 (d := .list ((lotsM ((freshM n).take (j + 1))).map encT)) (ED.is (ed_catL (ed_var 4) (ed_lc1 (xs := lotsM ((freshM n).take j)) (enc := encT) (own := [("_law_lot", 6)]) (fun l => [.dat (.int n), .dat (encC c), .dat (.tuple (ss.map encS)), .dat (encL []), .dat (.list ((lotsM ((freshM n).take j)).map encT)), .dat (encP p), .dat (encT l), .any]) (fun l => encT (l ++ [p])) rfl sc_l_law_parted_at.nd
          (bk_l_law_parted_at (by decide +kernel)) (id_list (ed_var 4)) (fun C1 s H C' cl fp y _ => gd_name 6 sc_l_law_parted_at.nd) (fun C1 s H C' cl fp y hy => ED.is (ed_catT (ed_var 6) (ed_tup (ad_cons (ed_var 5) ad_nil)) (by
            have := lotsM_le hy
            rw [List.length_take] at this
            rw [List.length_map]
            show _ + 1 ≤ 2 ^ 24
            omega)) (by unfold encT; rw [List.map_append]; rfl)) (by show _ < 2 ^ 24; omega)) (by
              rw [List.length_map, List.length_map]
              show _ ≤ 2 ^ 24
              omega)) ?_) S6 sc_l_law_parted_at.nd fun σ7 H7 S7 => s_nil (hnx2 _ _ (S7.forget 5))
      rw [htk, List.map_append, List.map_map]
      rfl
  · have S2 : Sn C H H2 σ2 [.dat (.int n), .dat (encC c), .dat (.tuple (ss.map encS)), .dat (encL []), .dat (.list ((lotsM (freshM n)).map encT)), .any, .any, .any] := by
      have e : (freshM n).take ((freshM n).map encP).length = freshM n := by rw [List.length_map, List.take_length]
      have S2 : Sn C H H2 σ2 [.dat (.int n), .dat (encC c), .dat (.tuple (ss.map encS)), .dat (encL []), .dat (.list ((lotsM ((freshM n).take ((freshM n).map encP).length)).map encT)), .any, .any, .any] := S2
      rw [e] at S2
      exact S2
    refine s_for (ws := [6]) (fun j => [.dat (.int n), .dat (encC c), .dat (.tuple (ss.map encS)), .dat (encL (plM ((lotsM (freshM n)).take j) ss n c.2)), .dat (.list ((lotsM (freshM n)).map encT)), .any, .any, .any]) (fun j d => [.dat (.int n), .dat (encC c), .dat (.tuple (ss.map encS)), .dat (encL (plM ((lotsM (freshM n)).take j) ss n c.2)), .dat (.list ((lotsM (freshM n)).map encT)), .any, .dat d, .any]) PassesOwn.never rfl
      (id_list (ed_var 4)) S2 (fun σ' H' h => h) (fun j d hj => gd_name 6 sc_l_law_parted_at.nd) (fun j d hj Hb2 sb2 σ6 H6 D2 S6 hrt2 hnx2 => ?_) fun σ6 H6 S6 => ?_
    · rw [List.getElem?_map] at hj
      cases hlj : (lotsM (freshM n))[j]? with
      | none => rw [hlj] at hj; cases hj
      | some lot =>
        rw [hlj] at hj
        cases hj
        have hlot := lotsM_le (List.mem_of_getElem? hlj)
        have htk : plM ((lotsM (freshM n)).take (j + 1)) ss n c.2 = addL ss n c.2 (plM ((lotsM (freshM n)).take j) ss n c.2) lot := foldl_take _ _ hlj
        have hok := plM_ok ((lotsM (freshM n)).take j) ss n c.2
        have hok2 := addL_ok (n := n) (st := c.2) (lot := lot) hok
        generalize plM ((lotsM (freshM n)).take j) ss n c.2 = fo at htk hok hok2 S6
        have hk2 := keys_le hl3 hok2.1 hok2.2
        have hpl : (partedM (n + 2, srtP (c.2 ++ lot)) ss).length ≤ 66 := Nat.le_trans (partedM_sub _ ss).length_le (pairs_len (by omega) (by omega))
        refine s_set 3 (d := encL (plM ((lotsM (freshM n)).take (j + 1)) ss n c.2)) (ED.is (ed_catL (ed_var 3) (ed_lc (xs := partedM (n + 2, srtP (c.2 ++ lot)) ss) (enc := encP) (own := [("_law_pair", 5)]) (fun p => [.dat (.int n), .dat (encC c), .dat (.tuple (ss.map encS)), .dat (encL fo), .dat (.list ((lotsM (freshM n)).map encT)), .dat (encP p), .dat (encT lot), .any]) (fun p => !decide (p ∈ fo)) encP rfl sc_l_law_parted_at.nd
            (bk_l_law_parted_at (by decide +kernel)) (id_list (ed_call g_l_law_parted hr ⟨n, (n + 2, srtP (c.2 ++ lot)), ss, rfl, hss, by omega, by show n ≤ n + 2; omega, by show n + 2 ≤ 12; omega, rfl⟩ (ad_cons (ed_tup (ad_cons (ed_add (ed_var 0) ed_int) (ad_cons
                (ed_tupL M.tuple (ed_sortT (enc := encP) (bs := c.2 ++ lot) rfl hr.units M.sorted (ED.is (ed_catT (ds := c.2.map encP) (es := lot.map encP) (ed_ixT (ed_var 1) ed_int) (ed_var 6) (by
                  rw [List.length_map, List.length_map]
                  show _ ≤ 2 ^ 24
                  omega)) (by rw [List.map_append])) (srtOk_P _) (fun b _ => layP b) (by
                  rw [List.length_append]
                  show _ ≤ 2 ^ 24
                  omega))) ad_nil))) (ad_cons (ed_var 2) ad_nil))))
            (fun C1 s H C' cl fp y _ => gd_name 5 sc_l_law_parted_at.nd) (fun C1 s H C' cl fp y hy => tsd_one (td_cmp (op_notInD (u65 hr)) rd_niL (ed_var 5) (ed_var 3))) (fun C1 s H C' cl fp y hy _ => ed_var 5) (by show _ < 2 ^ 24; omega)) (by
              unfold addL at hk2
              rw [List.length_append] at hk2
              rw [List.length_map, List.length_map]
              show _ ≤ 2 ^ 24
              omega)) ?_) S6 sc_l_law_parted_at.nd fun σ7 H7 S7 => s_nil (hnx2 _ _ (S7.forget 6))
        rw [htk, addL]
        unfold encL
        rw [List.map_append]
    · rw [List.length_map, List.take_length] at S6
      have hok := plM_ok (lotsM (freshM n)) ss n c.2
      have hk2 := keys_le hl3 hok.1 hok.2
      exact s_ret (ed_sortL (enc := encP) (bs := plM (lotsM (freshM n)) ss n c.2) rfl hr.units M.sorted (ed_var 3) (srtOk_P _) (fun b _ => layP b) (by show _ ≤ 2 ^ 24; omega)) S6 k
end
end T2

set_option Elab.async false
set_option linter.all false
set_option maxRecDepth 100000
set_option maxHeartbeats 4000000
/-! TbP: the plain law: both readings of parted_at agree; a greater company parts no more; the examples. -/
namespace T2
open PySem PySem.Spec PySem.W PyProof.Rows L2
/-! ### sorted lists of pairs -/
theorem sorted_ext : ∀ {l m : List IP}, l.Pairwise ltP → m.Pairwise ltP → (∀ p, p ∈ l ↔ p ∈ m) → l = m
  | [], [], _, _, _ => rfl
  | [], q :: m, _, _, h => absurd ((h q).mpr List.mem_cons_self) (by simp)
  | p :: l, [], _, _, h => absurd ((h p).mp List.mem_cons_self) (by simp)
  | p :: l, q :: m, hl, hm, h => by
    rw [List.pairwise_cons] at hl hm
    have e : p = q := by
      rcases List.mem_cons.mp ((h p).mp List.mem_cons_self) with e | hp
      · exact e
      · rcases List.mem_cons.mp ((h q).mpr List.mem_cons_self) with e | hq
        · exact e.symm
        · exact absurd (ltP_trans (hl.1 q hq) (hm.1 p hp)) (ltP_irr p)
    subst e
    congr 1
    refine sorted_ext hl.2 hm.2 fun r => ?_
    constructor
    · intro hr
      rcases List.mem_cons.mp ((h r).mp (List.mem_cons_of_mem _ hr)) with e | hr'
      · subst e; exact absurd (hl.1 r hr) (ltP_irr r)
      · exact hr'
    · intro hr
      rcases List.mem_cons.mp ((h r).mpr (List.mem_cons_of_mem _ hr)) with e | hr'
      · subst e; exact absurd (hm.1 r hr) (ltP_irr r)
      · exact hr'
theorem dataLe_P : dataLe false encP = fun p q : IP => decide (p.1 < q.1 ∨ (p.1 = q.1 ∧ p.2 ≤ q.2)) := dataLe_ii (β := IP) (fun p => p.1) (fun p => p.2)
theorem srtP_sorted {l : List IP} (hn : l.Nodup) : (srtP l).Pairwise ltP := by
  have hs : (srtP l).Pairwise fun p q => dataLe false encP p q = true := by
    refine List.pairwise_mergeSort (fun a b c h1 h2 => ?_) (fun a b => ?_) l
    · rw [dataLe_P] at h1 h2 ⊢
      simp only [decide_eq_true_eq] at h1 h2 ⊢
      omega
    · rw [dataLe_P]
      simp only [Bool.or_eq_true, decide_eq_true_eq]
      omega
  have hn2 : (srtP l).Nodup := (srtP_perm l).nodup_iff.mpr hn
  refine List.Pairwise.imp (R := fun p q => dataLe false encP p q = true ∧ p ≠ q) (fun {p q} h => ?_) (List.Pairwise.and hs hn2)
  obtain ⟨h1, h2⟩ := h
  rw [dataLe_P] at h1
  simp only [decide_eq_true_eq] at h1
  have : ¬ (p.1 = q.1 ∧ p.2 = q.2) := fun e => h2 (Prod.ext e.1 e.2)
  unfold ltP
  omega
theorem srtP_mem {l : List IP} {p : IP} : p ∈ srtP l ↔ p ∈ l := (srtP_perm l).mem_iff
/-- a nodup list sorted is the list with the same members that is sorted -/
theorem srtP_eq {l m : List IP} (hn : l.Nodup) (hm : m.Pairwise ltP) (h : ∀ p, p ∈ l ↔ p ∈ m) : srtP l = m := sorted_ext (srtP_sorted hn) hm fun p => srtP_mem.trans (h p)
theorem canon_sorted {c : Cmp} (h : canon c) : c.2.Pairwise ltP := List.Pairwise.sublist h (pairs_sorted c.1)
theorem filter_canon {n : Int} {g : IP → Bool} : canon (n, (pairs n).filter g) := List.filter_sublist
/-! ### the two readings of parted_at -/
theorem atM_mem {n : Int} {st : List IP} {ss : List (List Item)} {p : IP} : p ∈ atM n st ss ↔ ∃ lot, lot.Sublist (freshM n) ∧ p ∈ partedM (n + 2, srtP (st ++ lot)) ss := by
  unfold atM
  rw [srtP_mem, pvM_mem]
  constructor
  · rintro ⟨v, hv, hp⟩
    obtain ⟨t, ht, rfl⟩ := List.mem_map.mp hv
    obtain ⟨lot, hl, rfl⟩ := viewTs_mem.mp ht
    exact ⟨lot, hl, hp⟩
  · rintro ⟨lot, hl, hp⟩
    exact ⟨_, List.mem_map.mpr ⟨_, viewTs_mem.mpr ⟨lot, hl, rfl⟩, rfl⟩, hp⟩
theorem atL_mem {n : Int} {st : List IP} {ss : List (List Item)} {p : IP} : p ∈ atL n st ss ↔ ∃ lot, lot.Sublist (freshM n) ∧ p ∈ partedM (n + 2, srtP (st ++ lot)) ss := by
  unfold atL
  rw [srtP_mem, plM_mem]
  exact ⟨fun ⟨l, h1, h2⟩ => ⟨l, (lotsM_mem _ _).mp h1, h2⟩, fun ⟨l, h1, h2⟩ => ⟨l, (lotsM_mem _ _).mpr h1, h2⟩⟩
theorem at_eq (n : Int) (st : List IP) (ss : List (List Item)) : atM n st ss = atL n st ss :=
  sorted_ext (srtP_sorted (pvM_ok _ _).1) (srtP_sorted (plM_ok _ _ _ _).1) fun p => atM_mem.trans atL_mem.symm
/-! ### a company pulled back -/
structure Emb (n : Int) (φ : Int → Int) : Prop where
  n0 : 0 ≤ n
  low : ∀ x, 0 ≤ x → x < n → φ x = x
  mono : ∀ x y, 0 ≤ x → x < y → y < n + 2 → φ x < φ y
  rng : ∀ x, 0 ≤ x → x < n + 2 → 0 ≤ φ x ∧ φ x < n + 4
theorem Emb.inj {n : Int} {φ : Int → Int} (E : Emb n φ) {x y : Int} (hx : 0 ≤ x) (hx' : x < n + 2) (hy : 0 ≤ y) (hy' : y < n + 2) (e : φ x = φ y) : x = y := by
  rcases Int.lt_trichotomy x y with h | h | h
  · have := E.mono x y hx h hy'; omega
  · exact h
  · have := E.mono y x hy h hx'; omega
structure Rel (n : Int) (φ : Int → Int) (c e : Cmp) : Prop where
  c1 : c.1 = n + 2
  e1 : e.1 = n + 4
  iff : ∀ a b, 0 ≤ a → a < b → b < n + 2 → ((a, b) ∈ c.2 ↔ (φ a, φ b) ∈ e.2)
theorem Rel.kn {n : Int} {φ : Int → Int} {c e : Cmp} (E : Emb n φ) (R : Rel n φ c e) {x y : Int} (hx : 0 ≤ x) (hx' : x < n + 2) (hy : 0 ≤ y) (hy' : y < n + 2) (hne : x ≠ y) : knM c x y = knM e (φ x) (φ y) := by
  unfold knM
  rw [decide_eq_decide]
  rcases Int.lt_or_gt_of_ne hne with h | h
  · rw [pairOf_lt h, pairOf_lt (E.mono x y hx h hy')]
    exact R.iff x y hx h hy'
  · rw [pairOf_gt h, pairOf_gt (E.mono y x hy h hx')]
    exact R.iff y x hy h hx'
theorem Rel.ans {n : Int} {φ : Int → Int} {c e : Cmp} (E : Emb n φ) (R : Rel n φ c e) {d : Deed} (hd : d.ok n) {a b : Int} (ha : 0 ≤ a) (hab : a < b) (hb : b < n + 2) : ansM c d (a, b) = ansM e d (φ a, φ b) := by
  have hK : decide ((a, b) ∈ c.2) = decide ((φ a, φ b) ∈ e.2) := decide_eq_decide.mpr (R.iff a b ha hab hb)
  have eqv : ∀ x y, 0 ≤ x → x < n → 0 ≤ y → y < n + 2 → (x = y ↔ x = φ y) := fun x y h1 h2 h3 h4 => by
    constructor
    · rintro rfl; exact (E.low x h1 h2).symm
    · intro e
      refine E.inj h1 (by omega) h3 h4 ?_
      rw [E.low x h1 h2]
      exact e
  cases d with
  | pairs x as =>
    obtain ⟨h1, h2, h3⟩ := hd
    have ea := eqv x a h1 h2 ha (by omega)
    have eb := eqv x b h1 h2 (by omega) hb
    unfold ansM
    simp only
    by_cases q : x = a ∨ x = b
    · have q' : x = φ a ∨ x = φ b := q.elim (fun h => .inl (ea.mp h)) fun h => .inr (eb.mp h)
      rw [if_pos q, if_pos q', hK]
    · have q' : ¬ (x = φ a ∨ x = φ b) := fun h => q (h.elim (fun h => .inl (ea.mpr h)) fun h => .inr (eb.mpr h))
      have k1 := R.kn E (x := x) (y := a) h1 (by omega) ha (by omega) (fun h => q (.inl h))
      have k2 := R.kn E (x := x) (y := b) h1 (by omega) (by omega) hb (fun h => q (.inr h))
      rw [E.low x h1 h2] at k1 k2
      rw [if_neg q, if_neg q', hK, k1, k2]
  | takes x y as =>
    obtain ⟨⟨h1, h2, h3, h4, h5⟩, _⟩ := hd
    have ea := eqv x a h1 h2 ha (by omega)
    have eb := eqv x b h1 h2 (by omega) hb
    have fa := eqv y a h3 h4 ha (by omega)
    have fb := eqv y b h3 h4 (by omega) hb
    unfold ansM
    simp only
    by_cases q : (x = a ∨ x = b) ∧ ¬ (y = a ∨ y = b)
    · have q' : (x = φ a ∨ x = φ b) ∧ ¬ (y = φ a ∨ y = φ b) := ⟨q.1.elim (fun h => .inl (ea.mp h)) fun h => .inr (eb.mp h), fun h => q.2 (h.elim (fun h => .inl (fa.mpr h)) fun h => .inr (fb.mpr h))⟩
      have k1 := R.kn E (x := y) (y := a + b - x) h3 (by omega) (by omega) (by omega) (by omega)
      rw [E.low y h3 h4] at k1
      have e2 : φ (a + b - x) = φ a + φ b - x := by
        have ex := E.low x h1 h2
        rcases q.1 with rfl | rfl
        · rw [show x + b - x = b by omega]; omega
        · rw [show a + x - x = a by omega]; omega
      rw [e2] at k1
      rw [if_pos q, if_pos q', hK, k1]
    · have q' : ¬ ((x = φ a ∨ x = φ b) ∧ ¬ (y = φ a ∨ y = φ b)) := fun h => q ⟨h.1.elim (fun h => .inl (ea.mpr h)) fun h => .inr (eb.mpr h), fun h' => h.2 (h'.elim (fun h => .inl (fa.mp h)) fun h => .inr (fb.mp h))⟩
      rw [if_neg q, if_neg q', hK]
  | tie x y w =>
    obtain ⟨⟨h1, h2, h3, h4, h5⟩, _⟩ := hd
    have ea := eqv x a h1 h2 ha (by omega)
    have eb := eqv x b h1 h2 (by omega) hb
    have fa := eqv y a h3 h4 ha (by omega)
    have fb := eqv y b h3 h4 (by omega) hb
    have q : pairOf x y = (a, b) ↔ pairOf x y = (φ a, φ b) := by
      rcases Int.lt_or_gt_of_ne h5 with h | h
      · rw [pairOf_lt h, Prod.mk.injEq, Prod.mk.injEq, ea, fb]
      · rw [pairOf_gt h, Prod.mk.injEq, Prod.mk.injEq, fa, eb]
    unfold ansM
    simp only
    by_cases z : pairOf x y = (a, b)
    · rw [if_pos z, if_pos (q.mp z), hK]
    · rw [if_neg z, if_neg (fun h => z (q.mpr h)), hK]
theorem Rel.behind {n : Int} {φ : Int → Int} {c e : Cmp} (E : Emb n φ) (R : Rel n φ c e) {d : Deed} (hd : d.ok n) : Rel n φ (behindM c d) (behindM e d) := by
  refine ⟨R.c1, R.e1, fun a b ha hab hb => ?_⟩
  unfold behindM
  simp only
  rw [List.mem_filter, List.mem_filter, R.ans E hd ha hab hb, mem_pairs, mem_pairs, R.c1, R.e1]
  have h1 := E.mono a b ha hab hb
  have h2 := E.rng a ha (by omega)
  have h3 := E.rng b (by omega) hb
  simp only
  constructor
  · rintro ⟨_, h⟩; exact ⟨⟨h2.1, h1, h3.2⟩, h⟩
  · rintro ⟨_, h⟩; exact ⟨⟨ha, hab, hb⟩, h⟩
theorem Rel.deeds {n : Int} {φ : Int → Int} (E : Emb n φ) : ∀ {l : List Deed} {c e : Cmp}, (∀ d ∈ l, d.ok n) → Rel n φ c e → Rel n φ (l.foldl behindM c) (l.foldl behindM e)
  | [], _, _, _, R => R
  | d :: l, _, _, h, R => Rel.deeds E (l := l) (fun d hd => h d (List.mem_cons_of_mem _ hd)) (R.behind E (h d List.mem_cons_self))
theorem Rel.step {n : Int} {φ : Int → Int} {c e : Cmp} (E : Emb n φ) (R : Rel n φ c e) {i : Item} (hi : i.ok n) : Rel n φ (stepM c i) (stepM e i) := by
  cases i with
  | deed d => exact R.behind E hi
  | ask x y yes no =>
    obtain ⟨⟨h1, h2, h3, h4, h5⟩, hy, hn⟩ := hi
    have k := R.kn E h1 (by omega) h3 (by omega) h5
    rw [E.low x h1 h2, E.low y h3 h4] at k
    show Rel n φ ((if knM c x y then yes else no).foldl behindM c) ((if knM e x y then yes else no).foldl behindM e)
    rw [k]
    refine Rel.deeds E (fun d hd => ?_) R
    split at hd
    · exact hy d hd
    · exact hn d hd
theorem Rel.run {n : Int} {φ : Int → Int} (E : Emb n φ) : ∀ {s : List Item} {c e : Cmp}, (∀ i ∈ s, i.ok n) → Rel n φ c e → Rel n φ (runM c s) (runM e s)
  | [], _, _, _, R => R
  | i :: s, _, _, h, R => Rel.run E (s := s) (fun j hj => h j (List.mem_cons_of_mem _ hj)) (R.step E (h i List.mem_cons_self))
theorem behind_canon (c : Cmp) (d : Deed) : canon (behindM c d) := filter_canon
theorem deeds_canon : ∀ {l : List Deed} {c : Cmp}, canon c → canon (l.foldl behindM c)
  | [], _, h => h
  | d :: l, c, _ => deeds_canon (l := l) (behind_canon c d)
theorem step_canon {c : Cmp} {i : Item} (h : canon c) : canon (stepM c i) := by
  cases i with
  | deed d => exact behind_canon c d
  | ask x y yes no => exact deeds_canon h
theorem run_canon : ∀ {s : List Item} {c : Cmp}, canon c → canon (runM c s)
  | [], _, h => h
  | i :: s, _, h => run_canon (s := s) (step_canon h)
/-! ### a greater company parts no more -/
theorem greater {n : Int} (hn : 0 ≤ n) {st ties : List IP} (hst : st.Sublist (pairs n)) (hti : ∀ p ∈ ties, p ∈ pairs (n + 4) ∧ n ≤ p.2) (htn : ties.Nodup) {ss : List (List Item)} (hs : ∀ s ∈ ss, ∀ i ∈ s, i.ok n) {p : IP} (hp : p ∈ partedM (n + 4, srtP (st ++ ties)) ss) :
    p ∈ atL n st ss := by
  have hstn : st.Nodup := List.Sublist.nodup hst (pairs_nodup n)
  have hdis : ∀ q ∈ st, ∀ r ∈ ties, q ≠ r := fun q hq r hr e => by
    have h1 := mem_pairs.mp (hst.subset hq)
    have h2 := (hti r hr).2
    rw [e] at h1
    omega
  have hnd : (st ++ ties).Nodup := List.nodup_append.mpr ⟨hstn, htn, hdis⟩
  have hVc : canon (n + 4, srtP (st ++ ties)) := by
    have e : srtP (st ++ ties) = (pairs (n + 4)).filter fun q => decide (q ∈ st ++ ties) := by
      refine srtP_eq hnd (List.Pairwise.sublist List.filter_sublist (pairs_sorted _)) fun q => ?_
      rw [List.mem_filter, decide_eq_true_eq]
      refine ⟨fun h => ⟨?_, h⟩, fun h => h.2⟩
      rcases List.mem_append.mp h with h | h
      · exact pairs_mono (by omega) (hst.subset h)
      · exact (hti q h).1
    rw [e]
    exact filter_canon
  obtain ⟨hpp, hne⟩ := List.mem_filter.mp hp
  have hpm := mem_pairs.mp hpp
  have hgo : ∀ i : Int, 0 ≤ i → i < ss.length → ∀ it ∈ ss.getD i.toNat [], it.ok n := fun i h0 h1 => by
    have hl : i.toNat < ss.length := by omega
    rw [List.getD_eq_getElem?_getD, List.getElem?_eq_getElem hl]
    exact hs _ (List.getElem_mem hl)
  have hi := hgo p.1 hpm.1 (by omega)
  have hj := hgo p.2 (by omega) hpm.2.2
  unfold endAt at hne
  generalize hsi : ss.getD p.1.toNat [] = si at hi hne
  generalize hsj : ss.getD p.2.toNat [] = sj at hj hne
  have hne : runM (n + 4, srtP (st ++ ties)) si ≠ runM (n + 4, srtP (st ++ ties)) sj := by simpa using hne
  have hA := run_canon (s := si) hVc
  have hB := run_canon (s := sj) hVc
  have hA1 := runM_fst si (n + 4, srtP (st ++ ties))
  have hB1 := runM_fst sj (n + 4, srtP (st ++ ties))
  have hd : ∃ q : IP, q ∈ pairs (n + 4) ∧ ¬ (q ∈ (runM (n + 4, srtP (st ++ ties)) si).2 ↔ q ∈ (runM (n + 4, srtP (st ++ ties)) sj).2) := by
    refine Classical.byContradiction fun hno => hne (Prod.ext (hA1.trans hB1.symm) (sorted_ext (canon_sorted hA) (canon_sorted hB) fun q => ?_))
    by_cases hq : q ∈ pairs (n + 4)
    · exact Classical.byContradiction fun h => hno ⟨q, hq, h⟩
    · have h1 : q ∉ (runM (n + 4, srtP (st ++ ties)) si).2 := fun h => hq (by have := hA.subset h; rwa [hA1] at this)
      have h2 : q ∉ (runM (n + 4, srtP (st ++ ties)) sj).2 := fun h => hq (by have := hB.subset h; rwa [hB1] at this)
      exact ⟨fun h => absurd h h1, fun h => absurd h h2⟩
  obtain ⟨⟨x, y⟩, hxy, hdiff⟩ := hd
  have hxy := mem_pairs.mp hxy
  simp only at hxy
  -- two besides that hold x and y
  obtain ⟨u, v, a, b, hu, huv, hv, ha, hab, hb, hfa, hfb⟩ : ∃ u v a b : Int, n ≤ u ∧ u < v ∧ v < n + 4 ∧ 0 ≤ a ∧ a < b ∧ b < n + 2 ∧ (if a < n then a else if a = n then u else v) = x ∧ (if b < n then b else if b = n then u else v) = y := by
    by_cases h1 : y < n
    · exact ⟨n, n + 1, x, y, by omega, by omega, by omega, by omega, by omega, by omega, by rw [if_pos (by omega)], by rw [if_pos (by omega)]⟩
    · by_cases h2 : x < n
      · by_cases h3 : y = n
        · exact ⟨n, n + 1, x, n, by omega, by omega, by omega, by omega, by omega, by omega, by rw [if_pos h2], by rw [if_neg (by omega), if_pos rfl]; omega⟩
        · exact ⟨n, y, x, n + 1, by omega, by omega, by omega, by omega, by omega, by omega, by rw [if_pos h2], by rw [if_neg (by omega), if_neg (by omega)]⟩
      · exact ⟨x, y, n, n + 1, by omega, by omega, by omega, by omega, by omega, by omega, by rw [if_neg (by omega), if_pos rfl], by rw [if_neg (by omega), if_neg (by omega)]⟩
  let φ : Int → Int := fun t => if t < n then t else if t = n then u else v
  have hφ1 : ∀ t, t < n → φ t = t := fun t h => if_pos h
  have hφ2 : φ n = u := by show (if n < n then n else if n = n then u else v) = u; rw [if_neg (by omega), if_pos rfl]
  have hφ3 : ∀ t, n < t → φ t = v := fun t h => by show (if t < n then t else if t = n then u else v) = v; rw [if_neg (by omega), if_neg (by omega)]
  have hcase : ∀ t, φ t = t ∧ t < n ∨ (t = n ∧ φ t = u) ∨ (n < t ∧ φ t = v) := fun t => by
    rcases Int.lt_trichotomy t n with h | h | h
    · exact .inl ⟨hφ1 t h, h⟩
    · exact .inr (.inl ⟨h, by rw [h]; exact hφ2⟩)
    · exact .inr (.inr ⟨h, hφ3 t h⟩)
  have hE : Emb n φ := by
    refine ⟨hn, fun t _ h => hφ1 t h, fun s t h0 h h2 => ?_, fun t h0 h => ?_⟩
    · have := hcase s
      have := hcase t
      omega
    · have := hcase t
      omega
  have hmem : ∀ q, q ∈ srtP (st ++ ties) ↔ q ∈ st ∨ q ∈ ties := fun q => srtP_mem.trans List.mem_append
  let lot : List IP := (freshM n).filter fun q => decide ((φ q.1, φ q.2) ∈ srtP (st ++ ties))
  have hlot : lot.Sublist (freshM n) := List.filter_sublist
  have hfr : ∀ q, q ∈ freshM n ↔ q ∈ pairs (n + 2) ∧ n ≤ q.2 := fun q => by unfold freshM; rw [List.mem_filter, decide_eq_true_eq]
  have hW : srtP (st ++ lot) = (pairs (n + 2)).filter fun q => decide ((φ q.1, φ q.2) ∈ srtP (st ++ ties)) := by
    refine srtP_eq (List.nodup_append.mpr ⟨hstn, List.Sublist.nodup (hlot.trans List.filter_sublist) (pairs_nodup _), fun q hq r hr e => ?_⟩) (List.Pairwise.sublist List.filter_sublist (pairs_sorted _)) fun q => ?_
    · have h1 := mem_pairs.mp (hst.subset hq)
      have h2 := ((hfr r).mp (hlot.subset hr)).2
      rw [e] at h1
      omega
    · rw [List.mem_append]
      constructor
      · rintro (h | h)
        · have h1 := mem_pairs.mp (hst.subset h)
          refine List.mem_filter.mpr ⟨pairs_mono (by omega) (hst.subset h), decide_eq_true ?_⟩
          rw [hφ1 q.1 (by omega), hφ1 q.2 (by omega)]
          exact (hmem q).mpr (.inl h)
        · obtain ⟨h1, h2⟩ := List.mem_filter.mp h
          exact List.mem_filter.mpr ⟨((hfr q).mp h1).1, h2⟩
      · intro h
        obtain ⟨h1, h2⟩ := List.mem_filter.mp h
        have h2 := of_decide_eq_true h2
        by_cases hq : n ≤ q.2
        · exact .inr (List.mem_filter.mpr ⟨(hfr q).mpr ⟨h1, hq⟩, decide_eq_true h2⟩)
        · have h3 := mem_pairs.mp h1
          rw [hφ1 q.1 (by omega), hφ1 q.2 (by omega)] at h2
          rcases (hmem q).mp h2 with h | h
          · exact .inl h
          · exact absurd (hti q h).2 hq
  have hR : Rel n φ (n + 2, srtP (st ++ lot)) (n + 4, srtP (st ++ ties)) := by
    refine ⟨rfl, rfl, fun a b ha hab hb => ?_⟩
    show (a, b) ∈ srtP (st ++ lot) ↔ _
    rw [hW, List.mem_filter, decide_eq_true_eq]
    exact ⟨fun h => h.2, fun h => ⟨mem_pairs.mpr ⟨ha, hab, hb⟩, h⟩⟩
  have r1 := (Rel.run hE hi hR).iff a b ha hab hb
  have r2 := (Rel.run hE hj hR).iff a b ha hab hb
  have ea : φ a = x := hfa
  have eb : φ b = y := hfb
  rw [ea, eb] at r1 r2
  refine atL_mem.mpr ⟨lot, hlot, List.mem_filter.mpr ⟨hpp, ?_⟩⟩
  unfold endAt
  rw [hsi, hsj]
  have : runM (n + 2, srtP (st ++ lot)) si ≠ runM (n + 2, srtP (st ++ lot)) sj := fun e => by
    rw [e] at r1
    exact hdiff (r1.symm.trans r2)
  rw [decide_eq_false this]
  rfl
/-! ### the examples -/
def atF (n : Int) (st : List IP) (ss : List (List Item)) : List IP := (pairs ss.length).filter fun p => (lotsM (freshM n)).any fun lot => decide (p ∈ partedM (n + 2, (pairs (n + 2)).filter fun q => decide (q ∈ st ++ lot)) ss)
theorem at_F {n : Int} {st : List IP} (hst : st.Sublist (pairs n)) (ss : List (List Item)) : atM n st ss = atF n st ss := by
  refine sorted_ext (srtP_sorted (pvM_ok _ _).1) (List.Pairwise.sublist List.filter_sublist (pairs_sorted _)) fun p => ?_
  have key : ∀ lot : List IP, lot.Sublist (freshM n) → srtP (st ++ lot) = (pairs (n + 2)).filter fun q => decide (q ∈ st ++ lot) := fun lot hl => by
    have hfr : ∀ q ∈ lot, q ∈ pairs (n + 2) ∧ n ≤ q.2 := fun q hq => by
      have := hl.subset hq
      unfold freshM at this
      rw [List.mem_filter, decide_eq_true_eq] at this
      exact this
    refine srtP_eq (List.nodup_append.mpr ⟨List.Sublist.nodup hst (pairs_nodup _), List.Sublist.nodup (hl.trans List.filter_sublist) (pairs_nodup _), fun q hq r hr e => ?_⟩) (List.Pairwise.sublist List.filter_sublist (pairs_sorted _)) fun q => ?_
    · have h1 := mem_pairs.mp (hst.subset hq)
      have h2 := (hfr r hr).2
      rw [e] at h1
      omega
    · rw [List.mem_filter, decide_eq_true_eq]
      refine ⟨fun h => ⟨?_, h⟩, fun h => h.2⟩
      rcases List.mem_append.mp h with h | h
      · exact pairs_mono (by omega) (hst.subset h)
      · exact (hfr q h).1
  show p ∈ atM n st ss ↔ _
  rw [atM_mem]
  unfold atF
  rw [List.mem_filter, List.any_eq_true]
  constructor
  · rintro ⟨lot, hl, hp⟩
    refine ⟨(partedM_sub _ ss).subset hp, lot, (lotsM_mem _ _).mpr hl, ?_⟩
    rw [key lot hl] at hp
    exact decide_eq_true hp
  · rintro ⟨_, lot, hl, hp⟩
    have hl := (lotsM_mem _ _).mp hl
    refine ⟨lot, hl, ?_⟩
    rw [key lot hl]
    exact of_decide_eq_true hp
def partM : List Item := [.deed (.tie 0 1 "part")]
def knowM : List Item := [.deed (.tie 0 1 "know")]
def turnM : List Item := [.deed (.tie 0 1 "turn")]
def askM : List Item := [.ask 0 1 [.pairs 0 [0, 0, 1, 1, 1, 0]] []]
def thirdM : List Item := [.deed (.takes 0 1 [0, 1, 0, 1])]
theorem ex1 : partedM (3, [(0, 1), (0, 2)]) [[], kM] = [(0, 1)] := by decide +kernel
theorem ex2 : partedM (3, []) [[], kM] = [] := by decide +kernel
theorem ex3 : partedM (1, []) [[], kM, kM ++ kM] = [] := by decide +kernel
theorem ex4 : atM 2 [] [[], partM] = [] := (at_F (by decide +kernel) _).trans (by decide +kernel)
theorem ex5 : atM 2 [(0, 1)] [[], partM] = [(0, 1)] := (at_F (by decide +kernel) _).trans (by decide +kernel)
theorem ex6 : atM 1 [] [kM, [], kM] = [(0, 1), (1, 2)] := (at_F (by decide +kernel) _).trans (by decide +kernel)
theorem ex7 : atM 2 [] [partM, knowM, turnM] = [(0, 1), (0, 2)] := (at_F (by decide +kernel) _).trans (by decide +kernel)
theorem ex8 : atM 2 [(0, 1)] [partM, knowM, turnM] = [(0, 1), (1, 2)] := (at_F (by decide +kernel) _).trans (by decide +kernel)
theorem ex9 : atM 2 [] [[], askM] = [] := (at_F (by decide +kernel) _).trans (by decide +kernel)
theorem ex10 : atM 2 [(0, 1)] [[], askM] = [(0, 1)] := (at_F (by decide +kernel) _).trans (by decide +kernel)
theorem ex11 : atM 3 [(1, 2)] [[], thirdM] = [(0, 1)] := (at_F (by decide +kernel) _).trans (by decide +kernel)
theorem ex12 : partedM (3, [(1, 2)]) [[], thirdM] = [(0, 1)] := by decide +kernel
theorem ex13 : partedM (3, []) [[], thirdM] = [] := by decide +kernel
end T2

set_option Elab.async false
set_option linter.all false
set_option maxRecDepth 100000
set_option maxHeartbeats 4000000
/-! TbC: the cup: a list of two ints that changes; what is drawn from it. -/
namespace T2
open PySem PySem.Spec PySem.W PyProof.Rows L2
def Cc (c : Addr) : Addr → Prop := fun a => a = c
def CupOk (c : Addr) (H : Hp) : Prop := ∃ x y : Int, 0 ≤ x ∧ 0 ≤ y ∧ y < 4294967296 ∧ H c = some (.lst [.int x, .int y])
theorem CupOk.th {c : Addr} {H : Hp} (h : CupOk c H) : Th (Cc c) H := fun a e => by
  obtain ⟨x, y, _, _, _, q⟩ := h
  have e : a = c := e
  rw [e]
  exact ⟨_, q⟩
theorem CupOk.same {c : Addr} {H H' : Hp} (h : CupOk c H) (s : Same H H') : CupOk c H' := by
  obtain ⟨x, y, h1, h2, h3, q⟩ := h
  exact ⟨x, y, h1, h2, h3, s _ _ q⟩
theorem En.cup {c : Addr} {H H' : Hp} {σ : L2.St} {Γ : List Sd} (h : En (Cc c) H σ Γ) (s : SameB (Cc c) H H') (k : CupOk c H') : En (Cc c) H' σ Γ := h.mono s k.th
section
variable (X : Cx) (c : Addr)
def EN (e : Expr) (Γ : List Sd) (P : PyData → Prop) : Prop := ∀ σ H, En (Cc c) H σ Γ → CupOk c H → ∀ Q : VK, (∀ v H' d, SameB (Cc c) H H' → CupOk c H' → P d → Rep (Cc c) H' v d → Q v H') → WE X e σ H Q
def TN (e : Expr) (Γ : List Sd) (P : Bool → Prop) : Prop := ∀ σ H, En (Cc c) H σ Γ → CupOk c H → ∀ Q : Bool → Hp → Prop, (∀ b H', SameB (Cc c) H H' → CupOk c H' → P b → Q b H') → WT X e σ H Q
def WN (e : Expr) (Γ : List Sd) (P : Bool → Prop) : Prop := ∀ σ H, En (Cc c) H σ Γ → CupOk c H → ∀ Q : Bool → Hp → Prop, (∀ b H', SameB (Cc c) H H' → CupOk c H' → P b → Q b H') → WW X e σ H Q
def AN (es : List Expr) (Γ : List Sd) (P : List PyData → Prop) : Prop := ∀ σ H, En (Cc c) H σ Γ → CupOk c H → ∀ Q : List V → Hp → Prop, (∀ vs H' ds, SameB (Cc c) H H' → CupOk c H' → P ds → RepAll (Cc c) H' vs ds → Q vs H') → WA X es σ H Q
structure SnC (H0 H : Hp) (σ : L2.St) (Γ : List Sd) : Prop where
  sm : SameB (Cc c) H0 H
  cup : CupOk c H
  en : En (Cc c) H σ Γ
end
theorem SnC.next {c : Addr} {H0 H H' : Hp} {σ σ' : L2.St} {Γ Γ' : List Sd} (h : SnC c H0 H σ Γ) (s : SameB (Cc c) H H') (k : CupOk c H') (e : En (Cc c) H' σ' Γ') : SnC c H0 H' σ' Γ' := ⟨h.sm.trans s, k, e⟩
theorem SnC.weak {c : Addr} {H0 H : Hp} {σ : L2.St} {Γ Γ' : List Sd} (h : SnC c H0 H σ Γ) (hl : Γ'.length = Γ.length) (w : ∀ (i : Nat) (s : Sd), Γ'[i]? = some s → s = .any ∨ Γ[i]? = some s) : SnC c H0 H σ Γ' := ⟨h.sm, h.cup, h.en.weak hl w⟩
theorem SnC.forget {c : Addr} {H0 H : Hp} {σ : L2.St} {Γ : List Sd} (h : SnC c H0 H σ Γ) (i : Nat) : SnC c H0 H σ (Γ.set i .any) := h.weak (List.length_set ..) fun j s e => by
  rw [List.getElem?_set] at e
  by_cases q : i = j
  · subst q
    simp only [if_true] at e
    split at e
    · cases e; exact .inl rfl
    · cases e
  · rw [if_neg q] at e
    exact .inr e
section
variable {X : Cx} {c : Addr} {Γ Γ' : List Sd} {e a b t : Expr} {es : List Expr} {d d1 d2 d3 : PyData} {ds : List PyData} {pos : Pos} {P P1 P2 : PyData → Prop}
theorem EN.mono (h : EN X c e Γ P1) (w : ∀ d, P1 d → P d) : EN X c e Γ P := fun σ H hE hk Q k => h σ H hE hk Q fun v H' d s k' p r => k v H' d s k' (w d p) r
theorem en_ed (h : ED X (Cc c) e Γ d) : EN X c e Γ (fun x => x = d) := fun σ H hE hk Q k => h σ H hE Q fun v H' s r => k v H' d (toB s) (hk.same s) rfl r
theorem en_is (h : ED X (Cc c) e Γ d) (p : P d) : EN X c e Γ P := (en_ed h).mono fun _ e => e ▸ p
theorem tn_td {k0 : Bool} (h : TD X (Cc c) e Γ k0) : TN X c e Γ (fun b => b = k0) := fun σ H hE hk Q k => h σ H hE Q fun H' s => k k0 H' (toB s) (hk.same s) rfl
theorem an_nil : AN X c [] Γ (fun ds => ds = []) := fun σ H hE hk Q k => ⟨_, pa_nil, k _ H [] (SameB.refl _) hk rfl .nil⟩
theorem an_cons {PA : List PyData → Prop} (h : EN X c e Γ P) (ht : AN X c es Γ PA) (hs : starEach (e :: es) X.env = (false, eval e X.env) :: starEach es X.env := by rfl) : AN X c (e :: es) Γ (fun ds => ∃ d r, ds = d :: r ∧ P d ∧ PA r) := fun σ H hE hk Q k =>
  ⟨_, pa_cons WE.p WA.p hs, h σ H hE hk _ fun v H1 d s1 k1 p1 r1 => ht σ H1 (hE.cup s1 k1) k1 _ fun vs H2 r s2 k2 p2 r2 => k _ H2 _ (s1.trans s2) k2 ⟨d, r, rfl, p1, p2⟩ (.cons (r1.mono s2) r2)⟩
theorem an_ad (h : AD X (Cc c) es Γ ds) : AN X c es Γ (fun x => x = ds) := fun σ H hE hk Q k => h σ H hE Q fun v H' s r => k v H' ds (toB s) (hk.same s) rfl r
theorem en_tup {x1} {PA : List PyData → Prop} (h : AN X c es Γ PA) (hl : ∀ ds, PA ds → ds.length ≤ sizeLine) : EN X c (.Tuple es x1 pos) Γ (fun d => ∃ ds, d = .tuple ds ∧ PA ds) := fun σ H hE hk Q k =>
  ⟨_, pe_tup WA.p, h σ H hE hk _ fun vs H1 ds s1 k1 p1 r1 => ⟨by rw [r1.length]; exact hl ds p1, fun p hp => k _ _ _ (s1.trans (toB (same_new hp))) (k1.same (same_new hp)) ⟨ds, rfl, p1⟩ (.tup (k1.th.fresh hp) upd_same (r1.same (same_new hp)))⟩⟩
theorem en_lst {PA : List PyData → Prop} (h : AN X c es Γ PA) (hl : ∀ ds, PA ds → ds.length ≤ sizeLine) : EN X c (.List es pos) Γ (fun d => ∃ ds, d = .list ds ∧ PA ds) := fun σ H hE hk Q k =>
  ⟨_, pe_lst WA.p, h σ H hE hk _ fun vs H1 ds s1 k1 p1 r1 => ⟨by rw [r1.length]; exact hl ds p1, fun p hp => k _ _ _ (s1.trans (toB (same_new hp))) (k1.same (same_new hp)) ⟨ds, rfl, p1⟩ (.lst (k1.th.fresh hp) upd_same (r1.same (same_new hp)))⟩⟩
theorem en_bin {op : Operator} {r : R2} (ho : OpR X (binaryOp op) r) (ha : EN X c a Γ P1) (hb : EN X c b Γ P2) (hr : ∀ d1 d2, P1 d1 → P2 d2 → ∃ d, RD2 (Cc c) r d1 d2 d ∧ P d) : EN X c (.BinOp a op b pos) Γ P := fun σ H hE hk Q k =>
  ⟨_, pe_op ho WE.p WE.p, ha σ H hE hk _ fun v H1 d1 s1 k1 p1 r1 => hb σ H1 (hE.cup s1 k1) k1 _ fun u H2 d2 s2 k2 p2 r2 => by
    obtain ⟨d, hd, p⟩ := hr d1 d2 p1 p2
    exact hd H2 v u k2.th (r1.mono s2) r2 Q fun z H3 s3 r3 => k z H3 d ((s1.trans s2).trans (toB s3)) (k2.same s3) p r3⟩
theorem en_cmp {op : CmpOp} {r : R2} (ho : OpR X (compareOp op) r) (ha : EN X c a Γ P1) (hb : EN X c b Γ P2) (hr : ∀ d1 d2, P1 d1 → P2 d2 → ∃ d, RD2 (Cc c) r d1 d2 d ∧ P d) (hm : behindInMarks op b = false := by first | exact nomark _ | rfl | with_unfolding_all rfl) : EN X c (.Compare a [op] [b] pos) Γ P := fun σ H hE hk Q k =>
  ⟨_, pe_cmpR ho WE.p WE.p hm, ha σ H hE hk _ fun v H1 d1 s1 k1 p1 r1 => hb σ H1 (hE.cup s1 k1) k1 _ fun u H2 d2 s2 k2 p2 r2 => by
    obtain ⟨d, hd, p⟩ := hr d1 d2 p1 p2
    exact hd H2 v u k2.th (r1.mono s2) r2 Q fun z H3 s3 r3 => k z H3 d ((s1.trans s2).trans (toB s3)) (k2.same s3) p r3⟩
theorem tn_cmp {op : CmpOp} {r : R2} {PB : Bool → Prop} (ho : OpR X (compareOp op) r) (ha : EN X c a Γ P1) (hb : EN X c b Γ P2) (hr : ∀ d1 d2, P1 d1 → P2 d2 → ∃ k0, RD2 (Cc c) r d1 d2 (.bool k0) ∧ PB k0) (hm : behindInMarks op b = false := by first | exact nomark _ | rfl | with_unfolding_all rfl) : TN X c (.Compare a [op] [b] pos) Γ PB := fun σ H hE hk Q k =>
  ⟨_, pt_cmpR ho WE.p WE.p hm, ha σ H hE hk _ fun v H1 d1 s1 k1 p1 r1 => hb σ H1 (hE.cup s1 k1) k1 _ fun u H2 d2 s2 k2 p2 r2 => by
    obtain ⟨k0, hd, p⟩ := hr d1 d2 p1 p2
    exact hd H2 v u k2.th (r1.mono s2) r2 _ fun z H3 s3 r3 => by
      cases r3
      exact ⟨_, rfl, k k0 H3 ((s1.trans s2).trans (toB s3)) (k2.same s3) p⟩⟩
theorem en_sub {r : R2} (hx : IxR X r) (ha : EN X c a Γ P1) (hb : EN X c b Γ P2) (hr : ∀ d1 d2, P1 d1 → P2 d2 → ∃ d, RD2 (Cc c) r d1 d2 d ∧ P d) (hs : PlainIx b := by exact fun _ _ => rfl) : EN X c (.Subscript a b pos) Γ P := fun σ H hE hk Q k =>
  ⟨_, pe_ix hx WE.p WE.p hs, ha σ H hE hk _ fun v H1 d1 s1 k1 p1 r1 => hb σ H1 (hE.cup s1 k1) k1 _ fun u H2 d2 s2 k2 p2 r2 => by
    obtain ⟨d, hd, p⟩ := hr d1 d2 p1 p2
    exact hd H2 v u k2.th (r1.mono s2) r2 Q fun z H3 s3 r3 => k z H3 d ((s1.trans s2).trans (toB s3)) (k2.same s3) p r3⟩
theorem en_if {PB : Bool → Prop} (hc : TN X c t Γ PB) (ha : PB true → EN X c a Γ P) (hb : PB false → EN X c b Γ P) : EN X c (.IfExp t a b pos) Γ P := fun σ H hE hk Q k =>
  ⟨_, pe_ifExp WT.p WE.p WE.p, hc σ H hE hk _ fun k0 H1 s1 k1 p1 => by
    cases k0 with
    | true => exact iteT (ha p1 σ H1 (hE.cup s1 k1) k1 Q fun u H2 d s2 k2 p r2 => k u H2 d (s1.trans s2) k2 p r2)
    | false => exact iteF (hb p1 σ H1 (hE.cup s1 k1) k1 Q fun u H2 d s2 k2 p r2 => k u H2 d (s1.trans s2) k2 p r2)⟩
theorem tn_w {PB : Bool → Prop} (h : WN X c e Γ PB) : TN X c e Γ PB := fun σ H hE hk Q k => ⟨_, PW.pt WW.p, h σ H hE hk Q k⟩
theorem wn_and1 {PB : Bool → Prop} (h : TN X c a Γ PB) : WN X c (.BoolOp .And [a] pos) Γ PB := fun σ H hE hk Q k => ⟨_, pw_and1 WT.p, h σ H hE hk Q k⟩
theorem wn_or1 {PB : Bool → Prop} (h : TN X c a Γ PB) : WN X c (.BoolOp .Or [a] pos) Γ PB := fun σ H hE hk Q k => ⟨_, pw_or1 WT.p, h σ H hE hk Q k⟩
theorem wn_and {rest : List Expr} {Pa Pb PB : Bool → Prop} (ha : TN X c a Γ Pa) (hb : Pa true → WN X c (.BoolOp .And (b :: rest) pos) Γ Pb) (h1 : Pa false → PB false) (h2 : ∀ k, Pa true → Pb k → PB k) : WN X c (.BoolOp .And (a :: b :: rest) pos) Γ PB := fun σ H hE hk Q k =>
  ⟨_, pw_and WT.p WW.p, ha σ H hE hk _ fun k0 H1 s1 k1 p1 => by
    cases k0 with
    | false => exact iteF (k _ H1 s1 k1 (h1 p1))
    | true => exact iteT (hb p1 σ H1 (hE.cup s1 k1) k1 Q fun k0 H2 s2 k2 p2 => k k0 H2 (s1.trans s2) k2 (h2 k0 p1 p2))⟩
theorem wn_or {rest : List Expr} {Pa Pb PB : Bool → Prop} (ha : TN X c a Γ Pa) (hb : Pa false → WN X c (.BoolOp .Or (b :: rest) pos) Γ Pb) (h1 : Pa true → PB true) (h2 : ∀ k, Pa false → Pb k → PB k) : WN X c (.BoolOp .Or (a :: b :: rest) pos) Γ PB := fun σ H hE hk Q k =>
  ⟨_, pw_or WT.p WW.p, ha σ H hE hk _ fun k0 H1 s1 k1 p1 => by
    cases k0 with
    | true => exact iteT (k _ H1 s1 k1 (h1 p1))
    | false => exact iteF (hb p1 σ H1 (hE.cup s1 k1) k1 Q fun k0 H2 s2 k2 p2 => k k0 H2 (s1.trans s2) k2 (h2 k0 p1 p2))⟩
theorem tn_not {Pa PB : Bool → Prop} (ha : TN X c a Γ Pa) (h : ∀ k, Pa k → PB (!k)) : TN X c (.UnaryOp .Not a pos) Γ PB := fun σ H hE hk Q k => ⟨_, pt_not WT.p, ha σ H hE hk _ fun k0 H1 s1 k1 p1 => k (!k0) H1 s1 k1 (h k0 p1)⟩
theorem tn_val {PB : Bool → Prop} (h : EN X c e Γ (fun d => ∃ k0, d = .bool k0 ∧ PB k0)) (he : ∀ whole, isTrue e X.env whole = (do let v ← whole; standAt e.pos; holding [v] (truthy v)) := by intro _; rfl) : TN X c e Γ PB := fun σ H hE hk Q k =>
  ⟨_, pt_val WE.p he, h σ H hE hk _ fun v H1 d s1 k1 p1 r1 => by
    obtain ⟨k0, rfl, p⟩ := p1
    cases r1
    exact ⟨_, rfl, k k0 H1 s1 k1 p⟩⟩
/-! ### calls -/
theorem en_callTy {T : String} {x : Str} {p : Pos} {r : List V → Hp → VK → Prop} {PA : List PyData → Prop} (hc : CallR X (.type T) r) (hr : ∀ ds, PA ds → ∃ d, RDc (Cc c) r ds d ∧ P d) (hm : X.mg x = none) (hv : bootBuiltins x = some (.type T)) (ha : AN X c (e :: es) Γ PA) (hg : Gl X x := by rfl) (hn : x ≠ "__name__" := by decide) (hdb : (x == ("__debug__" : Str)) = false := by decide)
    (he : starEach (e :: es) X.env = (false, eval e X.env) :: starEach es X.env := by rfl) (hpl : (backTo pos (starEach es X.env)).any (·.1) = false := by rfl) : EN X c (.Call (.Name x p) (e :: es) [] pos) Γ P := fun σ H hE hk Q k =>
  ⟨_, pe_callTy hc hg hm hv WA.p hn hdb he hpl, ha σ H hE hk _ fun vs H1 ds s1 k1 p1 r1 => by
    obtain ⟨d, hd, p⟩ := hr ds p1
    exact hd H1 vs k1.th r1 Q fun z H2 s2 r2 => k z H2 d (s1.trans (toB s2)) (k1.same s2) p r2⟩
theorem en_callB {id : String} {x : Str} {p : Pos} {r : List V → Hp → VK → Prop} {PA : List PyData → Prop} (hc : CallR X (.builtin id) r) (hr : ∀ ds, PA ds → ∃ d, RDc (Cc c) r ds d ∧ P d) (hm : X.mg x = none) (hv : bootBuiltins x = some (.builtin id)) (ha : AN X c (e :: es) Γ PA) (hg : Gl X x := by rfl) (hn : x ≠ "__name__" := by decide) (hdb : (x == ("__debug__" : Str)) = false := by decide)
    (he : starEach (e :: es) X.env = (false, eval e X.env) :: starEach es X.env := by rfl) (hpl : (backTo pos (starEach es X.env)).any (·.1) = false := by rfl) : EN X c (.Call (.Name x p) (e :: es) [] pos) Γ P := fun σ H hE hk Q k =>
  ⟨_, pe_callB hc hg hm hv WA.p hn hdb he hpl, ha σ H hE hk _ fun vs H1 ds s1 k1 p1 r1 => by
    obtain ⟨d, hd, p⟩ := hr ds p1
    exact hd H1 vs k1.th r1 Q fun z H2 s2 r2 => k z H2 d (s1.trans (toB s2)) (k1.same s2) p r2⟩
/-- a def that draws nothing, its arguments drawn -/
theorem en_callF {x : Str} {p : Pos} {ps : List Str} {k0 : Nat} {R : List PyData → PyData → Prop} {PA : List PyData → Prop} (G : Dfn X.prog X.w X.K X.mg X.base x ps k0 (spF R)) (hr : Room k0 X.A) (hR : ∀ ds, PA ds → ∃ d, R ds d ∧ P d) (ha : AN X c (e :: es) Γ PA) (hg : Gl X x := by rfl) (hdb : (x == ("__debug__" : Str)) = false := by decide)
    (he : starEach (e :: es) X.env = (false, eval e X.env) :: starEach es X.env := by rfl) (hpl : (backTo pos (starEach es X.env)).any (·.1) = false := by rfl) : EN X c (.Call (.Name x p) (e :: es) [] pos) Γ P := fun σ H hE hk Q k => by
  obtain ⟨f, fd, h1, h2, h3, F⟩ := G.ex
  refine ⟨_, pe_call F hr hg h1 h2 h3 .nil pass0 WA.p hdb he hpl, ha σ H hE hk _ fun vs H1 ds s1 k1 p1 r1 => ?_⟩
  obtain ⟨d, hd, p⟩ := hR ds p1
  rw [List.append_nil]
  exact ⟨Cc c, ds, d, k1.th, r1, hd, fun v H2 s2 r2 => k v H2 d (s1.trans (toB s2)) (k1.same s2) p r2⟩
/-- a promise of what is drawn -/
def spN (R : List PyData → (PyData → Prop) → Prop) : Sp := fun vs H Q _ => ∃ (c : Addr) (us : List V) (ds : List PyData) (P : PyData → Prop), vs = .ref c :: us ∧ CupOk c H ∧ RepAll (Cc c) H us ds ∧ R ds P ∧ ∀ v H' d, SameB (Cc c) H H' → CupOk c H' → P d → Rep (Cc c) H' v d → Q v H'
theorem en_callN {x y : Str} {p py : Pos} {ps : List Str} {k0 i : Nat} {R : List PyData → (PyData → Prop) → Prop} {PA : List PyData → Prop} (G : Dfn X.prog X.w X.K X.mg X.base x ps k0 (spN R)) (hr : Room k0 X.A) (hR : ∀ ds, PA ds → R ds P) (ha : AN X c es Γ PA)
    (hN : X.N[i]? = some y) (hΓ : Γ[i]? = some (.val (.ref c))) (hv : Vis X.env.scope y := by first | exact Or.inl rfl | exact Or.inr (Or.inl rfl) | exact Or.inr (Or.inr rfl)) (hd : (y == ("__debug__" : Str)) = false := by decide) (hcd : (y == ("__classdict__" : Str)) = false := by decide)
    (hg : Gl X x := by rfl) (hdb : (x == ("__debug__" : Str)) = false := by decide)
    (he : starEach (.Name y py :: es) X.env = (false, eval (.Name y py) X.env) :: starEach es X.env := by rfl) (hpl : (backTo pos (starEach es X.env)).any (·.1) = false := by rfl) : EN X c (.Call (.Name x p) (.Name y py :: es) [] pos) Γ P := fun σ H hE hk Q k => by
  obtain ⟨f, fd, h1, h2, h3, F⟩ := G.ex
  refine ⟨_, pe_call F hr hg h1 h2 h3 .nil pass0 (pa_cons (pe_var hN hv hd hcd) WA.p he) hdb he hpl, ?_⟩
  refine ⟨_, hE.sl i _ hΓ, ha σ H hE hk _ fun vs H1 ds s1 k1 p1 r1 => ?_⟩
  show spN R ((V.ref c :: vs) ++ []) H1 Q _
  rw [List.append_nil]
  exact ⟨c, vs, ds, P, rfl, k1, r1, hR ds p1, fun v H2 d s2 k2 p r2 => k v H2 d (s1.trans s2) k2 p r2⟩
/-- the cup's own places -/
theorem en_cup0 {y : Str} {i : Nat} {py p0 : Pos} {j} (hN : X.N[i]? = some y) (hΓ : Γ[i]? = some (.val (.ref c))) (hv : Vis X.env.scope y := by first | exact Or.inl rfl | exact Or.inr (Or.inl rfl) | exact Or.inr (Or.inr rfl)) (hd : (y == ("__debug__" : Str)) = false := by decide) (hcd : (y == ("__classdict__" : Str)) = false := by decide) :
    EN X c (.Subscript (.Name y py) (.Constant (.int 0) j p0) pos) Γ (fun d => ∃ x : Int, d = .int x ∧ 0 ≤ x) := fun σ H hE hk Q k => by
  obtain ⟨x, z, h1, h2, h3, q⟩ := id hk
  exact ⟨_, pe_ix ix_list (pe_var hN hv hd hcd) pe_int (fun _ _ => rfl), _, hE.sl i _ hΓ, _, _, _, .int x, rfl, rfl, SqL.of q, rfl, k _ H _ (SameB.refl _) hk ⟨x, rfl, h1⟩ (.int x)⟩
theorem en_cup1 {y : Str} {i : Nat} {py p0 : Pos} {j} (hN : X.N[i]? = some y) (hΓ : Γ[i]? = some (.val (.ref c))) (hv : Vis X.env.scope y := by first | exact Or.inl rfl | exact Or.inr (Or.inl rfl) | exact Or.inr (Or.inr rfl)) (hd : (y == ("__debug__" : Str)) = false := by decide) (hcd : (y == ("__classdict__" : Str)) = false := by decide) :
    EN X c (.Subscript (.Name y py) (.Constant (.int 1) j p0) pos) Γ (fun d => ∃ x : Int, d = .int x ∧ 0 ≤ x ∧ x < 4294967296) := fun σ H hE hk Q k => by
  obtain ⟨x, z, h1, h2, h3, q⟩ := id hk
  exact ⟨_, pe_ix ix_list (pe_var hN hv hd hcd) pe_int (fun _ _ => rfl), _, hE.sl i _ hΓ, _, _, _, .int z, rfl, rfl, SqL.of q, rfl, k _ H _ (SameB.refl _) hk ⟨z, rfl, h2, h3⟩ (.int z)⟩
/-! ### statements -/
section
variable {H0 H : Hp} {σ : L2.St} {D : Ends} {rest : List Stmt}
theorem sn_set (i : Nat) {x : Str} {pos' : Pos} (h : EN X c e Γ P) (hS : SnC c H0 H σ Γ) (nd : X.N.Nodup) (k : ∀ d, P d → ∀ σ' H', SnC c H0 H' σ' (Γ.set i (.dat d)) → WSs X rest D σ' H') (hi : X.N[i]? = some x := by rfl) (hx : Loc X.env.scope x := by first | exact Or.inl rfl | exact Or.inr rfl)
    (hs : swapsWith e (some (.Name x pos')) pos.line X.env = pure false := by rfl) (hf : X.fn x = true ∨ X.env.scope.names.lookup x = some .local := by first | exact .inl rfl | exact .inr rfl) : WSs X (.Assign [.Name x pos'] e pos :: rest) D σ H :=
  ⟨_, pss_cons (ps_set nd hi hx WE.p hs hf) WSs.p, h σ H hS.en hS.cup _ fun v H1 d s1 k1 p1 r1 => k d p1 _ H1 (hS.next s1 k1 ((hS.en.cup s1 k1).set r1))⟩
theorem sn_par (i j : Nat) {x y : Str} {px py pt : Pos} {kt k2 pt2} {PA : List PyData → Prop} (hc : X.calm = true) (h : AN X c [a, b] Γ PA) (h2 : ∀ ds, PA ds → ds.length = 2) (hS : SnC c H0 H σ Γ) (nd : X.N.Nodup) (k : ∀ d1 d2, PA [d1, d2] → ∀ σ' H', SnC c H0 H' σ' ((Γ.set i (.dat d1)).set j (.dat d2)) → WSs X rest D σ' H')
    (hw : swappedStores [.Tuple [.Name x px, .Name y py] kt pt] (.Tuple [a, b] k2 pt2) X.env = pure (some [x, y]))
    (hi : X.N[i]? = some x := by rfl) (hj : X.N[j]? = some y := by rfl) (hij : i ≠ j := by decide) (hx : X.env.scope.names.lookup x = some .local := by rfl) (hy : X.env.scope.names.lookup y = some .local := by rfl)
    (hs : swapsWithSole [.Tuple [.Name x px, .Name y py] kt pt] (.Tuple [a, b] k2 pt2) pos.line X.env = pure false := by rfl) : WSs X (.Assign [.Tuple [.Name x px, .Name y py] kt pt] (.Tuple [a, b] k2 pt2) pos :: rest) D σ H :=
  ⟨_, pss_cons (ps_par hc nd hi hj hij hx hy WA.p hw hs) WSs.p, h σ H hS.en hS.cup _ fun vs H1 ds s1 k1 p1 r1 => by
    match ds, h2 ds p1, r1, p1 with
    | [d1, d2], _, r1, p1 =>
      obtain ⟨v, u, rfl, ra, rb⟩ := rep2 r1
      exact ⟨v, u, rfl, k d1 d2 p1 _ H1 (hS.next s1 k1 (((hS.en.cup s1 k1).set ra).set rb))⟩⟩
theorem sn_ret (h : EN X c e Γ P) (hS : SnC c H0 H σ Γ) (k : ∀ v H' d, SameB (Cc c) H0 H' → CupOk c H' → P d → Rep (Cc c) H' v d → D.rt v H') : WSs X (.Return (some e) pos :: rest) D σ H :=
  ⟨_, pss_cons (ps_ret WE.p) (WSs.p (st := rest)), h σ H hS.en hS.cup _ fun v H1 d s1 k1 p1 r1 => k v H1 d (hS.sm.trans s1) k1 p1 r1⟩
theorem sn_if {f1 f2 : List Stmt} {PB : Bool → Prop} (h : TN X c t Γ PB) (hS : SnC c H0 H σ Γ) (k1 : PB true → ∀ H', SnC c H0 H' σ Γ → WSs X f1 { D with nx := WSs X rest D } σ H') (k2 : PB false → ∀ H', SnC c H0 H' σ Γ → WSs X f2 { D with nx := WSs X rest D } σ H') : WSs X (.If t f1 f2 pos :: rest) D σ H :=
  ⟨_, pss_cons (ps_if WT.p (WSs.p (st := f1)) (WSs.p (st := f2))) WSs.p, h σ H hS.en hS.cup _ fun k0 H1 s1 kk p1 => by
    cases k0 with
    | true => exact iteT (k1 p1 H1 (hS.next s1 kk (hS.en.cup s1 kk)))
    | false => exact iteF (k2 p1 H1 (hS.next s1 kk (hS.en.cup s1 kk)))⟩
/-- cup[j] = e -/
theorem sn_put (j : Nat) {x : Str} {i : Nat} {px p0 ps : Pos} {jk} {jj : Int} (h : EN X c e Γ (fun d => ∃ z : Int, d = .int z ∧ 0 ≤ z ∧ (j = 1 → z < 4294967296))) (hS : SnC c H0 H σ Γ) (hj : (j = 0 ∧ jj = 0) ∨ (j = 1 ∧ jj = 1)) (k : ∀ H', SnC c H0 H' σ Γ → WSs X rest D σ H')
    (hN : X.N[i]? = some x) (hΓ : Γ[i]? = some (.val (.ref c))) (hv : Vis X.env.scope x := by first | exact Or.inl rfl | exact Or.inr (Or.inl rfl) | exact Or.inr (Or.inr rfl)) (hd : (x == ("__debug__" : Str)) = false := by decide) (hcd : (x == ("__classdict__" : Str)) = false := by decide)
    (hs : swapsWithSole [.Subscript (.Name x px) (.Constant (.int jj) jk p0) ps] e pos.line X.env = pure false := by rfl) (hw : swappedStores [.Subscript (.Name x px) (.Constant (.int jj) jk p0) ps] e X.env = pure none := by rfl)
    (h1 : (assignEach [.Subscript (.Name x px) (.Constant (.int jj) jk p0) ps] X.env).map (·.2) = [assign (.Subscript (.Name x px) (.Constant (.int jj) jk p0) ps) X.env] := by rfl) : WSs X (.Assign [.Subscript (.Name x px) (.Constant (.int jj) jk p0) ps] e pos :: rest) D σ H :=
  ⟨_, pss_cons (ps_asg WE.p (pg_sub (pe_var hN hv hd hcd) pe_int set_list) hs hw h1) WSs.p, h σ H hS.en hS.cup _ fun v H1 d s1 k1 p1 r1 => by
    obtain ⟨z, rfl, hz, hz1⟩ := p1
    cases r1
    obtain ⟨x0, y0, g1, h2, h3, q⟩ := id k1
    refine ⟨_, (hS.en.cup s1 k1).sl i _ hΓ, ?_⟩
    have sB : ∀ ys, SameB (Cc c) H1 (upd H1 c (.lst ys)) := fun ys a o ha e => by rw [upd_ne ha]; exact e
    rcases hj with ⟨rfl, rfl⟩ | ⟨rfl, rfl⟩
    · refine ⟨_, _, _, 0, rfl, rfl, q, rfl, k _ ?_⟩
      have kk : CupOk c (upd H1 c (.lst [.int z, .int y0])) := ⟨z, y0, hz, h2, h3, upd_same⟩
      exact hS.next (s1.trans (sB _)) kk ((hS.en.cup s1 k1).cup (sB _) kk)
    · refine ⟨_, _, _, 1, rfl, rfl, q, rfl, k _ ?_⟩
      have kk : CupOk c (upd H1 c (.lst [.int x0, .int z])) := ⟨x0, z, g1, hz, hz1 rfl, upd_same⟩
      exact hS.next (s1.trans (sB _)) kk ((hS.en.cup s1 k1).cup (sB _) kk)⟩
/-- a for whose turns draw; Iv i Γ: what the slots may hold before the turn i; the target a plain name in slot tj -/
theorem sn_for {tg iter : Expr} {body : List Stmt} {ws : List Nat} (Iv : Nat → List Sd → Prop) (Γt : List Sd → PyData → List Sd) (hp : PassesOwn (model X.prog X.w) X.A X.env X.xe) (hc : X.calm = true) (hi : ID X (Cc c) tg iter Γ ds) (hS : SnC c H0 H σ Γ) (h0 : Iv 0 Γ)
    (hg : ∀ i d G, Iv i G → ds[i]? = some d → GD X (Cc c) tg G d (Γt G d) ws)
    (hb : ∀ i d G, Iv i G → ds[i]? = some d → ∀ Hb, SameB (Cc c) H0 Hb → ∀ σ' H' (D' : Ends), SnC c Hb H' σ' (Γt G d) → D'.rt = D.rt → (∀ σ2 H2 G', Iv (i + 1) G' → SnC c Hb H2 σ2 G' → D'.nx σ2 H2) → WSs X body D' σ' H')
    (k : ∀ G σ' H', Iv ds.length G → SnC c H0 H' σ' G → WSs X rest D σ' H') (hs : ∀ x, foldedSetIterable iter X.env x = pure x := by intro _; rfl) : WSs X (.For tg iter body [] pos :: rest) D σ H := by
  refine s_forG (fun H1 i σ' H' => ∃ G, Iv i G ∧ SnC c H1 H' σ' G) hp hc hi hS.en (fun H1 s1 => ⟨Γ, h0, SameB.refl _, hS.cup.same s1, hS.en.same s1⟩) (fun H1 i σ' H' q => by
    obtain ⟨G, _, S⟩ := q
    exact ⟨S.sm, S.cup.th⟩) (fun H1 s1 i d hd σ' H' H'' x q s3 rx D' hrt hnx => ?_) (fun H1 s1 σ' H' q => ?_) hs
  · obtain ⟨G, hG, S⟩ := q
    refine hg i d G hG hd σ' H'' x (S.en.same s3) rx _ fun σ2 H2 s2 e2 _ => ?_
    have S2 : SnC c H1 H2 σ2 (Γt G d) := S.next (toB (s3.trans s2)) (S.cup.same (s3.trans s2)) e2
    exact hb i d G hG hd H1 (hS.sm.trans (toB s1)) σ2 H2 D' S2 hrt fun σ3 H3 G' hG' S3 => hnx σ3 H3 ⟨G', hG', S3⟩
  · obtain ⟨G, hG, S⟩ := q
    exact k G σ' H' hG ⟨(hS.sm.trans (toB s1)).trans S.sm, S.cup, S.en⟩
/-- a for over range(n), n drawn -/
theorem sn_forR {tg : Expr} {p0 : Pos} {body : List Stmt} {ws : List Nat} (N : Nat → Prop) (Iv : Nat → Nat → List Sd → Prop) (Γt : List Sd → PyData → List Sd) (hp : PassesOwn (model X.prog X.w) X.A X.env X.xe) (hc : X.calm = true) (hm : X.mg "range" = none) (ha : EN X c a Γ (fun d => ∃ n : Nat, d = .int n ∧ N n)) (hN : ∀ n, N n → n ≤ 1000)
    (hS : SnC c H0 H σ Γ) (h0 : ∀ n, N n → Iv n 0 Γ) (hg : ∀ n i d G, Iv n i G → i < n → GD X (Cc c) tg G d (Γt G d) ws)
    (hb : ∀ n, N n → ∀ i d G, Iv n i G → i < n → ∀ Hb, SameB (Cc c) H0 Hb → ∀ σ' H' (D' : Ends), SnC c Hb H' σ' (Γt G d) → D'.rt = D.rt → (∀ σ2 H2 G', Iv n (i + 1) G' → SnC c Hb H2 σ2 G' → D'.nx σ2 H2) → WSs X body D' σ' H')
    (k : ∀ n, N n → ∀ G σ' H', Iv n n G → SnC c H0 H' σ' G → WSs X rest D σ' H') (hgl : Gl X "range" := by rfl) (hs : starEach [a] X.env = [(false, eval a X.env)] := by rfl) (hf : ∀ x, foldedSetIterable (.Call (.Name "range" p0) [a] [] pos) X.env x = pure x := by intro _; rfl) {pf : Pos} :
    WSs X (.For tg (.Call (.Name "range" p0) [a] [] pos) body [] pf :: rest) D σ H := by
  refine ⟨_, pss_cons (ps_for hp hc (pi_range1 hgl hm WA.p hs) (WG.p (tg := tg)) WSs.p hf) WSs.p, ?_⟩
  refine an_cons ha an_nil hs σ H hS.en hS.cup _ fun vs H1 ds s1 k1 p1 r1 => ?_
  obtain ⟨d, r, rfl, ⟨n, rfl, hn⟩, rfl⟩ := p1
  obtain ⟨v, rfl, rv⟩ := rep1 r1
  cases rv
  have hn1 := hN n hn
  refine ⟨_, rfl, by omega, by omega, ?_⟩
  have e1 : ((n : Int)).toNat = n := Int.toNat_natCast n
  have W : Walk (Cc c) H1 (Itr 0 ((n : Int)).toNat) (rangeD 0 n) := by rw [e1]; exact walk_range
  have hl : (rangeD 0 n).length = n := by unfold rangeD; rw [List.length_map, List.length_range]
  have ap : ∀ a o, H1 a = some o → ¬ Cc c a → ¬ Cc c a := fun _ _ _ c => c
  refine ⟨fun i m σ2 H2 => i + m = n ∧ ∃ G, Iv n i G ∧ SnC c H1 H2 σ2 G, ⟨n, by omega, Γ, h0 n hn, SameB.refl _, k1, hS.en.cup s1 k1⟩, fun i m σ2 H2 hw => ?_⟩
  obtain ⟨em, G, hG, S⟩ := hw
  by_cases h : i < n
  · refine .inr ⟨W.go (Cc c) i H2 ap S.sm (by omega), fun σ3 H3 => ∃ G, Iv n (i + 1) G ∧ SnC c H1 H3 σ3 G, fun σ3 H3 q => ⟨m - 1, by omega, by omega, q⟩, fun x H3 hy => ?_⟩
    obtain ⟨s3, rx⟩ := W.yld (Cc c) i H2 x H3 ap S.cup.th S.sm hy
    have gi : (rangeD 0 n)[i]? = some (rangeD 0 n)[i] := List.getElem?_eq_getElem (by omega)
    refine hg n i _ G hG h σ2 H3 x (S.en.same s3) (rx _ gi) _ fun σ4 H4 s4 e4 _ => ?_
    have S4 : SnC c H1 H4 σ4 (Γt G _) := S.next (toB (s3.trans s4)) (S.cup.same (s3.trans s4)) e4
    exact hb n hn i _ G hG h H1 (hS.sm.trans s1) σ4 H4 _ S4 rfl fun σ5 H5 G' hG' S5 => ⟨G', hG', S5⟩
  · have ei : i = n := by omega
    subst ei
    exact .inl ⟨W.stop (Cc c) _ H2 ap S.sm (by omega), k i hn G σ2 H2 hG ⟨(hS.sm.trans s1).trans S.sm, S.cup, S.en⟩⟩
end
/-! ### a list comprehension whose elements and tests draw -/
section
variable {elt tg iter : Expr} {ifs : List Expr} {scope : Scope} {own : List (Str × Nat)} {α : Type} {xs : List α} {enc : α → PyData}
def TsN (X : Cx) (c : Addr) (e : List Expr) (Γ : List Sd) (P : Bool → Prop) : Prop := ∀ σ H, En (Cc c) H σ Γ → CupOk c H → ∀ Q : Bool → Hp → Prop, (∀ b H', SameB (Cc c) H H' → CupOk c H' → P b → Q b H') → WTs X e σ H Q
theorem tsn_nil : TsN X c [] Γ (fun b => b = true) := fun σ H hE hk Q k => ⟨_, pts_nil, k _ H (SameB.refl _) hk rfl⟩
theorem tsn_one {PB : Bool → Prop} (h : TN X c e Γ PB) : TsN X c [e] Γ PB := fun σ H hE hk Q k => ⟨_, pts_one WT.p, h σ H hE hk Q k⟩
/-- what a comprehension over xs may give: of some of the xs, in order, a datum each -/
inductive Picks (ok : α → Bool → Prop) (el : α → PyData → Prop) : List α → List PyData → Prop
  | nil : Picks ok el [] []
  | skip {x : α} {xs : List α} {ds : List PyData} : ok x false → Picks ok el xs ds → Picks ok el (xs ++ [x]) ds
  | take {x : α} {d : PyData} {xs : List α} {ds : List PyData} : ok x true → el x d → Picks ok el xs ds → Picks ok el (xs ++ [x]) (ds ++ [d])
theorem Picks.le {ok : α → Bool → Prop} {el : α → PyData → Prop} {xs : List α} {ds : List PyData} (h : Picks ok el xs ds) : ds.length ≤ xs.length := by
  induction h with
  | nil => exact Nat.le_refl _
  | skip _ _ ih => rw [List.length_append]; omega
  | take _ _ _ ih => rw [List.length_append, List.length_append, List.length_singleton, List.length_singleton]; omega
/-- an element drawn, other lists apart too -/
def EL (X : Cx) (C1 : Addr → Prop) (c : Addr) (e : Expr) (Γ : List Sd) (P : PyData → Prop) : Prop := ∀ σ H, (∀ a, Cc c a → C1 a) → En C1 H σ Γ → CupOk c H → ∀ Q : VK, (∀ v H' d, SameB (Cc c) H H' → CupOk c H' → P d → Rep C1 H' v d → Q v H') → WE X e σ H Q
theorem En.down {C1 : Addr → Prop} {H : Hp} {σ : L2.St} (hE : En C1 H σ Γ) (h : ∀ a, Cc c a → C1 a) (hk : CupOk c H) : En (Cc c) H σ Γ := hE.apart (fun a o _ n q => n (h a q)) (Same.refl H) hk.th
theorem el_int {C1 : Addr → Prop} (h : EN X c e Γ P) (hi : ∀ d, P d → ∃ i, d = .int i) : EL X C1 c e Γ P := fun σ H hs hE hk Q k => h σ H (hE.down hs hk) hk Q fun v H' d s1 k1 p1 r1 => by
  obtain ⟨i, rfl⟩ := hi d p1
  cases r1
  exact k _ H' _ s1 k1 p1 (.int i)
theorem el_ed {C1 : Addr → Prop} (h : ED X C1 e Γ d) (p : P d) : EL X C1 c e Γ P := fun σ H hs hE hk Q k => h σ H hE Q fun v H' s r => k v H' d (toB s) (hk.same s) p r
theorem SameB.up {C C1 : Addr → Prop} {H H' : Hp} (h : SameB C H H') (w : ∀ a, C a → C1 a) : SameB C1 H H' := fun a o n e => h a o (fun q => n (w a q)) e
theorem lcn {σ : L2.St} {H : Hp} {Q : VK} (Γt : α → List Sd) (ok : α → Bool → Prop) (el : α → PyData → Prop) (hE : En (Cc c) H σ Γ) (hk : CupOk c H) (hi : ID X (Cc c) tg iter Γ (xs.map enc))
    (hg : ∀ s H C' cl fp, ∀ y ∈ xs, ∀ C1 : Addr → Prop, GD (Bk X scope s H C' cl fp) C1 tg (wipeG Γ (own.map (·.2))) (enc y) (Γt y) (own.map (·.2)))
    (ht : ∀ s H C' cl fp, ∀ y ∈ xs, TsN (Bk X scope s H C' cl fp) c ifs (Γt y) (ok y))
    (he : ∀ s H C' cl fp, ∀ y ∈ xs, ok y true → ∀ C1 : Addr → Prop, EL (Bk X scope s H C' cl fp) C1 c elt (Γt y) (el y)) (hz : xs.length < sizeLine) (k : ∀ v H' d, SameB (Cc c) H H' → CupOk c H' → (∃ ds, d = .list ds ∧ Picks ok el xs ds) → Rep (Cc c) H' v d → Q v H') :
    tLc (WI X tg iter) (fun v σ H Q => ∀ s H0 C' cl fp, WG (Bk X scope s H0 C' cl fp) tg v σ H Q) (fun σ H Q => ∀ s H0 C' cl fp, WTs (Bk X scope s H0 C' cl fp) ifs σ H Q) (fun σ H Q => ∀ s H0 C' cl fp, WE (Bk X scope s H0 C' cl fp) elt σ H Q) (own.map (·.2)) σ H Q := by
  refine hi σ H hE _ fun J H1 s1 W D hD => ?_
  have hE1 := hE.same s1
  have hk1 := hk.same s1
  have hDc : ¬ Cc c D := hE1.fresh hD
  have ap : ∀ a o, H1 a = some o → ¬ Cc c a → ¬ (Cc c a ∨ a = D) := fun a o e n q => q.elim n (ne_of_none e hD)
  have up : ∀ a, Cc c a → (Cc c a ∨ a = D) := fun a q => .inl q
  have thr : ∀ H2 zs, CupOk c H2 → H2 D = some (.lst zs) → Th (fun a => Cc c a ∨ a = D) H2 := fun H2 zs kk q a ha => ha.elim (fun n => kk.th a n) fun e => ⟨zs, by rw [e]; exact q⟩
  have keepD : ∀ {Ha Hb : Hp} {zs : List V}, SameB (Cc c) Ha Hb → Ha D = some (.lst zs) → Hb D = some (.lst zs) := fun s q => s _ _ hDc q
  have hlen : (xs.map enc).length = xs.length := List.length_map _
  refine ⟨fun i m H2 => i + m = xs.length ∧ SameB (Cc c) H1 H2 ∧ CupOk c H2 ∧ ∃ acc ds, H2 D = some (.lst acc) ∧ acc.length ≤ i ∧ Picks ok el (xs.take i) ds ∧ RepAll (fun a => Cc c a ∨ a = D) H2 acc ds,
    ⟨xs.length, Nat.zero_add _, toB (same_new hD), hk1.same (same_new hD), [], [], upd_same, Nat.le_refl _, .nil, .nil⟩, fun i m H2 hw => ?_⟩
  obtain ⟨em, s2, k2, acc, ds, hacc, hal, hpk, hr⟩ := hw
  by_cases h : i < xs.length
  · refine .inr ⟨W.go _ i H2 ap (s2.up up) (by rw [hlen]; exact h), fun H3 => SameB (Cc c) H1 H3 ∧ CupOk c H3 ∧ ∃ acc ds, H3 D = some (.lst acc) ∧ acc.length ≤ i + 1 ∧ Picks ok el (xs.take (i + 1)) ds ∧ RepAll (fun a => Cc c a ∨ a = D) H3 acc ds, fun H3 q => ⟨m - 1, by omega, by omega, q⟩, fun x H3 hy => ?_⟩
    obtain ⟨s3, rx⟩ := W.yld _ i H2 x H3 ap (thr H2 _ k2 hacc) (s2.up up) hy
    have gi : xs[i]? = some xs[i] := List.getElem?_eq_getElem h
    have ym : xs[i] ∈ xs := List.getElem_mem h
    generalize xs[i] = y at gi ym
    have r := rx (enc y) (by rw [List.getElem?_map, gi]; rfl)
    have s13 : SameB (Cc c) H1 H3 := s2.trans (toB s3)
    have k3 := k2.same s3
    have hE3 : En (fun a => Cc c a ∨ a = D) H3 σ Γ := ⟨thr H3 _ k3 (s3 _ _ hacc), hE1.len, fun j t q => ((hE1.sl j t q).apart ap).mono (s13.up up)⟩
    have etk : xs.take (i + 1) = xs.take i ++ [y] := by rw [List.take_add_one, gi]; rfl
    intro s0 H0 C' cl fp
    refine hg s0 H0 C' cl fp y ym _ (wipe σ (own.map (·.2))) H3 x (hE3.wipe _) r _ ?_
    intro σ4 H4 s4 hE4 hw
    have idem : ∀ (vs us : List Nat), (∀ i ∈ us, i ∈ vs) → wipe (wipe σ us) vs = wipe σ vs := by
      intro vs us
      induction us with
      | nil => intro _; rfl
      | cons u us ih =>
        intro hu
        show wipe ((wipe σ us).set u none) vs = wipe σ vs
        rw [wipe_set (hu u List.mem_cons_self), ih fun i hi => hu i (List.mem_cons_of_mem _ hi)]
    refine ⟨(hw _ fun i hi => hi).trans (idem _ _ fun i hi => hi), fun s0 H0 C' cl fp => ?_⟩
    have k4 := k3.same s4
    refine ht s0 H0 C' cl fp y ym σ4 H4 (hE4.down up k4) k4 _ fun b H5 s5 k5 p5 => ?_
    have s15 : SameB (Cc c) H1 H5 := (s13.trans (toB s4)).trans s5
    have hD5 : H5 D = some (.lst acc) := keepD s5 (s4 _ _ (s3 _ _ hacc))
    have hr5 : RepAll (fun a => Cc c a ∨ a = D) H5 acc ds := ((hr.same s3).same s4).mono (s5.up up)
    cases b with
    | false =>
      refine iteF ⟨s15, k5, acc, ds, hD5, by omega, ?_, hr5⟩
      rw [etk]
      exact .skip p5 hpk
    | true =>
      refine iteT fun s0 H0 C' cl fp => ?_
      have hE5 : En (fun a => Cc c a ∨ a = D) H5 σ4 (Γt y) := hE4.mono (s5.up up) (thr H5 _ k5 hD5)
      refine he s0 H0 C' cl fp y ym p5 _ σ4 H5 up hE5 k5 _ fun v H6 d s6 k6 p6 r6 => ?_
      have hD6 := keepD s6 hD5
      refine ⟨acc, hD6, by omega, ?_⟩
      have sb : SameB (fun a => Cc c a ∨ a = D) H6 (upd H6 D (.lst (acc ++ [v]))) := fun a o n e => by rw [upd_ne fun q => n (.inr q)]; exact e
      refine ⟨fun a o n e => ?_, ?_, acc ++ [v], ds ++ [d], upd_same, by rw [List.length_append, List.length_singleton]; omega, ?_, ((hr5.mono (s6.up up)).snoc r6).mono sb⟩
      · rw [upd_ne (ne_of_none e hD)]
        exact s6 a o n (s15 a o n e)
      · obtain ⟨x0, y0, q1, q2, q3, q4⟩ := k6
        exact ⟨x0, y0, q1, q2, q3, by rw [upd_ne fun q => hDc q.symm]; exact q4⟩
      · rw [etk]
        exact .take p5 p6 hpk
  · have ei : i = xs.length := by omega
    rw [ei, List.take_length] at hpk
    refine .inl ⟨W.stop _ i H2 ap (s2.up up) (by rw [hlen]; omega), k _ _ _ ((toB s1).trans s2) k2 ⟨ds, rfl, hpk⟩ (.lst hDc hacc (hr.apart fun a o _ q n => q (.inl n)))⟩
theorem en_lc (Γt : α → List Sd) (ok : α → Bool → Prop) (el : α → PyData → Prop) (hc : X.calm = true) (hN : X.N.Nodup) (okB : BlkOk X.N X.env.scope scope own) (hi : ID X (Cc c) tg iter Γ (xs.map enc))
    (hg : ∀ s H C' cl fp, ∀ y ∈ xs, ∀ C1 : Addr → Prop, GD (Bk X scope s H C' cl fp) C1 tg (wipeG Γ (own.map (·.2))) (enc y) (Γt y) (own.map (·.2)))
    (ht : ∀ s H C' cl fp, ∀ y ∈ xs, TsN (Bk X scope s H C' cl fp) c ifs (Γt y) (ok y))
    (he : ∀ s H C' cl fp, ∀ y ∈ xs, ok y true → ∀ C1 : Addr → Prop, EL (Bk X scope s H C' cl fp) C1 c elt (Γt y) (el y)) (hz : xs.length < sizeLine) (hs : ∀ x, foldedSetIterable iter X.env x = pure x := by intro _; rfl) :
    EN X c (.ListComp elt [⟨tg, iter, ifs, 0⟩] scope pos) Γ (fun d => ∃ ds, d = .list ds ∧ Picks ok el xs ds) := fun σ H hE hk Q k => by
  refine ⟨_, pe_lc (wi := WI X tg iter) (g := fun v σ H Q => ∀ s H0 C' cl fp, WG (Bk X scope s H0 C' cl fp) tg v σ H Q) (tt := fun σ H Q => ∀ s H0 C' cl fp, WTs (Bk X scope s H0 C' cl fp) ifs σ H Q) (te := fun σ H Q => ∀ s H0 C' cl fp, WE (Bk X scope s H0 C' cl fp) elt σ H Q) hc hN WI.p okB
    (fun s H C' cl fp => ⟨fun pins s1 σ H1 v u Q I r h => (WG.p (X := Bk X scope s H C' cl fp)).run pins s1 σ H1 v u Q I r (h s H C' cl fp)⟩)
    (fun s H C' cl fp => ⟨fun pins s1 σ H1 Q I h => (WTs.p (X := Bk X scope s H C' cl fp)).run pins s1 σ H1 Q I (h s H C' cl fp)⟩)
    (fun s H C' cl fp => ⟨fun pins s1 σ H1 Q I h => (WE.p (X := Bk X scope s H C' cl fp)).run pins s1 σ H1 Q I (h s H C' cl fp)⟩) hs, lcn Γt ok el hE hk hi hg ht he hz k⟩
/-- name = [..] on one line, what is drawn -/
theorem sn_setLc {H0 H : Hp} {σ : L2.St} {D : Ends} {rest : List Stmt} (i : Nat) {x : Str} {px pl : Pos} (Γt : α → List Sd) (ok : α → Bool → Prop) (el : α → PyData → Prop) (hc : X.calm = true) (hN : X.N.Nodup) (okB : BlkOk X.N X.env.scope scope own) (hi : ID X (Cc c) tg iter Γ (xs.map enc)) (hS : SnC c H0 H σ Γ)
    (hg : ∀ s H C' cl fp, ∀ y ∈ xs, ∀ C1 : Addr → Prop, GD (Bk X scope s H C' cl fp) C1 tg (wipeG Γ (own.map (·.2))) (enc y) (Γt y) (own.map (·.2)))
    (ht : ∀ s H C' cl fp, ∀ y ∈ xs, TsN (Bk X scope s H C' cl fp) c ifs (Γt y) (ok y))
    (he : ∀ s H C' cl fp, ∀ y ∈ xs, ok y true → ∀ C1 : Addr → Prop, EL (Bk X scope s H C' cl fp) C1 c elt (Γt y) (el y)) (hz : xs.length < sizeLine)
    (k : ∀ ds, Picks ok el xs ds → ∀ σ' H', SnC c H0 H' σ' (Γ.set i (.dat (.list ds))) → WSs X rest D σ' H') (hk : X.env.scope.kind = .function := by rfl) (hl : (px.line == pl.line) = true := by rfl)
    (ha : (scope.names.any fun (n, k) => n == x && (k == .local || k == .cell)) = false := by rfl) (hxi : X.N[i]? = some x := by rfl) (hxl : X.env.scope.names.lookup x = some .local := by rfl) (hs : ∀ x, foldedSetIterable iter X.env x = pure x := by intro _; rfl) :
    WSs X (.Assign [.Name x px] (.ListComp elt [⟨tg, iter, ifs, 0⟩] scope pl) pos :: rest) D σ H :=
  ⟨_, pss_cons (ps_setLc (wi := WI X tg iter) (g := fun v σ H Q => ∀ s H0 C' cl fp, WG (Bk X scope s H0 C' cl fp) tg v σ H Q) (tt := fun σ H Q => ∀ s H0 C' cl fp, WTs (Bk X scope s H0 C' cl fp) ifs σ H Q)
    (te := fun σ H Q => ∀ s H0 C' cl fp, WE (Bk X scope s H0 C' cl fp) elt σ H Q) hc hN hxi hxl (sw_true hk hxl hl ha) WI.p okB (fun s H C' cl fp => ⟨fun pins s1 σ H1 v u Q I r h => (WG.p (X := Bk X scope s H C' cl fp)).run pins s1 σ H1 v u Q I r (h s H C' cl fp)⟩)
    (fun s H C' cl fp => ⟨fun pins s1 σ H1 Q I h => (WTs.p (X := Bk X scope s H C' cl fp)).run pins s1 σ H1 Q I (h s H C' cl fp)⟩)
    (fun s H C' cl fp => ⟨fun pins s1 σ H1 Q I h => (WE.p (X := Bk X scope s H C' cl fp)).run pins s1 σ H1 Q I (h s H C' cl fp)⟩) hs) WSs.p,
    lcn (Q := fun v H1 => WSs X rest D (σ.set i (some v)) H1) Γt ok el hS.en hS.cup hi hg ht he hz fun v H1 d s1 k1 p1 r1 => by
      obtain ⟨ds, rfl, p⟩ := p1
      exact k ds p _ H1 (hS.next s1 k1 ((hS.en.cup s1 k1).set r1))⟩
theorem picks_all {el : α → PyData → Prop} {el' : PyData → Prop} (w : ∀ x d, el x d → el' d) {xs : List α} {ds : List PyData} (h : Picks (fun _ b => b = true) el xs ds) : ds.length = xs.length ∧ ∀ d ∈ ds, el' d := by
  induction h with
  | nil => exact ⟨rfl, fun d h => by cases h⟩
  | skip h _ _ => cases h
  | take _ p _ ih =>
    refine ⟨by rw [List.length_append, List.length_append, ih.1]; rfl, fun d hd => ?_⟩
    rcases List.mem_append.mp hd with hd | hd
    · exact ih.2 d hd
    · rcases List.mem_singleton.mp hd with rfl
      exact w _ _ p
theorem picks_sub {ok : α → Bool → Prop} {g : α → PyData} {ok' : α → Prop} (w : ∀ x, ok x true → ok' x) {xs : List α} {ds : List PyData} (h : Picks ok (fun x d => d = g x) xs ds) : ∃ l : List α, ds = l.map g ∧ l.Sublist xs ∧ ∀ x ∈ l, ok' x := by
  induction h with
  | nil => exact ⟨[], rfl, .slnil, fun x h => by cases h⟩
  | skip _ _ ih =>
    obtain ⟨l, h1, h2, h3⟩ := ih
    exact ⟨l, h1, h2.trans (List.sublist_append_left _ _), h3⟩
  | take hk p _ ih =>
    obtain ⟨l, h1, h2, h3⟩ := ih
    subst p
    rename_i x _ _ _
    refine ⟨l ++ [x], by rw [h1, List.map_append]; rfl, h2.append (List.Sublist.refl _), fun y hy => ?_⟩
    rcases List.mem_append.mp hy with hy | hy
    · exact h3 y hy
    · rcases List.mem_singleton.mp hy with rfl
      exact w _ hk
end
theorem en_int {p : Pos} {PI : Int → Prop} (hm : X.mg "int" = none) (ha : EN X c a Γ (fun d => ∃ i, d = .int i ∧ PI i)) (hg : Gl X "int" := by rfl) (he : starEach [a] X.env = (false, eval a X.env) :: starEach [] X.env := by rfl) : EN X c (.Call (.Name "int" p) [a] [] pos) Γ (fun d => ∃ i, d = .int i ∧ PI i) :=
  en_callTy (r := rInt1) call_int1 (fun ds p => by
    obtain ⟨d, r, rfl, ⟨i, rfl, hi⟩, rfl⟩ := p
    exact ⟨.int i, fun H vs _ r Q k => by
      obtain ⟨v, rfl, h⟩ := rep1 r
      cases h
      exact .inl ⟨_, rfl, k _ H (Same.refl H) (.int _)⟩, i, rfl, hi⟩) hm boot_int (an_cons ha an_nil he) hg (by decide) (by decide) he rfl
theorem en_tupL {p : Pos} {PL : List PyData → Prop} (hm : X.mg "tuple" = none) (ha : EN X c a Γ (fun d => ∃ ds, d = .list ds ∧ PL ds)) (hg : Gl X "tuple" := by rfl) (he : starEach [a] X.env = (false, eval a X.env) :: starEach [] X.env := by rfl) : EN X c (.Call (.Name "tuple" p) [a] [] pos) Γ (fun d => ∃ ds, d = .tuple ds ∧ PL ds) :=
  en_callTy call_tuple_of (fun ds p => by
    obtain ⟨d, r, rfl, ⟨es, rfl, hi⟩, rfl⟩ := p
    exact ⟨.tuple es, rc_tupL, es, rfl, hi⟩) hm (by decide +kernel) (an_cons ha an_nil he) hg (by decide) (by decide) he rfl
end
/-! ### defs that draw -/
section
variable {P : Program} {w : World} {K : PySem.W.Frag} {mg : Str → Option Value} {base : Heap}
def startN (N : List Str) (c : Addr) (ds : List PyData) : List Sd := .val (.ref c) :: (ds.map .dat ++ List.replicate (N.length - (ds.length + 1)) .any)
theorem startN_en {c : Addr} {H : Hp} {N : List Str} {us : List V} {ds : List PyData} (ht : CupOk c H) (r : RepAll (Cc c) H us ds) : En (Cc c) H (L2.start N (.ref c :: us)) (startN N c ds) := by
  have hl := r.length
  refine ⟨ht.th, ?_, fun i s e => ?_⟩
  · unfold L2.start startN
    simp only [List.length_append, List.length_map, List.length_replicate, List.length_cons]
    omega
  · unfold startN at e
    unfold L2.start
    match i with
    | 0 =>
      cases e
      rfl
    | i + 1 =>
      have e : (ds.map Sd.dat ++ List.replicate (N.length - (ds.length + 1)) Sd.any)[i]? = some s := e
      show SdOk (Cc c) H ((us.map some ++ List.replicate (N.length - (us.length + 1)) none)[i]?) s
      by_cases hi : i < ds.length
      · rw [List.getElem?_append_left (by simpa using hi), List.getElem?_map] at e
        rw [List.getElem?_append_left (by simpa [hl] using hi), List.getElem?_map]
        cases q : ds[i]? with
        | none => rw [q] at e; cases e
        | some d =>
          rw [q] at e
          cases e
          obtain ⟨v, h1, h2⟩ := r.get q
          exact ⟨v, by rw [h1]; rfl, h2⟩
      · rw [List.getElem?_append_right (by simpa using hi), List.getElem?_replicate] at e
        split at e
        · cases e; trivial
        · cases e
theorem dfn_ofN {x : Str} {st : Stmt} {N ps : List Str} {k : Nat} {R : List PyData → (PyData → Prop) → Prop} (T : At K mg x st) (S : FnScope N ps (defScope st))
    (hb : ∀ (kV doc pm : Value) (an : Option Addr) (cdv ct : Value) (us : List Value), us.length = ps.length → bindArgs (PySem.W.fnOf x x (defArgs st) (defBody st) (defScope st) .none kV doc pm an cdv ct) ⟨us, []⟩ = pure (ps.zip us))
    (len : ∀ ds P, R ds P → ds.length + 1 = ps.length)
    (body : ∀ (f : Addr) (cdv : Value) (A : Around) (outer : List Env) (s : Shared) (H : Hp) (E : XK), Room k (A.deeper (envOfC x (defScope st) s.heap.objs.size f cdv)) → ∀ (c : Addr) (ds : List PyData) (Pd : PyData → Prop) (σ : L2.St), R ds Pd → En (Cc c) H σ (startN N c ds) → CupOk c H →
      ∀ Q : VK, (∀ v H' d, SameB (Cc c) H H' → CupOk c H' → Pd d → Rep (Cc c) H' v d → Q v H') → WSs (CxD P w K mg base N x st f cdv A outer s H E) (defBody st) { nx := fun _ H' => Q .non H', rt := Q } σ H) :
    Dfn P w K mg base x ps (k + 1) (spN R) := by
  obtain ⟨f, fd, hm, F⟩ := T.ex
  refine ⟨f, fd, hm, F.kp, ?_, F.ok S (fun vs H Q E h => ?_) (fun cdv A outer s H vs Q E hr h => ?_)⟩
  · obtain ⟨oc, od, dV, kV, doc, pm, an, cdv, ct, osl, rfl, lk, hcd, hD, _⟩ := F.ex
    rcases hD with ⟨_, rfl⟩ | ⟨z, _⟩
    · exact .all (hb kV doc pm an cdv ct)
    · exact absurd rfl z
  · obtain ⟨c, us, ds, Pd, rfl, hk, r, hR, _⟩ := h
    rw [List.length_cons, r.length]
    exact len ds Pd hR
  · obtain ⟨c, us, ds, Pd, rfl, hk, r, hR, q⟩ := h
    exact ⟨_, WSs.p.nox, body f cdv A outer s H E hr c ds Pd _ hR (startN_en hk r) hk Q q⟩
end
end T2

set_option Elab.async false
set_option linter.all false
set_option maxRecDepth 100000
set_option maxHeartbeats 4000000
/-! TbL4: rolls, answers, deeds, items. -/
namespace T2
open PySem PySem.Spec PySem.W PyProof.Rows L2
theorem rd_addI {C : Addr → Prop} {i j : Int} : RD2 C (rI0 fun i j => .int (i + j)) (.int i) (.int j) (.int (i + j)) := rd_I0 fun _ => .int _
theorem rd_mulI {C : Addr → Prop} {i j : Int} (h : CMul i j) : RD2 C (rI CMul fun i j => .int (i * j)) (.int i) (.int j) (.int (i * j)) := rd_I h fun _ => .int _
theorem rd_fdivI {C : Addr → Prop} {i j : Int} (h : CDiv i j) : RD2 C (rI CDiv fun i j => .int (i / j)) (.int i) (.int j) (.int (i / j)) := rd_I h fun _ => .int _
theorem rd_modI {C : Addr → Prop} {i j : Int} (h : 0 < j) : RD2 C (rI (fun _ j => 0 < j) fun i j => .int (i % j)) (.int i) (.int j) (.int (i % j)) := rd_I h fun _ => .int _
def drawn (m : Int) (d : PyData) : Prop := ∃ r : Int, d = .int r ∧ 0 ≤ r ∧ r < m
section
variable {P : Program} {w : World} {K : PySem.W.Frag} {mg : Str → Option Value} {base : Heap}
def rLawRoll (ds : List PyData) (Pd : PyData → Prop) : Prop := ∃ m : Int, ds = [.int m] ∧ 0 < m ∧ m ≤ 1000 ∧ Pd = drawn m
abbrev N_l_law_roll : List Str := ["_law_cup_here", "_law_many", "_law_found", "_law_deep"]
abbrev P_l_law_roll : List Str := ["_law_cup_here", "_law_many"]
theorem sc_l_law_roll : FnScope N_l_law_roll P_l_law_roll (defScope s_law_roll) := ⟨rfl, rfl, rfl, by decide +kernel, rfl, by decide +kernel, by decide +kernel⟩
theorem bk_l_law_roll {scope : Scope} {own : List (Str × Nat)} (h : blkB N_l_law_roll (defScope s_law_roll) scope own = true) : BlkOk N_l_law_roll (defScope s_law_roll) scope own := blk_of h
abbrev D_l_law_roll (P : Program) (w : World) (K : PySem.W.Frag) (mg : Str → Option Value) (base : Heap) : Prop := Dfn P w K mg base "_law_roll" P_l_law_roll 1 (spN rLawRoll)
theorem ok_l_law_roll (M : Mg K mg) (T : At K mg "_law_roll" s_law_roll)  : D_l_law_roll P w K mg base := by
  refine dfn_ofN T sc_l_law_roll (fun _ _ _ _ _ _ us hl => match us, hl with | [_, _], _ => rfl) (fun ds d h => by obtain ⟨_, rfl, _⟩ := h; rfl) ?_
  intro f cdv A outer s H E hr c ds Pd σ h hE hk Q k
  obtain ⟨m, rfl, h0, h1, rfl⟩ := h
  have hmod : ∀ x : Int, 0 ≤ x % m ∧ x % m < m := fun x => ⟨Int.emod_nonneg _ (by omega), Int.emod_lt_of_pos _ h0⟩
  refine sn_if (PB := fun _ => True) (tn_cmp op_gt (en_cup0 (i := 0) rfl rfl) (en_ed ed_int) (fun d1 d2 p1 p2 => by
    obtain ⟨x, rfl, _⟩ := p1
    subst p2
    exact ⟨_, rd_gt, trivial⟩)) ⟨SameB.refl _, hk, hE⟩ (fun _ H1 S1 => ?_) (fun _ H1 S1 => s_nil ?_)
  · refine sn_set 2 (P := drawn m) (en_bin op_mod (en_int M.int (en_cup0 (i := 0) rfl rfl)) (en_ed (ed_var 1)) (fun d1 d2 p1 p2 => by
      obtain ⟨x, rfl, _⟩ := p1
      subst p2
      exact ⟨_, rd_modI h0, _, rfl, hmod x⟩)) S1 sc_l_law_roll.nd fun d pd σ2 H2 S2 => ?_
    refine sn_put 0 (i := 0) (en_bin op_fdiv (en_cup0 (i := 0) rfl rfl) (en_ed (ed_var 1)) (fun d1 d2 p1 p2 => by
      obtain ⟨x, rfl, hx⟩ := p1
      subst p2
      exact ⟨_, rd_fdivI ⟨h0, by omega⟩, _, rfl, Int.ediv_nonneg hx (by omega), fun h => by cases h⟩)) S2 (.inl ⟨rfl, rfl⟩) (fun H3 S3 => ?_) rfl rfl
    exact sn_ret (en_is (ed_var 2) pd) S3 k
  · refine sn_put 1 (i := 0) (en_bin (P1 := fun d => ∃ i : Int, d = .int i ∧ True) op_mod (en_int M.int (en_bin (P1 := fun d => ∃ i : Int, d = .int i) op_add (en_bin op_mul (en_cup1 (i := 0) rfl rfl) (en_ed ed_int) (fun d1 d2 p1 p2 => by
        obtain ⟨x, rfl, _⟩ := p1
        subst p2
        exact ⟨_, rd_mulI (.inr (by decide)), _, rfl⟩)) (en_ed ed_int) (fun d1 d2 p1 p2 => by
        obtain ⟨x, rfl⟩ := p1
        subst p2
        exact ⟨_, rd_addI, _, rfl, trivial⟩))) (en_ed ed_int) (fun d1 d2 p1 p2 => by
      obtain ⟨x, rfl, _⟩ := p1
      subst p2
      exact ⟨_, rd_modI (by decide), _, rfl, Int.emod_nonneg _ (by decide), fun _ => Int.lt_of_lt_of_le (Int.emod_lt_of_pos _ (by decide)) (by decide)⟩)) S1 (.inr ⟨rfl, rfl⟩) (fun H2 S2 => ?_) rfl rfl
    refine sn_set 3 (P := fun d => ∃ i : Int, d = .int i ∧ True) (en_bin (P1 := fun d => ∃ i : Int, d = .int i ∧ True) op_mod (en_int M.int (en_bin (P2 := fun d => ∃ i : Int, d = .int i) op_mul (en_cup1 (i := 0) rfl rfl) (en_bin op_add (en_cup1 (i := 0) rfl rfl) (en_ed ed_int) (fun d1 d2 p1 p2 => by
        obtain ⟨x, rfl, _⟩ := p1
        subst p2
        exact ⟨_, rd_addI, _, rfl⟩)) (fun d1 d2 p1 p2 => by
        obtain ⟨x, rfl, hx⟩ := p1
        obtain ⟨y, rfl⟩ := p2
        exact ⟨_, rd_mulI (.inl (by omega)), _, rfl, trivial⟩))) (en_ed ed_int) (fun d1 d2 p1 p2 => by
      obtain ⟨x, rfl, _⟩ := p1
      subst p2
      exact ⟨_, rd_modI (by decide), _, rfl, trivial⟩)) S2 sc_l_law_roll.nd fun d pd σ3 H3 S3 => ?_
    obtain ⟨z, rfl, _⟩ := pd
    exact sn_ret (en_is (ed_mod (ed_intI M.int (ed_fdiv (ed_var 3) ed_int ⟨by decide, by decide⟩)) (ed_var 1) h0) ⟨_, rfl, hmod _⟩) S3 k
def rLawSome (ds : List PyData) (Pd : PyData → Prop) : Prop := ∃ xs : List PyData, ds = [.list xs] ∧ 0 < xs.length ∧ xs.length ≤ 1000 ∧ ∀ d ∈ xs, Pd d
abbrev N_l_law_some : List Str := ["_law_cup_here", "_law_things"]
abbrev P_l_law_some : List Str := ["_law_cup_here", "_law_things"]
theorem sc_l_law_some : FnScope N_l_law_some P_l_law_some (defScope s_law_some) := ⟨rfl, rfl, rfl, by decide +kernel, rfl, by decide +kernel, by decide +kernel⟩
theorem bk_l_law_some {scope : Scope} {own : List (Str × Nat)} (h : blkB N_l_law_some (defScope s_law_some) scope own = true) : BlkOk N_l_law_some (defScope s_law_some) scope own := blk_of h
abbrev D_l_law_some (P : Program) (w : World) (K : PySem.W.Frag) (mg : Str → Option Value) (base : Heap) : Prop := Dfn P w K mg base "_law_some" P_l_law_some 2 (spN rLawSome)
theorem ok_l_law_some (M : Mg K mg) (T : At K mg "_law_some" s_law_some) (g_l_law_roll : D_l_law_roll P w K mg base) : D_l_law_some P w K mg base := by
  refine dfn_ofN T sc_l_law_some (fun _ _ _ _ _ _ us hl => match us, hl with | [_, _], _ => rfl) (fun ds d h => by obtain ⟨_, rfl, _⟩ := h; rfl) ?_
  intro f cdv A outer s H E hr c ds Pd σ h hE hk Q k
  obtain ⟨xs, rfl, h0, h1, hp⟩ := h
  refine sn_ret (en_sub (P1 := fun d => d = .list xs) ix_list (en_ed (ed_var 1)) (en_callN (P := drawn xs.length) (i := 0) g_l_law_roll hr (fun ds p => by subst p; exact ⟨_, rfl, by omega, by omega, rfl⟩) (an_ad (ad_cons (ed_lenL M.len (ed_var 1)) ad_nil)) rfl rfl) (fun d1 d2 p1 p2 => ?_)) ⟨SameB.refl _, hk, hE⟩ k
  subst p1
  obtain ⟨r, rfl, h2, h3⟩ := p2
  have hl : r.toNat < xs.length := by omega
  exact ⟨xs[r.toNat], rd_ixL (atI_nat h2 (List.getElem?_eq_getElem hl)), hp _ (List.getElem_mem hl)⟩
def answers (m : Nat) (d : PyData) : Prop := ∃ as, d = encInts as ∧ oks as m
theorem answers_of {m : Nat} {ds : List PyData} (h : ds.length = m ∧ ∀ d ∈ ds, drawn 2 d) : answers m (.tuple ds) := by
  have key : ∀ {ds : List PyData}, (∀ d ∈ ds, drawn 2 d) → ∃ as : List Int, ds = as.map .int ∧ ∀ a ∈ as, 0 ≤ a ∧ a ≤ 1 := by
    intro ds
    induction ds with
    | nil => intro _; exact ⟨[], rfl, fun a h => by cases h⟩
    | cons d ds ih =>
      intro h
      obtain ⟨r, rfl, h1, h2⟩ := h d List.mem_cons_self
      obtain ⟨as, rfl, h3⟩ := ih fun d hd => h d (List.mem_cons_of_mem _ hd)
      refine ⟨r :: as, rfl, fun a ha => ?_⟩
      rcases List.mem_cons.mp ha with rfl | ha
      · omega
      · exact h3 a ha
  obtain ⟨as, rfl, h3⟩ := key h.2
  exact ⟨as, rfl, by rw [← h.1, List.length_map], h3⟩
def rLawAnswers (ds : List PyData) (Pd : PyData → Prop) : Prop := ∃ m : Nat, ds = [.int m] ∧ m ≤ 10 ∧ Pd = answers m
abbrev N_l_law_answers : List Str := ["_law_cup_here", "_law_many", "_law_answer"]
abbrev P_l_law_answers : List Str := ["_law_cup_here", "_law_many"]
theorem sc_l_law_answers : FnScope N_l_law_answers P_l_law_answers (defScope s_law_answers) := ⟨rfl, rfl, rfl, by decide +kernel, rfl, by decide +kernel, by decide +kernel⟩
theorem bk_l_law_answers {scope : Scope} {own : List (Str × Nat)} (h : blkB N_l_law_answers (defScope s_law_answers) scope own = true) : BlkOk N_l_law_answers (defScope s_law_answers) scope own := blk_of h
abbrev D_l_law_answers (P : Program) (w : World) (K : PySem.W.Frag) (mg : Str → Option Value) (base : Heap) : Prop := Dfn P w K mg base "_law_answers" P_l_law_answers 2 (spN rLawAnswers)
theorem ok_l_law_answers (M : Mg K mg) (T : At K mg "_law_answers" s_law_answers) (g_l_law_roll : D_l_law_roll P w K mg base) : D_l_law_answers P w K mg base := by
  refine dfn_ofN T sc_l_law_answers (fun _ _ _ _ _ _ us hl => match us, hl with | [_, _], _ => rfl) (fun ds d h => by obtain ⟨_, rfl, _⟩ := h; rfl) ?_
  intro f cdv A outer s H E hr c ds Pd σ h hE hk Q k
  obtain ⟨m, rfl, h1, rfl⟩ := h
  have hl := rangeI_len 0 (m : Int)
  refine sn_ret (EN.mono (en_tupL M.tuple (en_lc (xs := rangeI 0 m) (enc := PyData.int) (own := [("_law_answer", 2)]) (fun i => [.val (.ref c), .dat (.int m), .dat (.int i)]) (fun _ b => b = true) (fun _ => drawn 2) rfl sc_l_law_answers.nd
      (bk_l_law_answers (by decide +kernel)) (by rw [← rangeD0_eq]; exact id_range1 M.range (ed_var 1) (by omega)) (fun s H C' cl fp y _ C1 => gd_name 2 sc_l_law_answers.nd) (fun s H C' cl fp y _ => tsn_nil)
      (fun s H C' cl fp y _ _ C1 => el_int (en_callN (P := drawn 2) (i := 0) g_l_law_roll hr (fun ds p => by subst p; exact ⟨_, rfl, by decide, by decide, rfl⟩) (an_ad (ad_cons ed_int ad_nil)) rfl rfl) (fun d ⟨r, e, _⟩ => ⟨r, e⟩)) (by rw [hl]; show _ < 2 ^ 24; omega))) fun d p => ?_) ⟨SameB.refl _, hk, hE⟩ k
  obtain ⟨ds, rfl, hp⟩ := p
  have := picks_all (el' := drawn 2) (fun _ d h => h) hp
  exact answers_of ⟨by rw [this.1, hl]; omega, this.2⟩
/-! ### a deed -/
def aDeed (n : Int) (d : PyData) : Prop := ∃ e : Deed, d = encDeed e ∧ e.ok n
def rLawDeed (ds : List PyData) (Pd : PyData → Prop) : Prop := ∃ n : Int, ds = [.int n] ∧ 1 ≤ n ∧ n ≤ 3 ∧ Pd = aDeed n
def some7 : List (List Int) := [[0, 0, 1, 1, 1, 1], [0, 0, 0, 1, 1, 0], [1, 0, 0, 1, 1, 1], [0, 0, 1, 1, 1, 0], [1, 1, 1, 0, 0, 0], [0, 0, 0, 1, 1, 1], [0, 1, 0, 0, 1, 0]]
def some5 : List (List Int) := [[0, 1, 0, 1], [0, 1, 1, 0], [0, 1, 1, 1], [0, 0, 0, 1], [0, 0, 1, 1]]
theorem some7_ok : ∀ as ∈ some7, oks as 6 := by
  unfold oks
  decide
theorem some5_ok : ∀ as ∈ some5, oks as 4 := by
  unfold oks
  decide
abbrev N_l_law_deed : List Str := ["_law_cup_here", "_law_named", "_law_doer", "_law_some_here", "_law_other", "_law_person"]
abbrev P_l_law_deed : List Str := ["_law_cup_here", "_law_named"]
theorem sc_l_law_deed : FnScope N_l_law_deed P_l_law_deed (defScope s_law_deed) := ⟨rfl, rfl, rfl, by decide +kernel, rfl, by decide +kernel, by decide +kernel⟩
theorem bk_l_law_deed {scope : Scope} {own : List (Str × Nat)} (h : blkB N_l_law_deed (defScope s_law_deed) scope own = true) : BlkOk N_l_law_deed (defScope s_law_deed) scope own := blk_of h
abbrev D_l_law_deed (P : Program) (w : World) (K : PySem.W.Frag) (mg : Str → Option Value) (base : Heap) : Prop := Dfn P w K mg base "_law_deed" P_l_law_deed 3 (spN rLawDeed)
theorem ok_l_law_deed (M : Mg K mg) (T : At K mg "_law_deed" s_law_deed) (g_l_law_roll : D_l_law_roll P w K mg base) (g_l_law_some : D_l_law_some P w K mg base) (g_l_law_answers : D_l_law_answers P w K mg base) : D_l_law_deed P w K mg base := by
  refine dfn_ofN T sc_l_law_deed (fun _ _ _ _ _ _ us hl => match us, hl with | [_, _], _ => rfl) (fun ds d h => by obtain ⟨_, rfl, _⟩ := h; rfl) ?_
  intro f cdv A outer s H E hr c ds Pd σ h hE hk Q k
  obtain ⟨n, rfl, h1, h3, rfl⟩ := h
  have ans : ∀ {Γ : List Sd} {m : Nat} {X : Cx} {e : Expr}, EN X c e Γ (answers m) → EN X c e Γ (answers m) := fun h => h
  refine sn_set 2 (en_callN (P := drawn n) (i := 0) g_l_law_roll (hr.mono (by decide)) (fun ds p => by subst p; exact ⟨_, rfl, by omega, by omega, rfl⟩) (an_ad (ad_cons (ed_var 1) ad_nil)) rfl rfl) ⟨SameB.refl _, hk, hE⟩ sc_l_law_deed.nd fun d pd σ1 H1 S1 => ?_
  obtain ⟨x, rfl, hx0, hx1⟩ := pd
  refine sn_if (PB := fun b => b = false → n ≠ 1) (tn_w (wn_or (tn_td (td_cmp op_eq rd_eqI (ed_var 1) ed_int)) (fun _ => wn_or1 (PB := fun _ => True) (tn_cmp op_lt (en_callN (P := drawn 5) (i := 0) g_l_law_roll (hr.mono (by decide)) (fun ds p => by subst p; exact ⟨_, rfl, by decide, by decide, rfl⟩) (an_ad (ad_cons ed_int ad_nil)) rfl rfl) (en_ed ed_int) (fun d1 d2 p1 p2 => by
      obtain ⟨r, rfl, _⟩ := p1
      subst p2
      exact ⟨_, rd_lt, trivial⟩))) (fun _ h => by cases h) (fun b hb _ _ => of_decide_eq_false hb.symm))) S1 (fun _ H2 S2 => ?_) (fun hn H2 S2 => s_nil ?_)
  · refine sn_set 3 (P := fun d => d = .list (some7.map encInts)) (en_ed (ed_lst (ad_cons (ed_tup (ad_cons ed_int (ad_cons ed_int (ad_cons ed_int (ad_cons ed_int (ad_cons ed_int (ad_cons ed_int ad_nil))))))) (ad_cons (ed_tup (ad_cons ed_int (ad_cons ed_int (ad_cons ed_int (ad_cons ed_int (ad_cons ed_int (ad_cons ed_int ad_nil))))))) (ad_cons (ed_tup (ad_cons ed_int (ad_cons ed_int (ad_cons ed_int (ad_cons ed_int (ad_cons ed_int (ad_cons ed_int ad_nil))))))) (ad_cons (ed_tup (ad_cons ed_int (ad_cons ed_int (ad_cons ed_int (ad_cons ed_int (ad_cons ed_int (ad_cons ed_int ad_nil))))))) (ad_cons (ed_tup (ad_cons ed_int (ad_cons ed_int (ad_cons ed_int (ad_cons ed_int (ad_cons ed_int (ad_cons ed_int ad_nil))))))) (ad_cons (ed_tup (ad_cons ed_int (ad_cons ed_int (ad_cons ed_int (ad_cons ed_int (ad_cons ed_int (ad_cons ed_int ad_nil))))))) (ad_cons (ed_tup (ad_cons ed_int (ad_cons ed_int (ad_cons ed_int (ad_cons ed_int (ad_cons ed_int (ad_cons ed_int ad_nil))))))) ad_nil))))))))) S2 sc_l_law_deed.nd fun d pd σ3 H3 S3 => ?_
    subst pd
    refine sn_ret (EN.mono (en_tup (an_cons (en_ed ed_str) (an_cons (en_ed (ed_var 2)) (an_cons (en_callN (P := answers 6) (i := 0) g_l_law_some hr (fun ds p => by
          obtain ⟨d, r, rfl, ⟨xs, rfl, q⟩, rfl⟩ := p
          exact ⟨xs, rfl, q⟩) (an_cons (en_bin (P := fun d => ∃ xs, d = .list xs ∧ 0 < xs.length ∧ xs.length ≤ 1000 ∧ ∀ d ∈ xs, answers 6 d) op_cat (en_ed (ed_var 3)) (en_lst (an_cons (en_callN (P := answers 6) (i := 0) g_l_law_answers (hr.mono (by decide)) (fun ds p => by subst p; exact ⟨6, rfl, by decide, rfl⟩) (an_ad (ad_cons ed_int ad_nil)) rfl rfl) (an_cons (en_callN (P := answers 6) (i := 0) g_l_law_answers (hr.mono (by decide)) (fun ds p => by subst p; exact ⟨6, rfl, by decide, rfl⟩) (an_ad (ad_cons ed_int ad_nil)) rfl rfl) (an_cons (en_callN (P := answers 6) (i := 0) g_l_law_answers (hr.mono (by decide)) (fun ds p => by subst p; exact ⟨6, rfl, by decide, rfl⟩) (an_ad (ad_cons ed_int ad_nil)) rfl rfl) an_nil))) (fun ds p => by
        obtain ⟨_, _, rfl, _, _, _, rfl, _, _, _, rfl, _, rfl⟩ := p
        exact Nat.le_of_ble_eq_true rfl)) (fun d1 d2 p1 p2 => by
        subst p1
        obtain ⟨_, rfl, e1, _, rfl, q1, e2, _, rfl, q2, e3, _, rfl, q3, rfl⟩ := p2
        refine ⟨_, rd_catL (Nat.le_of_ble_eq_true rfl), _, rfl, by rw [List.length_append]; show 0 < _ + 3; omega, Nat.le_of_ble_eq_true rfl, fun d hd => ?_⟩
        rcases List.mem_append.mp hd with hd | hd
        · obtain ⟨as, ha, rfl⟩ := List.mem_map.mp hd
          exact ⟨as, rfl, some7_ok as ha⟩
        · simp only [List.mem_cons, List.not_mem_nil, or_false] at hd
          rcases hd with rfl | rfl | rfl <;> assumption)) an_nil) rfl rfl) an_nil))) (fun ds p => by
      obtain ⟨_, _, rfl, _, _, _, rfl, _, _, _, rfl, _, rfl⟩ := p
      exact Nat.le_of_ble_eq_true rfl)) fun d p => ?_) S3 k
    obtain ⟨_, rfl, _, _, rfl, rfl, _, _, rfl, rfl, _, _, rfl, ⟨as, rfl, ha⟩, rfl⟩ := p
    exact ⟨.pairs x as, rfl, hx0, hx1, ha⟩
  · have hn := hn rfl
    have hne : ((rangeI 0 n).filter fun y => !decide (y = x)) ≠ [] := fun e => by
      by_cases q : x = 0
      · have : (1 : Int) ∈ (rangeI 0 n).filter fun y => !decide (y = x) := List.mem_filter.mpr ⟨mem_rangeI.mpr (by omega), by simp; omega⟩
        rw [e] at this
        cases this
      · have : (0 : Int) ∈ (rangeI 0 n).filter fun y => !decide (y = x) := List.mem_filter.mpr ⟨mem_rangeI.mpr (by omega), by simp; omega⟩
        rw [e] at this
        cases this
    have hrl := rangeI_len 0 n
    have hle := List.length_filter_le (fun y => !decide (y = x)) (rangeI 0 n)
    refine sn_set 4 (P := fun d => ∃ y, d = .int y ∧ two n x y) (en_callN (i := 0) g_l_law_some hr (PA := fun ds => ds = [.list (((rangeI 0 n).filter fun y => !decide (y = x)).map .int)]) (fun ds p => by
        subst p
        refine ⟨_, rfl, ?_, by rw [List.length_map]; omega, fun d hd => ?_⟩
        · rw [List.length_map]
          exact List.length_pos_iff.mpr hne
        · obtain ⟨y, hy, rfl⟩ := List.mem_map.mp hd
          obtain ⟨h1, h2⟩ := List.mem_filter.mp hy
          have h1 := mem_rangeI.mp h1
          refine ⟨y, rfl, hx0, hx1, h1.1, h1.2, fun e => ?_⟩
          rw [decide_eq_true e.symm] at h2
          cases h2) (an_ad (ad_cons (ed_lc (xs := rangeI 0 n) (enc := PyData.int) (own := [("_law_person", 5)]) (fun y => [.val (.ref c), .dat (.int n), .dat (.int x), .any, .any, .dat (.int y)]) (fun y => !decide (y = x)) PyData.int rfl sc_l_law_deed.nd
        (bk_l_law_deed (by decide +kernel)) (by rw [← rangeD0_eq]; exact id_range1 M.range (ed_var 1) (by omega)) (fun C1 s H C' cl fp y _ => gd_name 5 sc_l_law_deed.nd) (fun C1 s H C' cl fp y _ => tsd_one (td_cmp op_ne rd_neI (ed_var 5) (ed_var 2))) (fun C1 s H C' cl fp y _ _ => ed_var 5) (by rw [hrl]; show _ < 2 ^ 24; omega)) ad_nil)) rfl rfl) S2 sc_l_law_deed.nd fun d pd σ3 H3 S3 => ?_
    obtain ⟨y, rfl, hxy⟩ := pd
    refine sn_if (PB := fun _ => True) (tn_cmp op_gt (en_callN (P := drawn 3) (i := 0) g_l_law_roll (hr.mono (by decide)) (fun ds p => by subst p; exact ⟨_, rfl, by decide, by decide, rfl⟩) (an_ad (ad_cons ed_int ad_nil)) rfl rfl) (en_ed ed_int) (fun d1 d2 p1 p2 => by
      obtain ⟨r, rfl, _⟩ := p1
      subst p2
      exact ⟨_, rd_gt, trivial⟩)) S3 (fun _ H4 S4 => ?_) (fun _ H4 S4 => s_nil ?_)
    · refine sn_set 3 (P := fun d => ∃ xs, d = .list xs ∧ 0 < xs.length ∧ xs.length ≤ 1000 ∧ ∀ d ∈ xs, answers 4 d) (EN.mono (en_lst (an_cons (en_ed (ed_tup (ad_cons ed_int (ad_cons ed_int (ad_cons ed_int (ad_cons ed_int ad_nil)))))) (an_cons (en_ed (ed_tup (ad_cons ed_int (ad_cons ed_int (ad_cons ed_int (ad_cons ed_int ad_nil)))))) (an_cons (en_ed (ed_tup (ad_cons ed_int (ad_cons ed_int (ad_cons ed_int (ad_cons ed_int ad_nil)))))) (an_cons (en_ed (ed_tup (ad_cons ed_int (ad_cons ed_int (ad_cons ed_int (ad_cons ed_int ad_nil)))))) (an_cons (en_ed (ed_tup (ad_cons ed_int (ad_cons ed_int (ad_cons ed_int (ad_cons ed_int ad_nil)))))) (an_cons (en_callN (P := answers 4) (i := 0) g_l_law_answers (hr.mono (by decide)) (fun ds p => by subst p; exact ⟨4, rfl, by decide, rfl⟩) (an_ad (ad_cons ed_int ad_nil)) rfl rfl) (an_cons (en_callN (P := answers 4) (i := 0) g_l_law_answers (hr.mono (by decide)) (fun ds p => by subst p; exact ⟨4, rfl, by decide, rfl⟩) (an_ad (ad_cons ed_int ad_nil)) rfl rfl) an_nil))))))) (fun ds p => by
          obtain ⟨_, _, rfl, _, _, _, rfl, _, _, _, rfl, _, _, _, rfl, _, _, _, rfl, _, _, _, rfl, _, _, _, rfl, _, rfl⟩ := p
          exact Nat.le_of_ble_eq_true rfl)) fun d p => ?_) S4 sc_l_law_deed.nd fun d pd σ5 H5 S5 => ?_
      · obtain ⟨_, rfl, _, _, rfl, q1, _, _, rfl, q2, _, _, rfl, q3, _, _, rfl, q4, _, _, rfl, q5, _, _, rfl, q6, _, _, rfl, q7, rfl⟩ := p
        refine ⟨_, rfl, Nat.le_of_ble_eq_true rfl, Nat.le_of_ble_eq_true rfl, fun d hd => ?_⟩
        simp only [List.mem_cons, List.not_mem_nil, or_false] at hd
        rcases hd with rfl | rfl | rfl | rfl | rfl | rfl | rfl
        · exact ⟨[0, 1, 0, 1], q1, some5_ok _ (by decide)⟩
        · exact ⟨[0, 1, 1, 0], q2, some5_ok _ (by decide)⟩
        · exact ⟨[0, 1, 1, 1], q3, some5_ok _ (by decide)⟩
        · exact ⟨[0, 0, 0, 1], q4, some5_ok _ (by decide)⟩
        · exact ⟨[0, 0, 1, 1], q5, some5_ok _ (by decide)⟩
        · exact q6
        · exact q7
      · obtain ⟨xs, rfl, hxs⟩ := pd
        refine sn_ret (EN.mono (en_tup (an_cons (en_ed ed_str) (an_cons (en_ed (ed_var 2)) (an_cons (en_ed (ed_var 4)) (an_cons (en_callN (P := answers 4) (i := 0) g_l_law_some hr (fun ds p => by subst p; exact ⟨xs, rfl, hxs⟩) (an_ad (ad_cons (ed_var 3) ad_nil)) rfl rfl) an_nil)))) (fun ds p => by
          obtain ⟨_, _, rfl, _, _, _, rfl, _, _, _, rfl, _, _, _, rfl, _, rfl⟩ := p
          exact Nat.le_of_ble_eq_true rfl)) fun d p => ?_) S5 k
        obtain ⟨_, rfl, _, _, rfl, rfl, _, _, rfl, rfl, _, _, rfl, rfl, _, _, rfl, ⟨as, rfl, ha⟩, rfl⟩ := p
        exact ⟨.takes x y as, rfl, hxy, ha⟩
    · refine sn_ret (EN.mono (en_tup (an_cons (en_ed ed_str) (an_cons (en_ed (ed_var 2)) (an_cons (en_ed (ed_var 4)) (an_cons (en_callN (P := fun d => ∃ w : Str, d = .str w ∧ (w = "know" ∨ w = "part" ∨ w = "turn")) (i := 0) g_l_law_some hr (fun ds p => by
          subst p
          refine ⟨_, rfl, by decide, by decide, fun d hd => ?_⟩
          simp only [List.mem_cons, List.not_mem_nil, or_false] at hd
          rcases hd with rfl | rfl | rfl
          · exact ⟨_, rfl, .inl rfl⟩
          · exact ⟨_, rfl, .inr (.inl rfl)⟩
          · exact ⟨_, rfl, .inr (.inr rfl)⟩) (an_ad (ad_cons (ed_lst (ad_cons ed_str (ad_cons ed_str (ad_cons ed_str ad_nil)))) ad_nil)) rfl rfl) an_nil)))) (fun ds p => by
          obtain ⟨_, _, rfl, _, _, _, rfl, _, _, _, rfl, _, _, _, rfl, _, rfl⟩ := p
          exact Nat.le_of_ble_eq_true rfl)) fun d p => ?_) S4 k
      obtain ⟨_, rfl, _, _, rfl, rfl, _, _, rfl, rfl, _, _, rfl, rfl, _, _, rfl, ⟨w, rfl, hw⟩, rfl⟩ := p
      exact ⟨.tie x y w, rfl, hxy, hw⟩
end
end T2

set_option Elab.async false
set_option linter.all false
set_option maxRecDepth 100000
set_option maxHeartbeats 4000000
/-! TbL5: items, scripts, companies drawn. -/
namespace T2
open PySem PySem.Spec PySem.W PyProof.Rows L2
theorem drawn_nat {m : Nat} {d : PyData} (h : drawn ((m : Int) + 1) d) : ∃ n : Nat, d = .int n ∧ n ≤ m := by
  obtain ⟨r, rfl, h1, h2⟩ := h
  exact ⟨r.toNat, by congr 1; omega, by omega⟩
section
variable {P : Program} {w : World} {K : PySem.W.Frag} {mg : Str → Option Value} {base : Heap}
/-! ### items without asks -/
def someDeeds (n : Int) (m : Nat) (d : PyData) : Prop := ∃ l : List Deed, d = .tuple (l.map encDeed) ∧ (∀ e ∈ l, e.ok n) ∧ l.length ≤ m
def rLawItems0 (ds : List PyData) (Pd : PyData → Prop) : Prop := ∃ (n : Int) (m : Nat), ds = [.int n, .int m, .int 0] ∧ 1 ≤ n ∧ n ≤ 3 ∧ m ≤ 10 ∧ Pd = someDeeds n m
abbrev N_l_law_items0 : List Str := ["_law_cup_here", "_law_named", "_law_most", "_law_deep", "_law_found", "_law_turn", "_law_one", "_law_other", "_law_yes", "_law_no", "_law_person"]
abbrev P_l_law_items0 : List Str := ["_law_cup_here", "_law_named", "_law_most", "_law_deep"]
theorem sc_l_law_items0 : FnScope N_l_law_items0 P_l_law_items0 (defScope s_law_items) := ⟨rfl, rfl, rfl, by decide +kernel, rfl, by decide +kernel, by decide +kernel⟩
theorem bk_l_law_items0 {scope : Scope} {own : List (Str × Nat)} (h : blkB N_l_law_items0 (defScope s_law_items) scope own = true) : BlkOk N_l_law_items0 (defScope s_law_items) scope own := blk_of h
abbrev D_l_law_items0 (P : Program) (w : World) (K : PySem.W.Frag) (mg : Str → Option Value) (base : Heap) : Prop := Dfn P w K mg base "_law_items" P_l_law_items0 4 (spN rLawItems0)
theorem ok_l_law_items0 (M : Mg K mg) (T : At K mg "_law_items" s_law_items) (g_l_law_roll : D_l_law_roll P w K mg base) (g_l_law_deed : D_l_law_deed P w K mg base) : D_l_law_items0 P w K mg base := by
  refine dfn_ofN T sc_l_law_items0 (fun _ _ _ _ _ _ us hl => match us, hl with | [_, _, _, _], _ => rfl) (fun ds d h => by obtain ⟨_, _, rfl, _⟩ := h; rfl) ?_
  intro f cdv A outer s H E hr c ds Pd σ h hE hk Q k
  obtain ⟨n, m, rfl, h1, h3, hm, rfl⟩ := h
  refine sn_set 4 (en_ed (d := .tuple (([] : List Deed).map encDeed)) (ed_tup ad_nil)) ⟨SameB.refl _, hk, hE⟩ sc_l_law_items0.nd fun d pd σ1 H1 S1 => ?_
  subst pd
  let G : List Deed → List Sd := fun l => [.val (.ref c), .dat (.int n), .dat (.int m), .dat (.int 0), .dat (.tuple (l.map encDeed)), .any, .any, .any, .any, .any, .any]
  refine sn_forR (ws := [5]) (fun t => t ≤ m) (fun t i Γ => ∃ l : List Deed, Γ = G l ∧ (∀ e ∈ l, e.ok n) ∧ l.length ≤ i ∧ t ≤ m) (fun Γ d => Γ.set 5 (.dat d)) PassesOwn.never rfl M.range (EN.mono (en_callN (P := drawn ((m : Int) + 1)) (i := 0) g_l_law_roll (hr.mono (by decide)) (fun ds p => by subst p; exact ⟨_, rfl, by omega, by omega, rfl⟩) (an_ad (ad_cons (ed_add (ed_var 2) ed_int) ad_nil)) rfl rfl) fun d p => drawn_nat p)
    (fun t ht => by omega) S1 (fun t ht => ⟨[], rfl, (fun e h => by cases h), Nat.le_refl _, ht⟩) (fun t i d Γ hΓ hi => by
      obtain ⟨l, rfl, _⟩ := hΓ
      exact gd_name 5 sc_l_law_items0.nd) (fun t ht i d Γ hΓ hi Hb sb σ2 H2 D' S2 hrt hnx => ?_) (fun t ht Γ σ2 H2 hΓ S2 => ?_)
  · obtain ⟨l, rfl, hl, hli, _⟩ := hΓ
    refine sn_if (PB := fun b => b = false) (tn_td (td_w (wd_and (k1 := decide (1 < n)) (k2 := false) (td_cmp op_gt rd_gt (ed_var 1) ed_int) fun _ => wd_and (k1 := false) (k2 := false) (TD.is (td_cmp op_gt rd_gt (ed_var 3) ed_int) (by decide)) fun q => nomatch q)) |> fun h => show TN _ c _ _ (fun b => b = false) from fun σ H hE hk Q k => h σ H hE hk Q fun b H' s1 k1 p => k b H' s1 k1 (by rw [p, Bool.and_false])) S2 (fun q => nomatch q) (fun _ H3 S3 => ?_)
    refine sn_set 4 (P := fun d => ∃ l' : List Deed, d = .tuple (l'.map encDeed) ∧ (∀ e ∈ l', e.ok n) ∧ l'.length ≤ i + 1) (en_bin op_catA (en_ed (ed_var 4)) (en_tup (an_cons (en_callN (P := aDeed n) (i := 0) g_l_law_deed hr (fun ds p => by subst p; exact ⟨n, rfl, h1, h3, rfl⟩) (an_ad (ad_cons (ed_var 1) ad_nil)) rfl rfl) an_nil) (fun ds p => by
        obtain ⟨_, _, rfl, _, rfl⟩ := p
        exact Nat.le_of_ble_eq_true rfl)) (fun d1 d2 p1 p2 => by
        subst p1
        obtain ⟨_, rfl, _, _, rfl, ⟨e, rfl, he⟩, rfl⟩ := p2
        refine ⟨_, rd_catT (by rw [List.length_map]; show _ + 1 ≤ 2 ^ 24; omega), l ++ [e], by rw [List.map_append]; rfl, fun e' h' => ?_, by rw [List.length_append]; show _ + 1 ≤ _; omega⟩
        rcases List.mem_append.mp h' with h' | h'
        · exact hl e' h'
        · rcases List.mem_singleton.mp h' with rfl
          exact he)) S3 sc_l_law_items0.nd fun d pd σ4 H4 S4 => ?_
    obtain ⟨l', rfl, hl', hle'⟩ := pd
    exact s_nil (s_nil (hnx _ _ (G l') ⟨l', rfl, hl', hle', ht⟩ (S4.forget 5)))
  · obtain ⟨l, rfl, hl, hli, _⟩ := hΓ
    exact sn_ret (en_is (ed_var 4) ⟨l, rfl, hl, by omega⟩) S2 k
/-! ### items -/
def someItems (n : Int) (m : Nat) (d : PyData) : Prop := ∃ s : List Item, d = encS s ∧ (∀ i ∈ s, i.ok n) ∧ cntS s ≤ m
theorem len_cnt : ∀ l : List Item, l.length ≤ cntS l
  | [] => Nat.le_refl _
  | a :: l => by
    have ih := len_cnt l
    rw [cntS_cons, List.length_cons]
    have : 1 ≤ a.cnt := by cases a <;> simp [Item.cnt] <;> omega
    omega
def rLawItems (ds : List PyData) (Pd : PyData → Prop) : Prop := ∃ (n : Int), ds = [.int n, .int 2, .int 1] ∧ 1 ≤ n ∧ n ≤ 3 ∧ Pd = someItems n 6
abbrev N_l_law_items : List Str := ["_law_cup_here", "_law_named", "_law_most", "_law_deep", "_law_found", "_law_turn", "_law_one", "_law_other", "_law_yes", "_law_no", "_law_person"]
abbrev P_l_law_items : List Str := ["_law_cup_here", "_law_named", "_law_most", "_law_deep"]
theorem sc_l_law_items : FnScope N_l_law_items P_l_law_items (defScope s_law_items) := ⟨rfl, rfl, rfl, by decide +kernel, rfl, by decide +kernel, by decide +kernel⟩
theorem bk_l_law_items {scope : Scope} {own : List (Str × Nat)} (h : blkB N_l_law_items (defScope s_law_items) scope own = true) : BlkOk N_l_law_items (defScope s_law_items) scope own := blk_of h
abbrev D_l_law_items (P : Program) (w : World) (K : PySem.W.Frag) (mg : Str → Option Value) (base : Heap) : Prop := Dfn P w K mg base "_law_items" P_l_law_items 5 (spN rLawItems)
theorem ok_l_law_items (M : Mg K mg) (T : At K mg "_law_items" s_law_items) (g_l_law_roll : D_l_law_roll P w K mg base) (g_l_law_some : D_l_law_some P w K mg base) (g_l_law_deed : D_l_law_deed P w K mg base) (g_l_law_items0 : D_l_law_items0 P w K mg base) : D_l_law_items P w K mg base := by
  refine dfn_ofN T sc_l_law_items (fun _ _ _ _ _ _ us hl => match us, hl with | [_, _, _, _], _ => rfl) (fun ds d h => by obtain ⟨_, rfl, _⟩ := h; rfl) ?_
  intro f cdv A outer s H E hr c ds Pd σ h hE hk Q k
  obtain ⟨n, rfl, h1, h3, rfl⟩ := h
  refine sn_set 4 (en_ed (d := encS []) (ed_tup ad_nil)) ⟨SameB.refl _, hk, hE⟩ sc_l_law_items.nd fun d pd σ1 H1 S1 => ?_
  subst pd
  let G : List Item → List Sd := fun l => [.val (.ref c), .dat (.int n), .dat (.int 2), .dat (.int 1), .dat (encS l), .any, .any, .any, .any, .any, .any]
  have wk : ∀ {Hb H' : Hp} {σ' : L2.St} {l : List Item} {Γ : List Sd}, SnC c Hb H' σ' Γ → Γ.length = 11 → (∀ i, i < 5 → Γ[i]? = (G l)[i]?) → SnC c Hb H' σ' (G l) := fun {Hb H' σ' l Γ} S hl h => S.weak (by rw [hl]; rfl) fun i s e => by
    by_cases hi : i < 5
    · rw [h i hi]; exact .inr e
    · match i, hi, e with
      | 5, _, e => cases e; exact .inl rfl
      | 6, _, e => cases e; exact .inl rfl
      | 7, _, e => cases e; exact .inl rfl
      | 8, _, e => cases e; exact .inl rfl
      | 9, _, e => cases e; exact .inl rfl
      | 10, _, e => cases e; exact .inl rfl
      | i + 11, _, e => cases e
  refine sn_forR (ws := [5]) (fun t => t ≤ 2) (fun t i Γ => ∃ l : List Item, Γ = G l ∧ (∀ e ∈ l, e.ok n) ∧ cntS l ≤ 3 * i) (fun Γ d => Γ.set 5 (.dat d)) PassesOwn.never rfl M.range (EN.mono (en_callN (P := drawn 3) (i := 0) g_l_law_roll (hr.mono (by decide)) (fun ds p => by subst p; exact ⟨3, rfl, by decide, by decide, rfl⟩) (an_ad (ds := [.int 3]) (ad_cons (ED.is (ed_add (i := 2) (ed_var 2) ed_int) rfl) ad_nil)) rfl rfl) fun d p => drawn_nat (m := 2) p)
    (fun t ht => by omega) S1 (fun t ht => ⟨[], rfl, (fun e h => by cases h), Nat.le_refl _⟩) (fun t i d Γ hΓ hi => by
      obtain ⟨l, rfl, _⟩ := hΓ
      exact gd_name 5 sc_l_law_items.nd) (fun t ht i d Γ hΓ hi Hb sb σ2 H2 D' S2 hrt hnx => ?_) (fun t ht Γ σ2 H2 hΓ S2 => ?_)
  · obtain ⟨l, rfl, hl, hli⟩ := hΓ
    have hll := len_cnt l
    refine sn_if (PB := fun b => b = true → 1 < n) (tn_w (wn_and (tn_td (td_cmp op_gt rd_gt (ed_var 1) ed_int)) (fun _ => wn_and (Pb := fun _ => True) (PB := fun _ => True) (tn_td (td_cmp op_gt rd_gt (ed_var 3) ed_int)) (fun _ => wn_and1 (PB := fun _ => True) (tn_cmp op_eq (en_callN (P := drawn 4) (i := 0) g_l_law_roll (hr.mono (by decide)) (fun ds p => by subst p; exact ⟨_, rfl, by decide, by decide, rfl⟩) (an_ad (ad_cons ed_int ad_nil)) rfl rfl) (en_ed ed_int) (fun d1 d2 p1 p2 => by
        obtain ⟨r, rfl, _⟩ := p1
        subst p2
        exact ⟨_, rd_eqI, trivial⟩))) (fun _ => trivial) (fun _ _ _ => trivial)) (fun _ q => nomatch q) (fun b hb _ _ => of_decide_eq_true hb.symm))) S2 (fun hn H3 S3 => ?_) (fun _ H3 S3 => ?_)
    · have hn := hn rfl
      refine sn_set 6 (en_callN (P := drawn n) (i := 0) g_l_law_roll (hr.mono (by decide)) (fun ds p => by subst p; exact ⟨_, rfl, by omega, by omega, rfl⟩) (an_ad (ad_cons (ed_var 1) ad_nil)) rfl rfl) S3 sc_l_law_items.nd fun d pd σ4 H4 S4 => ?_
      obtain ⟨x, rfl, hx0, hx1⟩ := pd
      have hne : ((rangeI 0 n).filter fun y => !decide (y = x)) ≠ [] := fun e => by
        by_cases q : x = 0
        · have : (1 : Int) ∈ (rangeI 0 n).filter fun y => !decide (y = x) := List.mem_filter.mpr ⟨mem_rangeI.mpr (by omega), by simp; omega⟩
          rw [e] at this
          cases this
        · have : (0 : Int) ∈ (rangeI 0 n).filter fun y => !decide (y = x) := List.mem_filter.mpr ⟨mem_rangeI.mpr (by omega), by simp; omega⟩
          rw [e] at this
          cases this
      have hrl := rangeI_len 0 n
      have hle := List.length_filter_le (fun y => !decide (y = x)) (rangeI 0 n)
      refine sn_set 7 (P := fun d => ∃ y, d = .int y ∧ two n x y) (en_callN (i := 0) g_l_law_some (hr.mono (by decide)) (PA := fun ds => ds = [.list (((rangeI 0 n).filter fun y => !decide (y = x)).map .int)]) (fun ds p => by
          subst p
          refine ⟨_, rfl, ?_, by rw [List.length_map]; omega, fun d hd => ?_⟩
          · rw [List.length_map]
            exact List.length_pos_iff.mpr hne
          · obtain ⟨y, hy, rfl⟩ := List.mem_map.mp hd
            obtain ⟨h1, h2⟩ := List.mem_filter.mp hy
            have h1 := mem_rangeI.mp h1
            refine ⟨y, rfl, hx0, hx1, h1.1, h1.2, fun e => ?_⟩
            rw [decide_eq_true e.symm] at h2
            cases h2) (an_ad (ad_cons (ed_lc (xs := rangeI 0 n) (enc := PyData.int) (own := [("_law_person", 10)]) (fun y => [.val (.ref c), .dat (.int n), .dat (.int 2), .dat (.int 1), .dat (encS l), .dat d, .dat (.int x), .any, .any, .any, .dat (.int y)]) (fun y => !decide (y = x)) PyData.int rfl sc_l_law_items.nd
          (bk_l_law_items (by decide +kernel)) (by rw [← rangeD0_eq]; exact id_range1 M.range (ed_var 1) (by omega)) (fun C1 s H C' cl fp y _ => gd_name 10 sc_l_law_items.nd) (fun C1 s H C' cl fp y _ => tsd_one (td_cmp op_ne rd_neI (ed_var 10) (ed_var 6))) (fun C1 s H C' cl fp y _ _ => ed_var 10) (by rw [hrl]; show _ < 2 ^ 24; omega)) ad_nil)) rfl rfl) S4 sc_l_law_items.nd fun d' pd σ5 H5 S5 => ?_
      obtain ⟨y, rfl, hxy⟩ := pd
      have inner : ∀ {Γ : List Sd}, Γ[0]? = some (.val (.ref c)) → Γ[1]? = some (.dat (.int n)) → Γ[2]? = some (.dat (.int 2)) → Γ[3]? = some (.dat (.int 1)) → True := fun _ _ _ _ => trivial
      refine sn_par 8 9 rfl (an_cons (en_callN (P := someDeeds n 1) (i := 0) g_l_law_items0 hr (fun ds p => by subst p; exact ⟨n, 1, rfl, h1, h3, by decide, rfl⟩) (an_ad (ds := [.int n, .int ((1 : Nat) : Int), .int 0]) (ad_cons (ed_var 1) (ad_cons (ED.is (ed_fdiv (i := 2) (j := 2) (ed_var 2) ed_int ⟨by decide, by decide⟩) rfl) (ad_cons (ED.is (ed_subI (i := 1) (j := 1) (ed_var 3) ed_int) rfl) ad_nil)))) rfl rfl)
        (an_cons (en_callN (P := someDeeds n 1) (i := 0) g_l_law_items0 hr (fun ds p => by subst p; exact ⟨n, 1, rfl, h1, h3, by decide, rfl⟩) (an_ad (ds := [.int n, .int ((1 : Nat) : Int), .int 0]) (ad_cons (ed_var 1) (ad_cons (ED.is (ed_fdiv (i := 2) (j := 2) (ed_var 2) ed_int ⟨by decide, by decide⟩) rfl) (ad_cons (ED.is (ed_subI (i := 1) (j := 1) (ed_var 3) ed_int) rfl) ad_nil)))) rfl rfl) an_nil)) (fun ds p => by
          obtain ⟨_, _, rfl, _, _, _, rfl, _, rfl⟩ := p
          rfl) S5 sc_l_law_items.nd (fun d1 d2 p σ6 H6 S6 => ?_) rfl
      obtain ⟨_, _, e1, ⟨yes, rfl, hy1, hy2⟩, _, _, rfl, ⟨no, rfl, hn1, hn2⟩, rfl⟩ := p
      injection e1 with e1 e2
      injection e2 with e2 _
      subst e1 e2
      have hcnt : cntS (l ++ [.ask x y yes no]) = cntS l + (1 + yes.length + no.length) := by rw [cntS_append]; rfl
      refine s_set 4 (d := encS (l ++ [.ask x y yes no])) (ED.is (ed_catT (ds := l.map encItem) (ed_var 4) (ed_tup (ad_cons (ed_tup (ad_cons ed_str (ad_cons (ed_var 6) (ad_cons (ed_var 7) (ad_cons (ed_var 8) (ad_cons (ed_var 9) ad_nil)))))) ad_nil)) (by rw [List.length_map]; show _ + 1 ≤ 2 ^ 24; omega)) (by unfold encS; rw [List.map_append]; rfl)) (⟨Same.refl _, S6.en⟩ : Sn (Cc c) H6 H6 _ _) sc_l_law_items.nd fun σ7 H7 S7 => ?_
      refine s_nil (s_nil (hnx _ _ (G (l ++ [.ask x y yes no])) ⟨_, rfl, fun e he => ?_, by omega⟩ (wk (S6.next (toB S7.sm) (S6.cup.same S7.sm) S7.en) rfl fun i hi => ?_)))
      · rcases List.mem_append.mp he with he | he
        · exact hl e he
        · rcases List.mem_singleton.mp he with rfl
          exact ⟨hxy, hy1, hn1⟩
      · match i, hi with
        | 0, _ => rfl
        | 1, _ => rfl
        | 2, _ => rfl
        | 3, _ => rfl
        | 4, _ => rfl
    · refine sn_set 4 (P := fun d => ∃ l' : List Item, d = encS l' ∧ (∀ e ∈ l', e.ok n) ∧ cntS l' ≤ 3 * (i + 1)) (en_bin op_catA (en_ed (d := .tuple (l.map encItem)) (ed_var 4)) (en_tup (an_cons (en_callN (P := aDeed n) (i := 0) g_l_law_deed (hr.mono (by decide)) (fun ds p => by subst p; exact ⟨n, rfl, h1, h3, rfl⟩) (an_ad (ad_cons (ed_var 1) ad_nil)) rfl rfl) an_nil) (fun ds p => by
          obtain ⟨_, _, rfl, _, rfl⟩ := p
          exact Nat.le_of_ble_eq_true rfl)) (fun d1 d2 p1 p2 => by
          subst p1
          obtain ⟨_, rfl, _, _, rfl, ⟨e, rfl, he⟩, rfl⟩ := p2
          have hcnt : cntS (l ++ [.deed e]) = cntS l + 1 := by rw [cntS_append]; rfl
          refine ⟨_, rd_catT (by rw [List.length_map]; show _ + 1 ≤ 2 ^ 24; omega), l ++ [.deed e], by unfold encS; rw [List.map_append]; rfl, fun e' h' => ?_, by omega⟩
          rcases List.mem_append.mp h' with h' | h'
          · exact hl e' h'
          · rcases List.mem_singleton.mp h' with rfl
            exact he)) S3 sc_l_law_items.nd fun d pd σ4 H4 S4 => ?_
      obtain ⟨l', rfl, hl', hle'⟩ := pd
      exact s_nil (s_nil (hnx _ _ (G l') ⟨l', rfl, hl', hle'⟩ (S4.forget 5)))
  · obtain ⟨l, rfl, hl, hli⟩ := hΓ
    exact sn_ret (en_is (ed_var 4) ⟨l, rfl, hl, by omega⟩) S2 k
/-! ### a script, a company -/
def rLawScript (ds : List PyData) (Pd : PyData → Prop) : Prop := ∃ (n : Int), ds = [.int n, .int 2, .int 1] ∧ 1 ≤ n ∧ n ≤ 3 ∧ Pd = someItems n 6
abbrev N_l_law_script : List Str := ["_law_cup_here", "_law_named", "_law_most", "_law_deep", "_law_found"]
abbrev P_l_law_script : List Str := ["_law_cup_here", "_law_named", "_law_most", "_law_deep"]
theorem sc_l_law_script : FnScope N_l_law_script P_l_law_script (defScope s_law_script) := ⟨rfl, rfl, rfl, by decide +kernel, rfl, by decide +kernel, by decide +kernel⟩
theorem bk_l_law_script {scope : Scope} {own : List (Str × Nat)} (h : blkB N_l_law_script (defScope s_law_script) scope own = true) : BlkOk N_l_law_script (defScope s_law_script) scope own := blk_of h
abbrev D_l_law_script (P : Program) (w : World) (K : PySem.W.Frag) (mg : Str → Option Value) (base : Heap) : Prop := Dfn P w K mg base "_law_script" P_l_law_script 6 (spN rLawScript)
theorem ok_l_law_script (M : Mg K mg) (T : At K mg "_law_script" s_law_script) (g_l_law_items : D_l_law_items P w K mg base) (g_l_law_count : D_l_law_count P w K mg base) : D_l_law_script P w K mg base := by
  refine dfn_ofN T sc_l_law_script (fun _ _ _ _ _ _ us hl => match us, hl with | [_, _, _, _], _ => rfl) (fun ds d h => by obtain ⟨_, rfl, _⟩ := h; rfl) ?_
  intro f cdv A outer s H E hr c ds Pd σ h hE hk Q k
  obtain ⟨n, rfl, h1, h3, rfl⟩ := h
  refine sn_set 4 (en_callN (P := someItems n 6) (i := 0) g_l_law_items hr (fun ds p => by subst p; exact ⟨n, rfl, h1, h3, rfl⟩) (an_ad (ad_cons (ed_var 1) (ad_cons (ed_var 2) (ad_cons (ed_var 3) ad_nil)))) rfl rfl) ⟨SameB.refl _, hk, hE⟩ sc_l_law_script.nd fun d pd σ1 H1 S1 => ?_
  obtain ⟨s, rfl, hs, hc⟩ := pd
  refine s_while 0 (fun _ => [.val (.ref c), .dat (.int n), .dat (.int 2), .dat (.int 1), .dat (encS s)]) PassesOwn.never (⟨Same.refl _, S1.en⟩ : Sn (Cc c) H1 H1 _ _) (fun i hi => absurd hi (Nat.not_lt_zero _)) (TD.is (td_cmp op_gt rd_gt (ed_call g_l_law_count (hr.mono (by decide)) ⟨s, rfl, rfl⟩ (ad_cons (ed_var 4) ad_nil)) ed_int) (decide_eq_false (by omega))) (fun i hi => absurd hi (Nat.not_lt_zero _)) fun σ2 H2 S2 => ?_
  exact sn_ret (en_is (ed_var 4) ⟨s, rfl, hs, hc⟩) (S1.next (toB S2.sm) (S1.cup.same S2.sm) S2.en) k
def aCompany (n : Int) (d : PyData) : Prop := ∃ cc : Cmp, d = encC cc ∧ canon cc ∧ n ≤ cc.1 ∧ cc.1 ≤ n + 3
def rLawCompany (ds : List PyData) (Pd : PyData → Prop) : Prop := ∃ (n : Int), ds = [.int n, .int 0, .int 3] ∧ 1 ≤ n ∧ n ≤ 3 ∧ Pd = aCompany n
abbrev N_l_law_company : List Str := ["_law_cup_here", "_law_named", "_law_least", "_law_most", "_law_people", "_law_way", "_law_pair"]
abbrev P_l_law_company : List Str := ["_law_cup_here", "_law_named", "_law_least", "_law_most"]
theorem sc_l_law_company : FnScope N_l_law_company P_l_law_company (defScope s_law_company) := ⟨rfl, rfl, rfl, by decide +kernel, rfl, by decide +kernel, by decide +kernel⟩
theorem bk_l_law_company {scope : Scope} {own : List (Str × Nat)} (h : blkB N_l_law_company (defScope s_law_company) scope own = true) : BlkOk N_l_law_company (defScope s_law_company) scope own := blk_of h
abbrev D_l_law_company (P : Program) (w : World) (K : PySem.W.Frag) (mg : Str → Option Value) (base : Heap) : Prop := Dfn P w K mg base "_law_company" P_l_law_company 2 (spN rLawCompany)
theorem ok_l_law_company (M : Mg K mg) (T : At K mg "_law_company" s_law_company) (g_l_law_roll : D_l_law_roll P w K mg base) (g_l_law_pairs : D_l_law_pairs P w K mg base) : D_l_law_company P w K mg base := by
  refine dfn_ofN T sc_l_law_company (fun _ _ _ _ _ _ us hl => match us, hl with | [_, _, _, _], _ => rfl) (fun ds d h => by obtain ⟨_, rfl, _⟩ := h; rfl) ?_
  intro f cdv A outer s H E hr c ds Pd σ h hE hk Q k
  obtain ⟨n, rfl, h1, h3, rfl⟩ := h
  refine sn_par 4 5 rfl (an_cons (en_bin (P := fun d => ∃ p : Int, d = .int p ∧ n ≤ p ∧ p ≤ n + 3) op_add (en_ed (ed_add (ed_var 1) (ed_var 2))) (en_callN (P := drawn 4) (i := 0) g_l_law_roll hr (fun ds p => by subst p; exact ⟨4, rfl, by decide, by decide, rfl⟩) (an_ad (ds := [.int 4]) (ad_cons (ED.is (ed_add (i := 3) (ed_subI (i := 3) (j := 0) (ed_var 3) (ed_var 2)) ed_int) rfl) ad_nil)) rfl rfl) (fun d1 d2 p1 p2 => by
      subst p1
      obtain ⟨r, rfl, hr0, hr1⟩ := p2
      exact ⟨_, rd_addI, _, rfl, by omega, by omega⟩)) (an_cons (en_callN (P := drawn 8) (i := 0) g_l_law_roll hr (fun ds p => by subst p; exact ⟨_, rfl, by decide, by decide, rfl⟩) (an_ad (ad_cons ed_int ad_nil)) rfl rfl) an_nil)) (fun ds p => by
      obtain ⟨_, _, rfl, _, _, _, rfl, _, rfl⟩ := p
      rfl) ⟨SameB.refl _, hk, hE⟩ sc_l_law_company.nd (fun d1 d2 p σ1 H1 S1 => ?_) rfl
  obtain ⟨_, _, e1, ⟨q, rfl, hq1, hq2⟩, _, _, rfl, ⟨y, rfl, hy1, hy2⟩, rfl⟩ := p
  injection e1 with e1 e2
  injection e2 with e2 _
  subst e1 e2
  have hl := pairs_len (n := q) (by omega) (by omega)
  refine sn_if (PB := fun b => b = decide (y < 2)) (tn_td (td_cmp op_lt rd_lt (ed_var 5) ed_int)) S1 (fun _ H2 S2 => ?_) (fun _ H2 S2 => s_nil ?_)
  · by_cases hy : y = 0
    · refine sn_ret (en_is (d := encC (q, pairs q)) (ed_tup (ad_cons (ed_var 4) (ad_cons (ed_if (td_cmp op_eq rd_eqI (ed_var 5) ed_int) (fun _ => ed_tupL M.tuple (ed_call g_l_law_pairs hr ⟨q, rfl, by omega, by omega, rfl⟩ (ad_cons (ed_var 4) ad_nil))) (fun z => absurd hy (of_decide_eq_false z))) ad_nil))) ⟨(q, pairs q), rfl, List.Sublist.refl _, hq1, hq2⟩) S2 k
    · refine sn_ret (en_is (d := encC (q, [])) (ed_tup (ad_cons (ed_var 4) (ad_cons (ed_if (td_cmp op_eq rd_eqI (ed_var 5) ed_int) (fun z => absurd (of_decide_eq_true z) hy) (fun _ => ed_tup ad_nil)) ad_nil))) ⟨(q, []), rfl, List.nil_sublist _, hq1, hq2⟩) S2 k
  · refine sn_ret (EN.mono (en_tup (an_cons (en_ed (ed_var 4)) (an_cons (en_tupL M.tuple (en_lc (xs := pairs q) (enc := encP) (own := [("_law_pair", 6)]) (fun p => [.val (.ref c), .dat (.int n), .dat (.int 0), .dat (.int 3), .dat (.int q), .dat (.int y), .dat (encP p)]) (fun _ _ => True) (fun p d => d = encP p) rfl sc_l_law_company.nd
        (bk_l_law_company (by decide +kernel)) (id_list (ed_call g_l_law_pairs hr ⟨q, rfl, by omega, by omega, rfl⟩ (ad_cons (ed_var 4) ad_nil))) (fun s H C' cl fp y _ C1 => gd_name 6 sc_l_law_company.nd)
        (fun s H C' cl fp y _ => tsn_one (tn_cmp op_eq (en_callN (P := drawn 2) (i := 0) g_l_law_roll hr (fun ds p => by subst p; exact ⟨_, rfl, by decide, by decide, rfl⟩) (an_ad (ad_cons ed_int ad_nil)) rfl rfl) (en_ed ed_int) (fun d1 d2 p1 p2 => by
          obtain ⟨r, rfl, _⟩ := p1
          subst p2
          exact ⟨_, rd_eqI, trivial⟩)))
        (fun s H C' cl fp y _ _ C1 => el_ed (ed_var 6) rfl) (by show _ < 2 ^ 24; omega))) an_nil)) (fun ds p => by
        obtain ⟨_, _, rfl, _, _, _, rfl, _, rfl⟩ := p
        exact Nat.le_of_ble_eq_true rfl)) fun d p => ?_) S2 k
    obtain ⟨_, rfl, _, _, rfl, rfl, _, _, rfl, ⟨ds, rfl, hp⟩, rfl⟩ := p
    obtain ⟨l, rfl, hls, _⟩ := picks_sub (ok' := fun _ => True) (fun _ _ => trivial) hp
    exact ⟨(q, l), rfl, hls, hq1, hq2⟩
end
end T2

set_option Elab.async false
set_option linter.all false
set_option maxRecDepth 100000
set_option maxHeartbeats 4000000
/-! TbL6: scripts drawn, a draw's law. -/
namespace T2
open PySem PySem.Spec PySem.W PyProof.Rows L2
theorem ed_neg {X : Cx} {C : Addr → Prop} {Γ : List Sd} {a : Expr} {i : Int} {pos : Pos} (ha : ED X C a Γ (.int i)) : ED X C (.UnaryOp .USub a pos) Γ (.int (-i)) := fun σ H hE Q k => ⟨_, pe_un un_neg WE.p, ha σ H hE _ fun v H1 s1 r1 => by
  cases r1
  exact ⟨_, rfl, k _ H1 s1 (.int _)⟩⟩
theorem atI_last {xs : List PyData} {d : PyData} : atI (xs ++ [d]) (-1) = some d := by
  unfold atI ixN
  rw [if_neg (by omega), if_pos (by rw [List.length_append, List.length_singleton]; omega)]
  have : (-1 + ((xs ++ [d]).length : Int)).toNat = xs.length := by rw [List.length_append, List.length_singleton]; omega
  rw [this]
  show (xs ++ [d])[xs.length]? = some d
  rw [List.getElem?_append_right (Nat.le_refl _), Nat.sub_self]
  rfl
section
variable {P : Program} {w : World} {K : PySem.W.Frag} {mg : Str → Option Value} {base : Heap}
def someScripts (n : Int) (d : PyData) : Prop := ∃ ss, d = .tuple (ss.map encS) ∧ okSs n ss
def rLawScripts (ds : List PyData) (Pd : PyData → Prop) : Prop := ∃ (n : Int), ds = [.int n] ∧ 1 ≤ n ∧ n ≤ 3 ∧ Pd = someScripts n
abbrev N_l_law_scripts : List Str := ["_law_cup_here", "_law_named", "_law_found", "_law_turn", "_law_way", "_law_last", "_law_fresh"]
abbrev P_l_law_scripts : List Str := ["_law_cup_here", "_law_named"]
theorem sc_l_law_scripts : FnScope N_l_law_scripts P_l_law_scripts (defScope s_law_scripts) := ⟨rfl, rfl, rfl, by decide +kernel, rfl, by decide +kernel, by decide +kernel⟩
theorem bk_l_law_scripts {scope : Scope} {own : List (Str × Nat)} (h : blkB N_l_law_scripts (defScope s_law_scripts) scope own = true) : BlkOk N_l_law_scripts (defScope s_law_scripts) scope own := blk_of h
abbrev D_l_law_scripts (P : Program) (w : World) (K : PySem.W.Frag) (mg : Str → Option Value) (base : Heap) : Prop := Dfn P w K mg base "_law_scripts" P_l_law_scripts 7 (spN rLawScripts)
theorem ok_l_law_scripts (M : Mg K mg) (T : At K mg "_law_scripts" s_law_scripts) (g_l_law_roll : D_l_law_roll P w K mg base) (g_l_law_script : D_l_law_script P w K mg base) (g_l_law_count : D_l_law_count P w K mg base) : D_l_law_scripts P w K mg base := by
  refine dfn_ofN T sc_l_law_scripts (fun _ _ _ _ _ _ us hl => match us, hl with | [_, _], _ => rfl) (fun ds d h => by obtain ⟨_, rfl, _⟩ := h; rfl) ?_
  intro f cdv A outer s H E hr c ds Pd σ h hE hk Q k
  obtain ⟨n, rfl, h1, h3, rfl⟩ := h
  let G : List (List Item) → List Sd := fun ss => [.val (.ref c), .dat (.int n), .dat (.tuple (ss.map encS)), .any, .any, .any, .any]
  refine sn_set 2 (P := fun d => ∃ s, d = .tuple ([s].map encS) ∧ okS n s) (EN.mono (en_tup (an_cons (en_callN (P := someItems n 6) (i := 0) g_l_law_script hr (fun ds p => by subst p; exact ⟨n, rfl, h1, h3, rfl⟩) (an_ad (ad_cons (ed_var 1) (ad_cons ed_int (ad_cons ed_int ad_nil)))) rfl rfl) an_nil) (fun ds p => by
      obtain ⟨_, _, rfl, _, rfl⟩ := p
      exact Nat.le_of_ble_eq_true rfl)) fun d p => by
        obtain ⟨_, rfl, _, _, rfl, ⟨s, rfl, hs, hc⟩, rfl⟩ := p
        exact ⟨s, rfl, hs, by omega⟩) ⟨SameB.refl _, hk, hE⟩ sc_l_law_scripts.nd fun d pd σ1 H1 S1 => ?_
  obtain ⟨s0, rfl, hs0⟩ := pd
  refine sn_forR (ws := [3]) (fun t => t = 1 ∨ t = 2) (fun t i Γ => ∃ ss : List (List Item), Γ = G ss ∧ (∀ s ∈ ss, okS n s) ∧ ss.length = i + 1) (fun Γ d => Γ.set 3 (.dat d)) PassesOwn.never rfl M.range (en_bin op_add (en_ed ed_int) (en_callN (P := drawn 2) (i := 0) g_l_law_roll (hr.mono (by decide)) (fun ds p => by subst p; exact ⟨_, rfl, by decide, by decide, rfl⟩) (an_ad (ad_cons ed_int ad_nil)) rfl rfl) (fun d1 d2 p1 p2 => by
      subst p1
      obtain ⟨r, rfl, hr0, hr1⟩ := p2
      have : r = 0 ∨ r = 1 := by omega
      rcases this with rfl | rfl
      · exact ⟨.int 1, rd_addI, 1, rfl, .inl rfl⟩
      · exact ⟨.int 2, rd_addI, 2, rfl, .inr rfl⟩))
    (fun t ht => by omega) S1 (fun t ht => ⟨[s0], rfl, fun s h => by rcases List.mem_singleton.mp h with rfl; exact hs0, rfl⟩) (fun t i d Γ hΓ hi => by
      obtain ⟨l, rfl, _⟩ := hΓ
      exact gd_name 3 sc_l_law_scripts.nd) (fun t ht i d Γ hΓ hi Hb sb σ2 H2 D' S2 hrt hnx => ?_) (fun t ht Γ σ2 H2 hΓ S2 => ?_)
  · obtain ⟨ss, rfl, hss, hl⟩ := hΓ
    have hne : ss ≠ [] := fun e => by rw [e] at hl; simp at hl
    obtain ⟨init, last, rfl⟩ : ∃ init last, ss = init ++ [last] := ⟨ss.dropLast, ss.getLast hne, (List.dropLast_concat_getLast hne).symm⟩
    have hla := hss last (List.mem_append_right _ List.mem_cons_self)
    refine sn_par 4 5 rfl (an_cons (en_callN (P := drawn 4) (i := 0) g_l_law_roll (hr.mono (by decide)) (fun ds p => by subst p; exact ⟨_, rfl, by decide, by decide, rfl⟩) (an_ad (ad_cons ed_int ad_nil)) rfl rfl) (an_cons (en_ed (d := encS last) (ed_ixT (ds := (init ++ [last]).map encS) (ed_var 2) (ed_neg ed_int) (by rw [List.map_append]; exact atI_last))) an_nil)) (fun ds p => by
        obtain ⟨_, _, rfl, _, _, _, rfl, _, rfl⟩ := p
        rfl) S2 sc_l_law_scripts.nd (fun d1 d2 p σ3 H3 S3 => ?_) rfl
    obtain ⟨_, _, e1, ⟨y, rfl, hy1, hy2⟩, _, _, rfl, rfl, rfl⟩ := p
    injection e1 with e1 e2
    injection e2 with e2 _
    subst e1 e2
    refine sn_set 6 (en_callN (P := someItems n 6) (i := 0) g_l_law_script hr (fun ds p => by subst p; exact ⟨n, rfl, h1, h3, rfl⟩) (an_ad (ad_cons (ed_var 1) (ad_cons ed_int (ad_cons ed_int ad_nil)))) rfl rfl) S3 sc_l_law_scripts.nd fun d' pd σ4 H4 S4 => ?_
    obtain ⟨fr, rfl, hf1, hf2⟩ := pd
    have hll := len_cnt last
    have hfl := len_cnt fr
    have hla2 := hla.2
    have cat : ∀ {X : Cx} {C : Addr → Prop} {Γ : List Sd} {a b : Expr} {pos : Pos}, ED X C a Γ (encS last) → ED X C b Γ (encS fr) → ED X C (.BinOp a .Add b pos) Γ (encS (last ++ fr)) := fun ha hb => ED.is (ed_catT (ds := last.map encItem) (es := fr.map encItem) ha hb (by rw [List.length_map, List.length_map]; show _ ≤ 2 ^ 24; omega)) (by unfold encS; rw [List.map_append])
    let X0 : List Item := if y = 0 then last else if y = 1 ∧ cntS (last ++ fr) < 31 then last ++ fr else fr
    have hX0 : okS n X0 := by
      show okS n (if y = 0 then last else if y = 1 ∧ cntS (last ++ fr) < 31 then last ++ fr else fr)
      split
      · exact hla
      · split
        · rename_i hq
          refine ⟨fun i hi => ?_, by omega⟩
          rcases List.mem_append.mp hi with hi | hi
          · exact hla.1 i hi
          · exact hf1 i hi
        · exact ⟨hf1, by omega⟩
    refine s_set 2 (d := .tuple (((init ++ [last]) ++ [X0]).map encS)) (ED.is (ed_catT (ds := (init ++ [last]).map encS) (ed_var 2) (ed_tup (ad_cons (d := encS X0) (ed_if (td_cmp op_eq rd_eqI (ed_var 4) ed_int) (fun z => ED.is (ed_var 5) ?_) (fun z => ?_)) ad_nil)) (by
        rw [List.length_map, hl]
        show _ + 1 ≤ 2 ^ 24
        omega)) (by rw [List.map_append (l₁ := init ++ [last])]; rfl)) (⟨Same.refl _, S4.en⟩ : Sn (Cc c) H4 H4 _ _) sc_l_law_scripts.nd fun σ5 H5 S5 => ?_
    · show encS last = encS (if y = 0 then last else _)
      rw [if_pos (of_decide_eq_true z)]
    · have z := of_decide_eq_false z
      by_cases hq : y = 1 ∧ cntS (last ++ fr) < 31
      · refine ED.is (d := encS (last ++ fr)) (ed_if (k0 := true) (TD.is (td_w (wd_and (td_cmp op_eq rd_eqI (ed_var 4) ed_int) fun _ => wd_and1 (td_cmp op_lt rd_lt (ed_call g_l_law_count (hr.mono (by decide)) ⟨last ++ fr, rfl, rfl⟩ (ad_cons (cat (ed_var 5) (ed_var 6)) ad_nil)) ed_int))) ?_) (fun _ => cat (ed_var 5) (ed_var 6)) (fun q => nomatch q)) ?_
        · rw [decide_eq_true hq.1, Bool.true_and]
          exact decide_eq_true (by omega)
        · show _ = encS (if y = 0 then last else if y = 1 ∧ cntS (last ++ fr) < 31 then last ++ fr else fr)
          rw [if_neg z, if_pos hq]
      · refine ED.is (d := encS fr) (ed_if (k0 := false) (TD.is (td_w (wd_and (td_cmp op_eq rd_eqI (ed_var 4) ed_int) fun _ => wd_and1 (td_cmp op_lt rd_lt (ed_call g_l_law_count (hr.mono (by decide)) ⟨last ++ fr, rfl, rfl⟩ (ad_cons (cat (ed_var 5) (ed_var 6)) ad_nil)) ed_int))) ?_) (fun q => nomatch q) (fun _ => ed_var 6)) ?_
        · by_cases q1 : y = 1
          · rw [decide_eq_true q1, Bool.true_and]
            exact decide_eq_false (fun q => hq ⟨q1, by omega⟩)
          · rw [decide_eq_false q1, Bool.false_and]
        · show _ = encS (if y = 0 then last else if y = 1 ∧ cntS (last ++ fr) < 31 then last ++ fr else fr)
          rw [if_neg z, if_neg hq]
    · refine s_nil (hnx _ _ (G ((init ++ [last]) ++ [X0])) ⟨_, rfl, fun s hs => ?_, by rw [List.length_append, hl]; rfl⟩ ((S4.next (toB S5.sm) (S4.cup.same S5.sm) S5.en).weak rfl fun i s e => ?_))
      · rcases List.mem_append.mp hs with hs | hs
        · exact hss s hs
        · rcases List.mem_singleton.mp hs with rfl
          exact hX0
      · match i, e with
        | 0, e => exact .inr e
        | 1, e => exact .inr e
        | 2, e => exact .inr e
        | 3, e => cases e; exact .inl rfl
        | 4, e => cases e; exact .inl rfl
        | 5, e => cases e; exact .inl rfl
        | 6, e => cases e; exact .inl rfl
        | i + 7, e => cases e
  · obtain ⟨ss, rfl, hss, hl⟩ := hΓ
    exact sn_ret (en_is (ed_var 2) ⟨ss, rfl, by omega, hss⟩) S2 k
/-! ### _law_right -/
def rLawRight (ds : List PyData) (Pd : PyData → Prop) : Prop := ∃ (n : Int) (ss : List (List Item)), ds = [.int n, .tuple (ss.map encS)] ∧ okSs n ss ∧ 1 ≤ n ∧ n ≤ 3 ∧ Pd = fun d => d = .bool true
abbrev N_l_law_right : List Str := ["_law_cup_here", "_law_named", "_law_scripts_here", "_law_company_here", "_law_start", "_law_due", "_law_ties", "_law_pair"]
abbrev P_l_law_right : List Str := ["_law_cup_here", "_law_named", "_law_scripts_here"]
theorem sc_l_law_right : FnScope N_l_law_right P_l_law_right (defScope s_law_right) := ⟨rfl, rfl, rfl, by decide +kernel, rfl, by decide +kernel, by decide +kernel⟩
theorem bk_l_law_right {scope : Scope} {own : List (Str × Nat)} (h : blkB N_l_law_right (defScope s_law_right) scope own = true) : BlkOk N_l_law_right (defScope s_law_right) scope own := blk_of h
abbrev D_l_law_right (P : Program) (w : World) (K : PySem.W.Frag) (mg : Str → Option Value) (base : Heap) : Prop := Dfn P w K mg base "_law_right" P_l_law_right 9 (spN rLawRight)
theorem ok_l_law_right (M : Mg K mg) (T : At K mg "_law_right" s_law_right) (g_parted_by : D_parted_by P w K mg base) (g_parted_at : D_parted_at P w K mg base) (g_l_law_roll : D_l_law_roll P w K mg base) (g_l_law_some : D_l_law_some P w K mg base) (g_l_law_pairs : D_l_law_pairs P w K mg base) (g_l_law_company : D_l_law_company P w K mg base) (g_l_law_parted : D_l_law_parted P w K mg base) (g_l_law_starts : D_l_law_starts P w K mg base) (g_l_law_parted_at : D_l_law_parted_at P w K mg base) : D_l_law_right P w K mg base := by
  refine dfn_ofN T sc_l_law_right (fun _ _ _ _ _ _ us hl => match us, hl with | [_, _, _], _ => rfl) (fun ds d h => by obtain ⟨_, _, rfl, _⟩ := h; rfl) ?_
  intro f cdv A outer s H E hr c ds Pd σ h hE hk Q k
  obtain ⟨n, ss, rfl, hss, h1, h3, rfl⟩ := h
  refine sn_set 3 (en_callN (P := aCompany n) (i := 0) g_l_law_company (hr.mono (by decide)) (fun ds p => by subst p; exact ⟨n, rfl, h1, h3, rfl⟩) (an_ad (ad_cons (ed_var 1) (ad_cons ed_int (ad_cons ed_int ad_nil)))) rfl rfl) ⟨SameB.refl _, hk, hE⟩ sc_l_law_right.nd fun d pd σ1 H1 S1 => ?_
  obtain ⟨cc, rfl, hcc, hc1, hc2⟩ := pd
  refine sn_if (PB := fun b => b = false) (tn_td (TD.is (td_cmp (op_neD hr.units) rd_neL (ed_call g_parted_by hr ⟨n, cc, ss, rfl, hss, h1, h3, hc1, by omega, hcc, rfl⟩ (ad_cons (ed_var 1) (ad_cons (ed_var 3) (ad_cons (ed_var 2) ad_nil)))) (ed_call g_l_law_parted (hr.mono (by decide)) ⟨n, cc, ss, rfl, hss, by omega, hc1, by omega, rfl⟩ (ad_cons (ed_var 3) (ad_cons (ed_var 2) ad_nil)))) (by rw [decide_eq_true rfl]; rfl))) S1 (fun q => nomatch q) (fun _ H2 S2 => s_nil ?_)
  have hsl : (startTs n).length ≤ 8 := by
    unfold startTs
    rw [List.length_mergeSort, lotsM_len]
    exact Nat.pow_le_pow_right (by decide) (pairs3_len (by omega) h3)
  have hsl0 : 0 < (startTs n).length := by
    unfold startTs
    rw [List.length_mergeSort, lotsM_len]
    exact Nat.two_pow_pos _
  refine sn_set 4 (P := fun d => ∃ st : List IP, d = encC (n, st) ∧ st.Sublist (pairs n)) (en_callN (i := 0) g_l_law_some (hr.mono (by decide)) (PA := fun ds => ds = [.list ((startTs n).map fun t => encC (n, t))]) (fun ds p => by
      subst p
      refine ⟨_, rfl, by rw [List.length_map]; exact hsl0, by rw [List.length_map]; omega, fun d hd => ?_⟩
      obtain ⟨t, ht, rfl⟩ := List.mem_map.mp hd
      unfold startTs at ht
      rw [(List.mergeSort_perm _ _).mem_iff] at ht
      exact ⟨t, rfl, (lotsM_mem _ _).mp ht⟩) (an_ad (ad_cons (ed_call g_l_law_starts (hr.mono (by decide)) ⟨n, rfl, by omega, h3, rfl⟩ (ad_cons (ed_var 1) ad_nil)) ad_nil)) rfl rfl) S2 sc_l_law_right.nd fun d pd σ3 H3 S3 => ?_
  obtain ⟨st, rfl, hst⟩ := pd
  refine sn_set 5 (en_ed (ed_call g_l_law_parted_at (hr.mono (by decide)) ⟨n, (n, st), ss, rfl, hss, h1, h3, rfl, hst, rfl⟩ (ad_cons (ed_var 1) (ad_cons (ed_var 4) (ad_cons (ed_var 2) ad_nil))))) S3 sc_l_law_right.nd fun d pd σ4 H4 S4 => ?_
  subst pd
  refine sn_if (PB := fun b => b = false) (tn_td (TD.is (td_cmp (op_neD hr.units) rd_neL (ed_call g_parted_at hr ⟨n, (n, st), ss, rfl, hss, h1, h3, rfl, hst, rfl⟩ (ad_cons (ed_var 1) (ad_cons (ed_var 4) (ad_cons (ed_var 2) ad_nil)))) (ed_var 5)) (by rw [decide_eq_true (at_eq n st ss)]; rfl))) S4 (fun q => nomatch q) (fun _ H5 S5 => s_nil ?_)
  have hl := pairs_len (n := n + 4) (by omega) (by omega)
  refine sn_setLc 6 (xs := pairs (n + 4)) (enc := encP) (own := [("_law_pair", 7)]) (fun p => [.val (.ref c), .dat (.int n), .dat (.tuple (ss.map encS)), .dat (encC cc), .dat (encC (n, st)), .dat (encL (atL n st ss)), .any, .dat (encP p)]) (fun p b => b = true → n ≤ p.2) (fun p d => d = encP p) rfl sc_l_law_right.nd
    (bk_l_law_right (by decide +kernel)) (id_list (ed_call g_l_law_pairs (hr.mono (by decide)) ⟨n + 4, rfl, by omega, by omega, rfl⟩ (ad_cons (ed_add (ed_var 1) ed_int) ad_nil))) S5 (fun s H C' cl fp y _ C1 => gd_name 7 sc_l_law_right.nd)
    (fun s H C' cl fp y _ => tsn_one (tn_w (wn_and (tn_td (td_cmp op_ge rd_ge (ed_ixT (ed_var 7) ed_int) (ed_var 1))) (fun _ => wn_and1 (PB := fun _ => True) (tn_cmp op_eq (en_callN (P := drawn 2) (i := 0) g_l_law_roll (hr.mono (by decide)) (fun ds p => by subst p; exact ⟨_, rfl, by decide, by decide, rfl⟩) (an_ad (ad_cons ed_int ad_nil)) rfl rfl) (en_ed ed_int) (fun d1 d2 p1 p2 => by
        obtain ⟨r, rfl, _⟩ := p1
        subst p2
        exact ⟨_, rd_eqI, trivial⟩))) (fun _ q => nomatch q) (fun b hb _ _ => of_decide_eq_true hb.symm))))
    (fun s H C' cl fp y _ _ C1 => el_ed (ed_var 7) rfl) (by show _ < 2 ^ 24; omega) fun ds hp σ6 H6 S6 => ?_
  obtain ⟨ties, rfl, hts, htn⟩ := picks_sub (ok' := fun p => n ≤ p.2) (fun p h => h rfl) hp
  have htl := hts.length_le
  have hstl : st.length ≤ 66 := Nat.le_trans hst.length_le (pairs_len (by omega) (by omega))
  have hemp : ((partedM (n + 4, srtP (st ++ ties)) ss).filter fun p => !decide (p ∈ atL n st ss)) = [] := by
    rw [List.filter_eq_nil_iff]
    intro p hp
    have := greater (by omega) hst (fun q hq => ⟨hts.subset hq, htn q hq⟩) (List.Sublist.nodup hts (pairs_nodup _)) (fun s hs => (hss.2 s hs).1) hp
    rw [decide_eq_true this]
    exact Bool.false_ne_true
  have hpl : (partedM (n + 4, srtP (st ++ ties)) ss).length ≤ 66 := Nat.le_trans (partedM_sub _ ss).length_le (pairs_len (by omega) (by have := hss.1.2; omega))
  refine sn_ret (en_is (P := fun d => d = .bool true) (d := .bool true) (ED.is (ed_cmp (op_eqD hr.units) (rd_eqL (p := (partedM (n + 4, srtP (st ++ ties)) ss).filter fun p => !decide (p ∈ atL n st ss)) (q := [])) (ed_lc (xs := partedM (n + 4, srtP (st ++ ties)) ss) (enc := encP) (own := [("_law_pair", 7)]) (fun p => [.val (.ref c), .dat (.int n), .dat (.tuple (ss.map encS)), .dat (encC cc), .dat (encC (n, st)), .dat (encL (atL n st ss)), .dat (encL ties), .dat (encP p)]) (fun p => !decide (p ∈ atL n st ss)) encP rfl sc_l_law_right.nd
      (bk_l_law_right (by decide +kernel)) (id_list (ed_call g_l_law_parted (hr.mono (by decide)) ⟨n, (n + 4, srtP (st ++ ties)), ss, rfl, hss, by omega, by show n ≤ n + 4; omega, by show n + 4 ≤ 12; omega, rfl⟩ (ad_cons (ed_tup (ad_cons (ed_add (ed_var 1) ed_int) (ad_cons
          (ed_tupL M.tuple (ed_sortT (enc := encP) (bs := st ++ ties) rfl hr.units M.sorted (ED.is (ed_catT (ds := st.map encP) (es := ties.map encP) (ed_ixT (ed_var 4) ed_int) (ed_tupL M.tuple (ed_var 6)) (by
            rw [List.length_map, List.length_map]
            show _ ≤ 2 ^ 24
            omega)) (by rw [List.map_append])) (srtOk_P _) (fun b _ => layP b) (by
            rw [List.length_append]
            show _ ≤ 2 ^ 24
            omega))) ad_nil))) (ad_cons (ed_var 2) ad_nil)))) (fun C1 s H C' cl fp y _ => gd_name 7 sc_l_law_right.nd) (fun C1 s H C' cl fp y _ => tsd_one (td_cmp (op_notInD (u65 hr)) rd_niL (ed_var 7) (ed_var 5))) (fun C1 s H C' cl fp y _ _ => ed_var 7) (by show _ < 2 ^ 24; omega)) (ed_lst ad_nil)) (by rw [hemp]; rfl)) rfl) S6 k
end
end T2

set_option Elab.async false
set_option linter.all false
set_option maxRecDepth 100000
set_option maxHeartbeats 4000000
/-! TbL7: the cup made, the law. -/
namespace T2
open PySem PySem.Spec PySem.W PyProof.Rows L2
section
variable {P : Program} {w : World} {K : PySem.W.Frag} {mg : Str → Option Value} {base : Heap}
theorem dfn_ofS {x : Str} {st : Stmt} {N ps : List Str} {k : Nat} {sp : Sp} (T : At K mg x st) (S : FnScope N ps (defScope st))
    (hb : ∀ (kV doc pm : Value) (an : Option Addr) (cdv ct : Value) (us : List Value), us.length = ps.length → bindArgs (PySem.W.fnOf x x (defArgs st) (defBody st) (defScope st) .none kV doc pm an cdv ct) ⟨us, []⟩ = pure (ps.zip us))
    (len : ∀ vs H Q E, sp vs H Q E → vs.length = ps.length)
    (body : ∀ (f : Addr) (cdv : Value) (A : Around) (outer : List Env) (s : Shared) (H : Hp) (E : XK), Room k (A.deeper (envOfC x (defScope st) s.heap.objs.size f cdv)) → ∀ (vs : List V) (Q : VK), sp vs H Q E →
      WSs (CxD P w K mg base N x st f cdv A outer s H E) (defBody st) { nx := fun _ H' => Q .non H', rt := Q } (L2.start N vs) H) :
    Dfn P w K mg base x ps (k + 1) sp := by
  obtain ⟨f, fd, hm, F⟩ := T.ex
  refine ⟨f, fd, hm, F.kp, ?_, F.ok S (fun vs H Q E h => len vs H Q E h) (fun cdv A outer s H vs Q E hr h => ⟨_, WSs.p.nox, body f cdv A outer s H E hr vs Q h⟩)⟩
  obtain ⟨oc, od, dV, kV, doc, pm, an, cdv, ct, osl, rfl, lk, hcd, hD, _⟩ := F.ex
  rcases hD with ⟨_, rfl⟩ | ⟨z, _⟩
  · exact .all (hb kV doc pm an cdv ct)
  · exact absurd rfl z
/-! ### the cup made -/
def spCup (K : PySem.W.Frag) : Sp := fun vs H Q _ => ∃ (a : Addr) (ns : List Int), vs = [.ref a] ∧ ns.length ≤ 1000 ∧ SqL K H a (ns.map V.int) ∧ ∀ c H', Same H H' → CupOk c H' → Q (.ref c) H'
abbrev N_cup : List Str := ["_law_script_here", "_law_cell"]
theorem sc_cup : FnScope N_cup ["_law_script_here"] (defScope s_law_cup) := ⟨rfl, rfl, rfl, by decide +kernel, rfl, by decide +kernel, by decide +kernel⟩
abbrev D_cup (P : Program) (w : World) (K : PySem.W.Frag) (mg : Str → Option Value) (base : Heap) : Prop := Dfn P w K mg base "_law_cup" ["_law_script_here"] 1 (spCup K)
theorem ok_cup (M : Mg K mg) (T : At K mg "_law_cup" s_law_cup) : D_cup P w K mg base := by
  refine dfn_ofS T sc_cup (fun _ _ _ _ _ _ us hl => match us, hl with | [_], _ => rfl) (fun vs H Q E h => by obtain ⟨_, _, rfl, _⟩ := h; rfl) ?_
  intro f cdv A outer s H E hr vs Q h
  obtain ⟨a, ns, rfl, hl, hS, k⟩ := h
  refine ⟨_, pss_cons (ps_set (i := 1) sc_cup.nd rfl (.inl rfl) (pe_callB call_abs rfl M.abs (by decide +kernel) (pa_cons (pe_ix ix_list (pe_op op_cat (pe_callTy call_list_of rfl M.list (by decide +kernel) (pa_cons (pe_var (i := 0) rfl (.inl rfl)) pa_nil)) (pe_lst (pa_cons pe_int pa_nil))) pe_int (fun _ _ => rfl)) pa_nil))) WSs.p, ?_⟩
  refine ⟨.ref a, rfl, a, ns.map V.int, rfl, .inl hS, fun l hl0 => ⟨Nat.le_of_ble_eq_true rfl, fun m hm => ?_⟩⟩
  have hlm : (upd (upd H l (.lst (ns.map V.int))) m (.lst [.int 0])) l = some (.lst (ns.map V.int)) := by
    rw [upd_ne (ne_of_none upd_same hm)]
    exact upd_same
  refine ⟨l, m, ns.map V.int, [.int 0], rfl, rfl, hlm, upd_same, by rw [List.length_map]; show _ + 1 ≤ 2 ^ 24; omega, fun q hq => ?_⟩
  have s1 : Same H (upd (upd (upd H l (.lst (ns.map V.int))) m (.lst [.int 0])) q (.lst (ns.map V.int ++ [.int 0]))) := ((same_new hl0).trans (same_new hm)).trans (same_new hq)
  obtain ⟨i, hi⟩ : ∃ i : Int, atI (ns.map V.int ++ [.int 0]) 0 = some (.int i) := by
    cases ns with
    | nil => exact ⟨0, rfl⟩
    | cons n ns => exact ⟨n, by
        unfold atI ixN
        rw [if_pos (by decide), if_pos (by rw [List.length_append, List.length_singleton]; omega)]
        rfl⟩
  refine ⟨q, _, 0, .int i, rfl, rfl, SqL.of upd_same, hi, i, rfl, ?_⟩
  have hE : En (fun _ => False) (upd (upd (upd H l (.lst (ns.map V.int))) m (.lst [.int 0])) q (.lst (ns.map V.int ++ [.int 0]))) ((L2.start N_cup [.ref a]).set 1 (some (.int (if i < 0 then -i else i)))) [.val (.ref a), .dat (.int (if i < 0 then -i else i))] := by
    refine ⟨fun a h => h.elim, rfl, fun j t e => ?_⟩
    match j, e with
    | 0, e => cases e; rfl
    | 1, e => cases e; exact ⟨_, rfl, .int _⟩
    | j + 2, e => cases e
  have hab : 0 ≤ (if i < 0 then -i else i) := by split <;> omega
  generalize (if i < 0 then -i else i) = y at hE hab
  refine s_ret (d := .list [.int (if (10 : Int) ^ ((18 : Int).toNat) ≤ y then y / 43 else 0), .int ((y * 251 + 2111) % 2077503301 + 137)]) (ed_lst (ad_cons (ed_if (td_cmp op_ge rd_ge (ed_var 1) (ed_pow ed_int ed_int ⟨by decide, by decide, by decide⟩)) (fun z => ED.is (ed_fdiv (ed_var 1) ed_int ⟨by decide, by decide⟩) ?_) (fun z => ED.is ed_int ?_)) (ad_cons (ed_add (ed_mod (ed_intI M.int (ed_add (ed_mul (ed_var 1) ed_int (.inr (by decide))) ed_int)) ed_int (by decide)) ed_int) ad_nil))) (⟨s1, hE⟩ : Sn (fun _ => False) H _ _ _) fun v H' s2 r2 => ?_
  · rw [if_pos (of_decide_eq_true z)]
  · rw [if_neg (of_decide_eq_false z)]
  · cases r2 with
    | lst hcc hx hr2 =>
      obtain ⟨x1, x2, rfl, q1, q2⟩ := rep2 hr2
      cases q1
      cases q2
      refine k _ _ s2 ⟨_, _, ?_, ?_, ?_, hx⟩
      · split
        · exact Int.ediv_nonneg hab (by decide)
        · decide
      · have := Int.emod_nonneg (y * 251 + 2111) (show (2077503301 : Int) ≠ 0 by decide)
        omega
      · have := Int.emod_lt_of_pos (y * 251 + 2111) (show (0 : Int) < 2077503301 by decide)
        omega
/-! ### scripts of the examples -/
theorem okS_nil (n : Int) : okS n [] := ⟨(fun i h => by cases h), by decide⟩
theorem oks_k : oks [0, 0, 1, 1, 1, 0] 6 := by unfold oks; decide
theorem okS_k {n : Int} (h : 1 ≤ n) : okS n kM := ⟨fun i hi => by
  rcases List.mem_singleton.mp hi with rfl
  exact ⟨by decide, by omega, oks_k⟩, by decide⟩
theorem okS_kk {n : Int} (h : 1 ≤ n) : okS n (kM ++ kM) := ⟨fun i hi => by
  rcases List.mem_append.mp hi with hi | hi
  · exact (okS_k h).1 i hi
  · exact (okS_k h).1 i hi, by decide⟩
theorem two01 {n : Int} (h : 2 ≤ n) : two n 0 1 := by unfold two; omega
theorem okS_tie {n : Int} (h : 2 ≤ n) {w : Str} (hw : w = "know" ∨ w = "part" ∨ w = "turn") : okS n [.deed (.tie 0 1 w)] := ⟨fun i hi => by
  rcases List.mem_singleton.mp hi with rfl
  exact ⟨two01 h, hw⟩, by show 1 + 0 ≤ 30; decide⟩
theorem okS_ask {n : Int} (h : 2 ≤ n) : okS n askM := ⟨fun i hi => by
  rcases List.mem_singleton.mp hi with rfl
  refine ⟨two01 h, fun d hd => ?_, fun d hd => by cases hd⟩
  rcases List.mem_singleton.mp hd with rfl
  exact ⟨by decide, by omega, oks_k⟩, by decide⟩
theorem okS_third {n : Int} (h : 2 ≤ n) : okS n thirdM := ⟨fun i hi => by
  rcases List.mem_singleton.mp hi with rfl
  exact ⟨two01 h, by unfold oks; decide⟩, by decide⟩
theorem okSs2 {n : Int} {a b : List Item} (ha : okS n a) (hb : okS n b) : okSs n [a, b] := ⟨⟨Nat.le_refl _, by show 2 ≤ 3; decide⟩, fun s hs => by
  simp only [List.mem_cons, List.not_mem_nil, or_false] at hs
  rcases hs with rfl | rfl <;> assumption⟩
theorem okSs3 {n : Int} {a b c : List Item} (ha : okS n a) (hb : okS n b) (hc : okS n c) : okSs n [a, b, c] := ⟨⟨by show 2 ≤ 3; decide, Nat.le_refl _⟩, fun s hs => by
  simp only [List.mem_cons, List.not_mem_nil, or_false] at hs
  rcases hs with rfl | rfl | rfl <;> assumption⟩
theorem canon_nil (n : Int) : canon (n, []) := List.nil_sublist _
theorem canon_a : canon (3, [(0, 1), (0, 2)]) := by unfold canon; decide +kernel
theorem canon_b : canon (2, [(0, 1)]) := by unfold canon; decide +kernel
theorem canon_c : canon (3, [(1, 2)]) := by unfold canon; decide +kernel
/-! ### the law -/
def spLaw (K : PySem.W.Frag) : Sp := fun vs H Q _ => ∃ (a : Addr) (ns : List Int), vs = [.ref a] ∧ ns.length ≤ 1000 ∧ SqL K H a (ns.map V.int) ∧ ∀ H', Q (.bl true) H'
abbrev N_law : List Str := ["_law_script_here", "_law_cup_here", "_law_turn", "_law_named", "_law_k_here", "_law_u", "_law_part", "_law_know", "_law_ask", "_law_third"]
theorem sc_law : FnScope N_law ["_law_script_here"] (defScope slaw) := ⟨rfl, rfl, rfl, by decide +kernel, rfl, by decide +kernel, by decide +kernel⟩
theorem ok_law (M : Mg K mg) {f : Addr} {fd : FuncData} (F : FunD K "law" "law" (defArgs slaw) (defBody slaw) (defScope slaw) [] [] f fd) (g_cup : D_cup P w K mg base) (g_l_law_some : D_l_law_some P w K mg base) (g_l_law_right : D_l_law_right P w K mg base) (g_l_law_scripts : D_l_law_scripts P w K mg base) (g_l_law_k : D_l_law_k P w K mg base)
    (g_parted_by : D_parted_by P w K mg base) (g_parted_at : D_parted_at P w K mg base) : FnOk P w K mg base CX0 10 f fd ["_law_script_here"] (spLaw K) := by
  refine F.ok sc_law (fun vs H Q E h => by obtain ⟨_, _, rfl, _⟩ := h; rfl) (fun cdv A outer s H vs Q E hr h => ⟨_, WSs.p.nox, (?_ : WSs (CxD P w K mg base N_law "law" slaw f cdv A outer s H E) (defBody slaw) { nx := fun _ H' => Q .non H', rt := Q } (L2.start N_law vs) H)⟩)
  obtain ⟨a, ns, rfl, hl, hS, k⟩ := h
  obtain ⟨fc, fdc, hc1, hc2, hc3, Fc⟩ := g_cup.ex
  refine ⟨_, pss_cons (ps_set (i := 1) sc_law.nd rfl (.inl rfl) (pe_call Fc (hr.mono (by decide)) rfl hc1 hc2 hc3 .nil pass0 (pa_cons (pe_var (i := 0) rfl (.inl rfl)) pa_nil))) WSs.p, ?_⟩
  refine ⟨.ref a, rfl, a, ns, rfl, hl, hS, fun c H1 s1 k1 => ?_⟩
  let G : List Sd := [.val (.ref a), .val (.ref c), .any, .any, .any, .any, .any, .any, .any, .any]
  have hE1 : En (Cc c) H1 ((L2.start N_law [.ref a]).set 1 (some (.ref c))) G := by
    refine ⟨k1.th, rfl, fun j t e => ?_⟩
    match j, e with
    | 0, e => cases e; rfl
    | 1, e => cases e; rfl
    | 2, e => cases e; trivial
    | 3, e => cases e; trivial
    | 4, e => cases e; trivial
    | 5, e => cases e; trivial
    | 6, e => cases e; trivial
    | 7, e => cases e; trivial
    | 8, e => cases e; trivial
    | 9, e => cases e; trivial
    | j + 10, e => cases e
  have S1 : SnC c H1 H1 ((L2.start N_law [.ref a]).set 1 (some (.ref c))) G := ⟨SameB.refl _, k1, hE1⟩
  refine sn_for (ws := [2]) (fun _ Γ => Γ = G) (fun Γ d => Γ.set 2 (.dat d)) PassesOwn.never rfl (id_range1 M.range ed_int (by decide)) S1 rfl (fun i d Γ hΓ hd => gd_name 2 sc_law.nd) (fun i d Γ hΓ hd Hb sb σ2 H2 D' S2 hrt hnx => ?_) (fun Γ σ2 H2 hΓ S2 => ?_)
  · subst hΓ
    refine sn_set 3 (P := fun d => ∃ n : Int, d = .int n ∧ 1 ≤ n ∧ n ≤ 3) (en_callN (i := 1) g_l_law_some (hr.mono (by decide)) (fun ds p => by
        subst p
        refine ⟨_, rfl, by show 0 < 5; decide, by show 5 ≤ 1000; decide, fun d hd => ?_⟩
        simp only [List.mem_cons, List.not_mem_nil, or_false] at hd
        rcases hd with rfl | rfl | rfl | rfl | rfl
        · exact ⟨1, rfl, by decide, by decide⟩
        · exact ⟨1, rfl, by decide, by decide⟩
        · exact ⟨2, rfl, by decide, by decide⟩
        · exact ⟨2, rfl, by decide, by decide⟩
        · exact ⟨2, rfl, by decide, by decide⟩) (an_ad (ad_cons (ed_lst (ad_cons ed_int (ad_cons ed_int (ad_cons ed_int (ad_cons ed_int (ad_cons ed_int ad_nil)))))) ad_nil)) rfl rfl) S2 sc_law.nd fun d' pd σ3 H3 S3 => ?_
    obtain ⟨n, rfl, h1, h3⟩ := pd
    refine sn_if (PB := fun b => b = false) (tn_not (Pa := fun b => b = true) (tn_val (EN.mono (en_callN (P := fun d => d = .bool true) (i := 1) g_l_law_right (hr.mono (by decide)) (fun ds p => by
        obtain ⟨_, _, rfl, rfl, _, _, rfl, ⟨ss, rfl, hss⟩, rfl⟩ := p
        exact ⟨n, ss, rfl, hss, h1, h3, rfl⟩) (an_cons (en_ed (ed_var 3)) (an_cons (en_callN (P := someScripts n) (i := 1) g_l_law_scripts (hr.mono (by decide)) (fun ds p => by subst p; exact ⟨n, rfl, h1, h3, rfl⟩) (an_ad (ad_cons (ed_var 3) ad_nil)) rfl rfl) an_nil)) rfl rfl) fun d e => ⟨true, e, rfl⟩)) (fun b e => by rw [e]; rfl)) S3 (fun q => nomatch q) (fun _ H4 S4 => s_nil (s_nil (hnx _ _ G rfl ((S4.forget 2).forget 3))))
  · subst hΓ
    have S : Sn (Cc c) H2 H2 σ2 G := ⟨Same.refl _, S2.en⟩
    refine s_asg (d := .tuple [encS kM, encC (3, [(0, 1), (0, 2)]), encS partM, encS knowM, encS turnM]) (ed_tup (ad_cons (ed_call0 g_l_law_k (hr.mono (by decide)) ⟨rfl, rfl⟩) (ad_cons (ed_tup (ad_cons ed_int (ad_cons (ed_tup (ad_cons (ed_tup (ad_cons ed_int (ad_cons ed_int ad_nil))) (ad_cons (ed_tup (ad_cons ed_int (ad_cons ed_int ad_nil))) ad_nil))) ad_nil)))
        (ad_cons (ed_tup (ad_cons (ed_tup (ad_cons ed_str (ad_cons ed_int (ad_cons ed_int (ad_cons ed_str ad_nil))))) ad_nil)) (ad_cons (ed_tup (ad_cons (ed_tup (ad_cons ed_str (ad_cons ed_int (ad_cons ed_int (ad_cons ed_str ad_nil))))) ad_nil)) (ad_cons (ed_tup (ad_cons (ed_tup (ad_cons ed_str (ad_cons ed_int (ad_cons ed_int (ad_cons ed_str ad_nil))))) ad_nil)) ad_nil))))))
      (gd_tup rfl (gsd_cons (gd_name 4 sc_law.nd) (gsd_cons (gd_name 5 sc_law.nd) (gsd_cons (gd_name 6 sc_law.nd) (gsd_cons (gd_name 7 sc_law.nd) (gsd_cons (gd_name 2 sc_law.nd) gsd_nil)))))) S (fun σ3 H3 S3 => ?_)
    refine s_skip (TD.is (td_w (wd_or (td_cmp (op_neD hr.units) (rd_neL (p := partedM (3, [(0, 1), (0, 2)]) [[], kM]) (q := [(0, 1)])) (ed_call (ds := [.int 1, encC (3, [(0, 1), (0, 2)]), .tuple (([[], kM] : List (List Item)).map encS)]) g_parted_by (hr.mono (by decide)) ⟨1, (3, [(0, 1), (0, 2)]), [[], kM], rfl, (okSs2 (okS_nil _) (okS_k (by decide))), by decide, by decide, by decide, by decide, canon_a, rfl⟩ (ad_cons ed_int (ad_cons (ed_var 5) (ad_cons (ed_tup (ad_cons (ed_tup ad_nil) (ad_cons (ed_var 4) ad_nil))) ad_nil)))) (ed_lst (ad_cons (ed_tup (ad_cons ed_int (ad_cons ed_int ad_nil))) ad_nil))) fun _ => wd_or (td_cmp (op_neD hr.units) (rd_neL (p := partedM (3, []) [[], kM]) (q := [])) (ed_call (ds := [.int 1, encC (3, []), .tuple (([[], kM] : List (List Item)).map encS)]) g_parted_by (hr.mono (by decide)) ⟨1, (3, []), [[], kM], rfl, (okSs2 (okS_nil _) (okS_k (by decide))), by decide, by decide, by decide, by decide, (canon_nil _), rfl⟩ (ad_cons ed_int (ad_cons (ed_tup (ad_cons ed_int (ad_cons (ed_tup ad_nil) ad_nil))) (ad_cons (ed_tup (ad_cons (ed_tup ad_nil) (ad_cons (ed_var 4) ad_nil))) ad_nil)))) (ed_lst ad_nil)) fun _ => wd_or1 (td_cmp (op_neD hr.units) (rd_neL (p := partedM (1, []) [[], kM, kM ++ kM]) (q := [])) (ed_call (ds := [.int 1, encC (1, []), .tuple (([[], kM, kM ++ kM] : List (List Item)).map encS)]) g_parted_by (hr.mono (by decide)) ⟨1, (1, []), [[], kM, kM ++ kM], rfl, (okSs3 (okS_nil _) (okS_k (by decide)) (okS_kk (by decide))), by decide, by decide, by decide, by decide, (canon_nil _), rfl⟩ (ad_cons ed_int (ad_cons (ed_tup (ad_cons ed_int (ad_cons (ed_tup ad_nil) ad_nil))) (ad_cons (ed_tup (ad_cons (ed_tup ad_nil) (ad_cons (ed_var 4) (ad_cons (ED.is (ed_catT (ds := kM.map encItem) (es := kM.map encItem) (ed_var 4) (ed_var 4) (Nat.le_of_ble_eq_true rfl)) rfl) ad_nil)))) ad_nil)))) (ed_lst ad_nil)))) (by rw [decide_eq_true ex1, decide_eq_true ex2, decide_eq_true ex3]; rfl)) S3 fun H4 S4 => ?_
    refine s_skip (TD.is (td_w (wd_or (td_cmp (op_neD hr.units) (rd_neL (p := atM 2 [] [[], partM]) (q := [])) (ed_call (ds := [.int 2, encC (2, []), .tuple (([[], partM] : List (List Item)).map encS)]) g_parted_at (hr.mono (by decide)) ⟨2, (2, []), [[], partM], rfl, (okSs2 (okS_nil _) (okS_tie (by decide) (.inr (.inl rfl)))), by decide, by decide, rfl, (canon_nil _), rfl⟩ (ad_cons ed_int (ad_cons (ed_tup (ad_cons ed_int (ad_cons (ed_tup ad_nil) ad_nil))) (ad_cons (ed_tup (ad_cons (ed_tup ad_nil) (ad_cons (ed_var 6) ad_nil))) ad_nil)))) (ed_lst ad_nil)) fun _ => wd_or (td_cmp (op_neD hr.units) (rd_neL (p := atM 2 [(0, 1)] [[], partM]) (q := [(0, 1)])) (ed_call (ds := [.int 2, encC (2, [(0, 1)]), .tuple (([[], partM] : List (List Item)).map encS)]) g_parted_at (hr.mono (by decide)) ⟨2, (2, [(0, 1)]), [[], partM], rfl, (okSs2 (okS_nil _) (okS_tie (by decide) (.inr (.inl rfl)))), by decide, by decide, rfl, canon_b, rfl⟩ (ad_cons ed_int (ad_cons (ed_tup (ad_cons ed_int (ad_cons (ed_tup (ad_cons (ed_tup (ad_cons ed_int (ad_cons ed_int ad_nil))) ad_nil)) ad_nil))) (ad_cons (ed_tup (ad_cons (ed_tup ad_nil) (ad_cons (ed_var 6) ad_nil))) ad_nil)))) (ed_lst (ad_cons (ed_tup (ad_cons ed_int (ad_cons ed_int ad_nil))) ad_nil))) fun _ => wd_or1 (td_cmp (op_neD hr.units) (rd_neL (p := atM 1 [] [kM, [], kM]) (q := [(0, 1), (1, 2)])) (ed_call (ds := [.int 1, encC (1, []), .tuple (([kM, [], kM] : List (List Item)).map encS)]) g_parted_at (hr.mono (by decide)) ⟨1, (1, []), [kM, [], kM], rfl, (okSs3 (okS_k (by decide)) (okS_nil _) (okS_k (by decide))), by decide, by decide, rfl, (canon_nil _), rfl⟩ (ad_cons ed_int (ad_cons (ed_tup (ad_cons ed_int (ad_cons (ed_tup ad_nil) ad_nil))) (ad_cons (ed_tup (ad_cons (ed_var 4) (ad_cons (ed_tup ad_nil) (ad_cons (ed_var 4) ad_nil)))) ad_nil)))) (ed_lst (ad_cons (ed_tup (ad_cons ed_int (ad_cons ed_int ad_nil))) (ad_cons (ed_tup (ad_cons ed_int (ad_cons ed_int ad_nil))) ad_nil)))))) (by rw [decide_eq_true ex4, decide_eq_true ex5, decide_eq_true ex6]; rfl)) S4 fun H5 S5 => ?_
    refine s_skip (TD.is (td_w (wd_or (td_cmp (op_neD hr.units) (rd_neL (p := atM 2 [] [partM, knowM, turnM]) (q := [(0, 1), (0, 2)])) (ed_call (ds := [.int 2, encC (2, []), .tuple (([partM, knowM, turnM] : List (List Item)).map encS)]) g_parted_at (hr.mono (by decide)) ⟨2, (2, []), [partM, knowM, turnM], rfl, (okSs3 (okS_tie (by decide) (.inr (.inl rfl))) (okS_tie (by decide) (.inl rfl)) (okS_tie (by decide) (.inr (.inr rfl)))), by decide, by decide, rfl, (canon_nil _), rfl⟩ (ad_cons ed_int (ad_cons (ed_tup (ad_cons ed_int (ad_cons (ed_tup ad_nil) ad_nil))) (ad_cons (ed_tup (ad_cons (ed_var 6) (ad_cons (ed_var 7) (ad_cons (ed_var 2) ad_nil)))) ad_nil)))) (ed_lst (ad_cons (ed_tup (ad_cons ed_int (ad_cons ed_int ad_nil))) (ad_cons (ed_tup (ad_cons ed_int (ad_cons ed_int ad_nil))) ad_nil)))) fun _ => wd_or1 (td_cmp (op_neD hr.units) (rd_neL (p := atM 2 [(0, 1)] [partM, knowM, turnM]) (q := [(0, 1), (1, 2)])) (ed_call (ds := [.int 2, encC (2, [(0, 1)]), .tuple (([partM, knowM, turnM] : List (List Item)).map encS)]) g_parted_at (hr.mono (by decide)) ⟨2, (2, [(0, 1)]), [partM, knowM, turnM], rfl, (okSs3 (okS_tie (by decide) (.inr (.inl rfl))) (okS_tie (by decide) (.inl rfl)) (okS_tie (by decide) (.inr (.inr rfl)))), by decide, by decide, rfl, canon_b, rfl⟩ (ad_cons ed_int (ad_cons (ed_tup (ad_cons ed_int (ad_cons (ed_tup (ad_cons (ed_tup (ad_cons ed_int (ad_cons ed_int ad_nil))) ad_nil)) ad_nil))) (ad_cons (ed_tup (ad_cons (ed_var 6) (ad_cons (ed_var 7) (ad_cons (ed_var 2) ad_nil)))) ad_nil)))) (ed_lst (ad_cons (ed_tup (ad_cons ed_int (ad_cons ed_int ad_nil))) (ad_cons (ed_tup (ad_cons ed_int (ad_cons ed_int ad_nil))) ad_nil)))))) (by rw [decide_eq_true ex7, decide_eq_true ex8]; rfl)) S5 fun H6 S6 => ?_
    refine s_set 8 (d := encS askM) (ed_tup (ad_cons (ed_tup (ad_cons ed_str (ad_cons ed_int (ad_cons ed_int (ad_cons (ed_var 4) (ad_cons (ed_tup ad_nil) ad_nil)))))) ad_nil)) S6 sc_law.nd fun σ7 H7 S7 => ?_
    refine s_skip (TD.is (td_w (wd_or (td_cmp (op_neD hr.units) (rd_neL (p := atM 2 [] [[], askM]) (q := [])) (ed_call (ds := [.int 2, encC (2, []), .tuple (([[], askM] : List (List Item)).map encS)]) g_parted_at (hr.mono (by decide)) ⟨2, (2, []), [[], askM], rfl, (okSs2 (okS_nil _) (okS_ask (by decide))), by decide, by decide, rfl, (canon_nil _), rfl⟩ (ad_cons ed_int (ad_cons (ed_tup (ad_cons ed_int (ad_cons (ed_tup ad_nil) ad_nil))) (ad_cons (ed_tup (ad_cons (ed_tup ad_nil) (ad_cons (ed_var 8) ad_nil))) ad_nil)))) (ed_lst ad_nil)) fun _ => wd_or1 (td_cmp (op_neD hr.units) (rd_neL (p := atM 2 [(0, 1)] [[], askM]) (q := [(0, 1)])) (ed_call (ds := [.int 2, encC (2, [(0, 1)]), .tuple (([[], askM] : List (List Item)).map encS)]) g_parted_at (hr.mono (by decide)) ⟨2, (2, [(0, 1)]), [[], askM], rfl, (okSs2 (okS_nil _) (okS_ask (by decide))), by decide, by decide, rfl, canon_b, rfl⟩ (ad_cons ed_int (ad_cons (ed_tup (ad_cons ed_int (ad_cons (ed_tup (ad_cons (ed_tup (ad_cons ed_int (ad_cons ed_int ad_nil))) ad_nil)) ad_nil))) (ad_cons (ed_tup (ad_cons (ed_tup ad_nil) (ad_cons (ed_var 8) ad_nil))) ad_nil)))) (ed_lst (ad_cons (ed_tup (ad_cons ed_int (ad_cons ed_int ad_nil))) ad_nil))))) (by rw [decide_eq_true ex9, decide_eq_true ex10]; rfl)) S7 fun H8 S8 => ?_
    refine s_set 9 (d := encS thirdM) (ed_tup (ad_cons (ed_tup (ad_cons ed_str (ad_cons ed_int (ad_cons ed_int (ad_cons (ed_tup (ad_cons ed_int (ad_cons ed_int (ad_cons ed_int (ad_cons ed_int ad_nil))))) ad_nil))))) ad_nil)) S8 sc_law.nd fun σ9 H9 S9 => ?_
    refine s_ret (d := .bool true) (ED.is (ed_and (ed_cmp (op_eqD hr.units) (rd_eqL (p := atM 3 [(1, 2)] [[], thirdM]) (q := [(0, 1)])) (ed_call (ds := [.int 3, encC (3, [(1, 2)]), .tuple (([[], thirdM] : List (List Item)).map encS)]) g_parted_at (hr.mono (by decide)) ⟨3, (3, [(1, 2)]), [[], thirdM], rfl, (okSs2 (okS_nil _) (okS_third (by decide))), by decide, by decide, rfl, canon_c, rfl⟩ (ad_cons ed_int (ad_cons (ed_tup (ad_cons ed_int (ad_cons (ed_tup (ad_cons (ed_tup (ad_cons ed_int (ad_cons ed_int ad_nil))) ad_nil)) ad_nil))) (ad_cons (ed_tup (ad_cons (ed_tup ad_nil) (ad_cons (ed_var 9) ad_nil))) ad_nil)))) (ed_lst (ad_cons (ed_tup (ad_cons ed_int (ad_cons ed_int ad_nil))) ad_nil))) fun _ => ed_and (ed_cmp (op_eqD hr.units) (rd_eqL (p := partedM (3, [(1, 2)]) [[], thirdM]) (q := [(0, 1)])) (ed_call (ds := [.int 3, encC (3, [(1, 2)]), .tuple (([[], thirdM] : List (List Item)).map encS)]) g_parted_by (hr.mono (by decide)) ⟨3, (3, [(1, 2)]), [[], thirdM], rfl, (okSs2 (okS_nil _) (okS_third (by decide))), by decide, by decide, by decide, by decide, canon_c, rfl⟩ (ad_cons ed_int (ad_cons (ed_tup (ad_cons ed_int (ad_cons (ed_tup (ad_cons (ed_tup (ad_cons ed_int (ad_cons ed_int ad_nil))) ad_nil)) ad_nil))) (ad_cons (ed_tup (ad_cons (ed_tup ad_nil) (ad_cons (ed_var 9) ad_nil))) ad_nil)))) (ed_lst (ad_cons (ed_tup (ad_cons ed_int (ad_cons ed_int ad_nil))) ad_nil))) fun _ => ed_one (ed_cmp (op_eqD hr.units) (rd_eqL (p := partedM (3, []) [[], thirdM]) (q := [])) (ed_call (ds := [.int 3, encC (3, []), .tuple (([[], thirdM] : List (List Item)).map encS)]) g_parted_by (hr.mono (by decide)) ⟨3, (3, []), [[], thirdM], rfl, (okSs2 (okS_nil _) (okS_third (by decide))), by decide, by decide, by decide, by decide, (canon_nil _), rfl⟩ (ad_cons ed_int (ad_cons (ed_tup (ad_cons ed_int (ad_cons (ed_tup ad_nil) ad_nil))) (ad_cons (ed_tup (ad_cons (ed_tup ad_nil) (ad_cons (ed_var 9) ad_nil))) ad_nil)))) (ed_lst ad_nil))) (by rw [decide_eq_true ex11, decide_eq_true ex12, decide_eq_true ex13]; rfl)) S9 fun v H10 s10 r10 => ?_
    cases r10
    exact k H10
end
end T2

set_option Elab.async false
set_option linter.all false
set_option maxRecDepth 100000
set_option maxHeartbeats 0
/-! TbHead: the facts of the top by names, the top's run in the kernel. -/
namespace T2
open PySem PySem.Spec PyProof.Rows L2
def mkD (x : Str) (st : Stmt) : He.DefD := ⟨(x, none), x, x, defArgs st, defBody st, defScope st, [], []⟩
def fn : List He.DefD := [
  mkD "is_whole" sis_whole,
  mkD "is_tuple_of" sis_tuple_of,
  mkD "are_whole" sare_whole,
  mkD "pairs_of" spairs_of,
  mkD "pair_of" spair_of,
  mkD "fits_tie" sfits_tie,
  mkD "fits_company" sfits_company,
  mkD "company_by" scompany_by,
  mkD "ties_in" sties_in,
  mkD "need_named" sneed_named,
  mkD "need_company" sneed_company,
  mkD "answer_of" sanswer_of,
  mkD "behind" sbehind,
  mkD "run_by" srun_by,
  mkD "are_two_named" sare_two_named,
  mkD "are_answers" sare_answers,
  mkD "fits_deed" sfits_deed,
  mkD "fits_choice" sfits_choice,
  mkD "items_in" sitems_in,
  mkD "fits_script" sfits_script,
  mkD "need_scripts" sneed_scripts,
  mkD "need_start" sneed_start,
  mkD "twos_of" stwos_of,
  mkD "parted_in" sparted_in,
  mkD "lots_within" slots_within,
  mkD "views_at" sviews_at,
  mkD "parting_views" sparting_views,
  mkD "parted_by" sparted_by,
  mkD "parted_at" sparted_at,
  mkD "_law_cup" s_law_cup,
  mkD "_law_roll" s_law_roll,
  mkD "_law_some" s_law_some,
  mkD "_law_two" s_law_two,
  mkD "_law_pairs" s_law_pairs,
  mkD "_law_knows" s_law_knows,
  mkD "_law_behind" s_law_behind,
  mkD "_law_done" s_law_done,
  mkD "_law_answers" s_law_answers,
  mkD "_law_deed" s_law_deed,
  mkD "_law_items" s_law_items,
  mkD "_law_count" s_law_count,
  mkD "_law_script" s_law_script,
  mkD "_law_company" s_law_company,
  mkD "_law_k" s_law_k,
  mkD "_law_scripts" s_law_scripts,
  mkD "_law_parted" s_law_parted,
  mkD "_law_starts" s_law_starts,
  mkD "_law_parted_at" s_law_parted_at,
  mkD "_law_right" s_law_right,
  mkD "law" slaw]
def fa : List He.Fa := [
  .glo "is_whole",
  .glo "is_tuple_of",
  .glo "are_whole",
  .glo "pairs_of",
  .glo "pair_of",
  .glo "fits_tie",
  .glo "fits_company",
  .glo "company_by",
  .glo "ties_in",
  .glo "need_named",
  .glo "need_company",
  .glo "answer_of",
  .glo "behind",
  .glo "run_by",
  .glo "are_two_named",
  .glo "are_answers",
  .glo "fits_deed",
  .glo "fits_choice",
  .glo "items_in",
  .glo "fits_script",
  .glo "need_scripts",
  .glo "need_start",
  .glo "twos_of",
  .glo "parted_in",
  .glo "lots_within",
  .glo "views_at",
  .glo "parting_views",
  .glo "parted_by",
  .glo "parted_at",
  .glo "_law_cup",
  .glo "_law_roll",
  .glo "_law_some",
  .glo "_law_two",
  .glo "_law_pairs",
  .glo "_law_knows",
  .glo "_law_behind",
  .glo "_law_done",
  .glo "_law_answers",
  .glo "_law_deed",
  .glo "_law_items",
  .glo "_law_count",
  .glo "_law_script",
  .glo "_law_company",
  .glo "_law_k",
  .glo "_law_scripts",
  .glo "_law_parted",
  .glo "_law_starts",
  .glo "_law_parted_at",
  .glo "_law_right",
  .glo "law",
  .free "len",
  .free "range",
  .free "min",
  .free "max",
  .free "isinstance",
  .free "int",
  .free "bool",
  .free "str",
  .free "tuple",
  .free "list",
  .free "dict",
  .free "all",
  .free "sum",
  .free "sorted",
  .free "zip",
  .free "abs",
  .int "NAMED" 3,
  .int "PEOPLE" 9,
  .int "ITEMS" 30,
  .int "DEEPEST" 4,
  .glo "WORDS"]
def wordsB (K : PySem.W.Frag) : Bool := He.tupB K "WORDS" [.str "know", .str "part", .str "turn"]
abbrev AlW : Type := He.AlD × Bool
def hk : PySem.W.Hook where
  α := AlW
  obs := fun s => (He.obsD fa fn (He.frG s.heap.get? (He.asD s.heap.get? 4)), wordsB (He.frG s.heap.get? (He.asD s.heap.get? 4)))
  val := fun _ => (He.valD fn, true)
  says := fun _ h => ∃ K : PySem.W.Frag, K.In h ∧ He.SaysD fa fn K ∧ wordsB K = true
  of := fun _ _ e => ⟨_, He.frG_in, congrArg (fun z : AlW => z.1) e, congrArg (fun z : AlW => z.2) e⟩
  keeps := fun _ _ _ ⟨K, hK, c⟩ k => ⟨K, PySem.W.Frag.In.keeps hK k, c⟩
def obK (g : Addr → Option Obj) : AlW := (He.obsD fa fn (He.frG g (He.asD g 4)), wordsB (He.frG g (He.asD g 4)))
def ob (s : PySem.W.SharedT) : AlW := obK (HandSHeadRun.getT s)
theorem ob_eq (s : PySem.W.SharedT) : ob s = hk.obs s.abs := by
  have e : HandSHeadRun.getT s = s.abs.heap.get? := funext (HandSHeadRun.getT_eq s)
  unfold ob
  rw [e] <;> rfl
abbrev R : PySem.W.OpenRow := PySem.W.OpenLaw.row PySem.Challenge.rw_twobesides_k63_whole_scripts_parted
def loose : List PySem.Str := (["is_whole", "is_tuple_of", "are_whole", "pairs_of", "pair_of", "fits_tie", "fits_company", "company_by", "ties_in", "need_named", "need_company", "answer_of", "behind", "run_by", "are_two_named", "are_answers", "fits_deed", "fits_choice", "items_in", "fits_script", "need_scripts", "need_start", "twos_of", "parted_in", "lots_within", "views_at", "parting_views", "parted_by", "parted_at", "_law_cup"] : List PySem.Str) ++ (["_law_roll", "_law_some", "_law_two", "_law_pairs", "_law_knows", "_law_behind", "_law_done", "_law_answers", "_law_deed", "_law_items", "_law_count", "_law_script", "_law_company", "_law_k", "_law_scripts", "_law_parted", "_law_starts", "_law_parted_at", "_law_right", "BesidesError", "InvalidNamed", "InvalidCompany", "InvalidScripts", "NAMED", "PEOPLE", "ITEMS", "DEEPEST", "WORDS"] : List PySem.Str)
theorem run (w : World) : HandSHeadRun.RunEq R (PySem.W.view R.prog [64]) hk ob 4000 loose w := by
  intro os
  kernel_rfl
/-! ### what is told, as the defs' proofs ask it -/
structure Tx (K : PySem.W.Frag) (mg : Str → Option Value) : Prop where
  m : Mg K mg
  is_whole : At K mg "is_whole" sis_whole
  is_tuple_of : At K mg "is_tuple_of" sis_tuple_of
  are_whole : At K mg "are_whole" sare_whole
  pairs_of : At K mg "pairs_of" spairs_of
  pair_of : At K mg "pair_of" spair_of
  fits_tie : At K mg "fits_tie" sfits_tie
  fits_company : At K mg "fits_company" sfits_company
  company_by : At K mg "company_by" scompany_by
  ties_in : At K mg "ties_in" sties_in
  need_named : At K mg "need_named" sneed_named
  need_company : At K mg "need_company" sneed_company
  answer_of : At K mg "answer_of" sanswer_of
  behind : At K mg "behind" sbehind
  run_by : At K mg "run_by" srun_by
  are_two_named : At K mg "are_two_named" sare_two_named
  are_answers : At K mg "are_answers" sare_answers
  fits_deed : At K mg "fits_deed" sfits_deed
  fits_choice : At K mg "fits_choice" sfits_choice
  items_in : At K mg "items_in" sitems_in
  fits_script : At K mg "fits_script" sfits_script
  need_scripts : At K mg "need_scripts" sneed_scripts
  need_start : At K mg "need_start" sneed_start
  twos_of : At K mg "twos_of" stwos_of
  parted_in : At K mg "parted_in" sparted_in
  lots_within : At K mg "lots_within" slots_within
  views_at : At K mg "views_at" sviews_at
  parting_views : At K mg "parting_views" sparting_views
  parted_by : At K mg "parted_by" sparted_by
  parted_at : At K mg "parted_at" sparted_at
  l_law_cup : At K mg "_law_cup" s_law_cup
  l_law_roll : At K mg "_law_roll" s_law_roll
  l_law_some : At K mg "_law_some" s_law_some
  l_law_two : At K mg "_law_two" s_law_two
  l_law_pairs : At K mg "_law_pairs" s_law_pairs
  l_law_knows : At K mg "_law_knows" s_law_knows
  l_law_behind : At K mg "_law_behind" s_law_behind
  l_law_done : At K mg "_law_done" s_law_done
  l_law_answers : At K mg "_law_answers" s_law_answers
  l_law_deed : At K mg "_law_deed" s_law_deed
  l_law_items : At K mg "_law_items" s_law_items
  l_law_count : At K mg "_law_count" s_law_count
  l_law_script : At K mg "_law_script" s_law_script
  l_law_company : At K mg "_law_company" s_law_company
  l_law_k : At K mg "_law_k" s_law_k
  l_law_scripts : At K mg "_law_scripts" s_law_scripts
  l_law_parted : At K mg "_law_parted" s_law_parted
  l_law_starts : At K mg "_law_starts" s_law_starts
  l_law_parted_at : At K mg "_law_parted_at" s_law_parted_at
  l_law_right : At K mg "_law_right" s_law_right
  law : At K mg "law" slaw
theorem tx_of {K : PySem.W.Frag} {h : Heap} {mg : Str → Option Value} (KX : K.In h) (G : h.Ns mainGlobals mg) (c : He.SaysD fa fn K) (cw : wordsB K = true) : Tx K mg where
  m := {
    len := He.free_ok KX G (c.fact 50 (f := .free "len") rfl)
    range := He.free_ok KX G (c.fact 51 (f := .free "range") rfl)
    min := He.free_ok KX G (c.fact 52 (f := .free "min") rfl)
    max := He.free_ok KX G (c.fact 53 (f := .free "max") rfl)
    isinstance := He.free_ok KX G (c.fact 54 (f := .free "isinstance") rfl)
    int := He.free_ok KX G (c.fact 55 (f := .free "int") rfl)
    bool := He.free_ok KX G (c.fact 56 (f := .free "bool") rfl)
    str := He.free_ok KX G (c.fact 57 (f := .free "str") rfl)
    tuple := He.free_ok KX G (c.fact 58 (f := .free "tuple") rfl)
    list := He.free_ok KX G (c.fact 59 (f := .free "list") rfl)
    dict := He.free_ok KX G (c.fact 60 (f := .free "dict") rfl)
    all := He.free_ok KX G (c.fact 61 (f := .free "all") rfl)
    sum := He.free_ok KX G (c.fact 62 (f := .free "sum") rfl)
    sorted := He.free_ok KX G (c.fact 63 (f := .free "sorted") rfl)
    zip := He.free_ok KX G (c.fact 64 (f := .free "zip") rfl)
    abs := He.free_ok KX G (c.fact 65 (f := .free "abs") rfl)
    NAMED := He.int_ok KX G (c.fact 66 (f := .int "NAMED" 3) rfl)
    PEOPLE := He.int_ok KX G (c.fact 67 (f := .int "PEOPLE" 9) rfl)
    ITEMS := He.int_ok KX G (c.fact 68 (f := .int "ITEMS" 30) rfl)
    DEEPEST := He.int_ok KX G (c.fact 69 (f := .int "DEEPEST" 4) rfl)
    WORDS := ⟨_, He.glo_ok KX G (c.fact 70 (f := .glo "WORDS") rfl), fun H => He.tupB_ok cw H⟩ }
  is_whole := ⟨_, (c.def_ 0 (d := mkD "is_whole" sis_whole) rfl).choose, He.glo_ok KX G (c.fact 0 (f := .glo "is_whole") rfl), (c.def_ 0 (d := mkD "is_whole" sis_whole) rfl).choose_spec⟩
  is_tuple_of := ⟨_, (c.def_ 1 (d := mkD "is_tuple_of" sis_tuple_of) rfl).choose, He.glo_ok KX G (c.fact 1 (f := .glo "is_tuple_of") rfl), (c.def_ 1 (d := mkD "is_tuple_of" sis_tuple_of) rfl).choose_spec⟩
  are_whole := ⟨_, (c.def_ 2 (d := mkD "are_whole" sare_whole) rfl).choose, He.glo_ok KX G (c.fact 2 (f := .glo "are_whole") rfl), (c.def_ 2 (d := mkD "are_whole" sare_whole) rfl).choose_spec⟩
  pairs_of := ⟨_, (c.def_ 3 (d := mkD "pairs_of" spairs_of) rfl).choose, He.glo_ok KX G (c.fact 3 (f := .glo "pairs_of") rfl), (c.def_ 3 (d := mkD "pairs_of" spairs_of) rfl).choose_spec⟩
  pair_of := ⟨_, (c.def_ 4 (d := mkD "pair_of" spair_of) rfl).choose, He.glo_ok KX G (c.fact 4 (f := .glo "pair_of") rfl), (c.def_ 4 (d := mkD "pair_of" spair_of) rfl).choose_spec⟩
  fits_tie := ⟨_, (c.def_ 5 (d := mkD "fits_tie" sfits_tie) rfl).choose, He.glo_ok KX G (c.fact 5 (f := .glo "fits_tie") rfl), (c.def_ 5 (d := mkD "fits_tie" sfits_tie) rfl).choose_spec⟩
  fits_company := ⟨_, (c.def_ 6 (d := mkD "fits_company" sfits_company) rfl).choose, He.glo_ok KX G (c.fact 6 (f := .glo "fits_company") rfl), (c.def_ 6 (d := mkD "fits_company" sfits_company) rfl).choose_spec⟩
  company_by := ⟨_, (c.def_ 7 (d := mkD "company_by" scompany_by) rfl).choose, He.glo_ok KX G (c.fact 7 (f := .glo "company_by") rfl), (c.def_ 7 (d := mkD "company_by" scompany_by) rfl).choose_spec⟩
  ties_in := ⟨_, (c.def_ 8 (d := mkD "ties_in" sties_in) rfl).choose, He.glo_ok KX G (c.fact 8 (f := .glo "ties_in") rfl), (c.def_ 8 (d := mkD "ties_in" sties_in) rfl).choose_spec⟩
  need_named := ⟨_, (c.def_ 9 (d := mkD "need_named" sneed_named) rfl).choose, He.glo_ok KX G (c.fact 9 (f := .glo "need_named") rfl), (c.def_ 9 (d := mkD "need_named" sneed_named) rfl).choose_spec⟩
  need_company := ⟨_, (c.def_ 10 (d := mkD "need_company" sneed_company) rfl).choose, He.glo_ok KX G (c.fact 10 (f := .glo "need_company") rfl), (c.def_ 10 (d := mkD "need_company" sneed_company) rfl).choose_spec⟩
  answer_of := ⟨_, (c.def_ 11 (d := mkD "answer_of" sanswer_of) rfl).choose, He.glo_ok KX G (c.fact 11 (f := .glo "answer_of") rfl), (c.def_ 11 (d := mkD "answer_of" sanswer_of) rfl).choose_spec⟩
  behind := ⟨_, (c.def_ 12 (d := mkD "behind" sbehind) rfl).choose, He.glo_ok KX G (c.fact 12 (f := .glo "behind") rfl), (c.def_ 12 (d := mkD "behind" sbehind) rfl).choose_spec⟩
  run_by := ⟨_, (c.def_ 13 (d := mkD "run_by" srun_by) rfl).choose, He.glo_ok KX G (c.fact 13 (f := .glo "run_by") rfl), (c.def_ 13 (d := mkD "run_by" srun_by) rfl).choose_spec⟩
  are_two_named := ⟨_, (c.def_ 14 (d := mkD "are_two_named" sare_two_named) rfl).choose, He.glo_ok KX G (c.fact 14 (f := .glo "are_two_named") rfl), (c.def_ 14 (d := mkD "are_two_named" sare_two_named) rfl).choose_spec⟩
  are_answers := ⟨_, (c.def_ 15 (d := mkD "are_answers" sare_answers) rfl).choose, He.glo_ok KX G (c.fact 15 (f := .glo "are_answers") rfl), (c.def_ 15 (d := mkD "are_answers" sare_answers) rfl).choose_spec⟩
  fits_deed := ⟨_, (c.def_ 16 (d := mkD "fits_deed" sfits_deed) rfl).choose, He.glo_ok KX G (c.fact 16 (f := .glo "fits_deed") rfl), (c.def_ 16 (d := mkD "fits_deed" sfits_deed) rfl).choose_spec⟩
  fits_choice := ⟨_, (c.def_ 17 (d := mkD "fits_choice" sfits_choice) rfl).choose, He.glo_ok KX G (c.fact 17 (f := .glo "fits_choice") rfl), (c.def_ 17 (d := mkD "fits_choice" sfits_choice) rfl).choose_spec⟩
  items_in := ⟨_, (c.def_ 18 (d := mkD "items_in" sitems_in) rfl).choose, He.glo_ok KX G (c.fact 18 (f := .glo "items_in") rfl), (c.def_ 18 (d := mkD "items_in" sitems_in) rfl).choose_spec⟩
  fits_script := ⟨_, (c.def_ 19 (d := mkD "fits_script" sfits_script) rfl).choose, He.glo_ok KX G (c.fact 19 (f := .glo "fits_script") rfl), (c.def_ 19 (d := mkD "fits_script" sfits_script) rfl).choose_spec⟩
  need_scripts := ⟨_, (c.def_ 20 (d := mkD "need_scripts" sneed_scripts) rfl).choose, He.glo_ok KX G (c.fact 20 (f := .glo "need_scripts") rfl), (c.def_ 20 (d := mkD "need_scripts" sneed_scripts) rfl).choose_spec⟩
  need_start := ⟨_, (c.def_ 21 (d := mkD "need_start" sneed_start) rfl).choose, He.glo_ok KX G (c.fact 21 (f := .glo "need_start") rfl), (c.def_ 21 (d := mkD "need_start" sneed_start) rfl).choose_spec⟩
  twos_of := ⟨_, (c.def_ 22 (d := mkD "twos_of" stwos_of) rfl).choose, He.glo_ok KX G (c.fact 22 (f := .glo "twos_of") rfl), (c.def_ 22 (d := mkD "twos_of" stwos_of) rfl).choose_spec⟩
  parted_in := ⟨_, (c.def_ 23 (d := mkD "parted_in" sparted_in) rfl).choose, He.glo_ok KX G (c.fact 23 (f := .glo "parted_in") rfl), (c.def_ 23 (d := mkD "parted_in" sparted_in) rfl).choose_spec⟩
  lots_within := ⟨_, (c.def_ 24 (d := mkD "lots_within" slots_within) rfl).choose, He.glo_ok KX G (c.fact 24 (f := .glo "lots_within") rfl), (c.def_ 24 (d := mkD "lots_within" slots_within) rfl).choose_spec⟩
  views_at := ⟨_, (c.def_ 25 (d := mkD "views_at" sviews_at) rfl).choose, He.glo_ok KX G (c.fact 25 (f := .glo "views_at") rfl), (c.def_ 25 (d := mkD "views_at" sviews_at) rfl).choose_spec⟩
  parting_views := ⟨_, (c.def_ 26 (d := mkD "parting_views" sparting_views) rfl).choose, He.glo_ok KX G (c.fact 26 (f := .glo "parting_views") rfl), (c.def_ 26 (d := mkD "parting_views" sparting_views) rfl).choose_spec⟩
  parted_by := ⟨_, (c.def_ 27 (d := mkD "parted_by" sparted_by) rfl).choose, He.glo_ok KX G (c.fact 27 (f := .glo "parted_by") rfl), (c.def_ 27 (d := mkD "parted_by" sparted_by) rfl).choose_spec⟩
  parted_at := ⟨_, (c.def_ 28 (d := mkD "parted_at" sparted_at) rfl).choose, He.glo_ok KX G (c.fact 28 (f := .glo "parted_at") rfl), (c.def_ 28 (d := mkD "parted_at" sparted_at) rfl).choose_spec⟩
  l_law_cup := ⟨_, (c.def_ 29 (d := mkD "_law_cup" s_law_cup) rfl).choose, He.glo_ok KX G (c.fact 29 (f := .glo "_law_cup") rfl), (c.def_ 29 (d := mkD "_law_cup" s_law_cup) rfl).choose_spec⟩
  l_law_roll := ⟨_, (c.def_ 30 (d := mkD "_law_roll" s_law_roll) rfl).choose, He.glo_ok KX G (c.fact 30 (f := .glo "_law_roll") rfl), (c.def_ 30 (d := mkD "_law_roll" s_law_roll) rfl).choose_spec⟩
  l_law_some := ⟨_, (c.def_ 31 (d := mkD "_law_some" s_law_some) rfl).choose, He.glo_ok KX G (c.fact 31 (f := .glo "_law_some") rfl), (c.def_ 31 (d := mkD "_law_some" s_law_some) rfl).choose_spec⟩
  l_law_two := ⟨_, (c.def_ 32 (d := mkD "_law_two" s_law_two) rfl).choose, He.glo_ok KX G (c.fact 32 (f := .glo "_law_two") rfl), (c.def_ 32 (d := mkD "_law_two" s_law_two) rfl).choose_spec⟩
  l_law_pairs := ⟨_, (c.def_ 33 (d := mkD "_law_pairs" s_law_pairs) rfl).choose, He.glo_ok KX G (c.fact 33 (f := .glo "_law_pairs") rfl), (c.def_ 33 (d := mkD "_law_pairs" s_law_pairs) rfl).choose_spec⟩
  l_law_knows := ⟨_, (c.def_ 34 (d := mkD "_law_knows" s_law_knows) rfl).choose, He.glo_ok KX G (c.fact 34 (f := .glo "_law_knows") rfl), (c.def_ 34 (d := mkD "_law_knows" s_law_knows) rfl).choose_spec⟩
  l_law_behind := ⟨_, (c.def_ 35 (d := mkD "_law_behind" s_law_behind) rfl).choose, He.glo_ok KX G (c.fact 35 (f := .glo "_law_behind") rfl), (c.def_ 35 (d := mkD "_law_behind" s_law_behind) rfl).choose_spec⟩
  l_law_done := ⟨_, (c.def_ 36 (d := mkD "_law_done" s_law_done) rfl).choose, He.glo_ok KX G (c.fact 36 (f := .glo "_law_done") rfl), (c.def_ 36 (d := mkD "_law_done" s_law_done) rfl).choose_spec⟩
  l_law_answers := ⟨_, (c.def_ 37 (d := mkD "_law_answers" s_law_answers) rfl).choose, He.glo_ok KX G (c.fact 37 (f := .glo "_law_answers") rfl), (c.def_ 37 (d := mkD "_law_answers" s_law_answers) rfl).choose_spec⟩
  l_law_deed := ⟨_, (c.def_ 38 (d := mkD "_law_deed" s_law_deed) rfl).choose, He.glo_ok KX G (c.fact 38 (f := .glo "_law_deed") rfl), (c.def_ 38 (d := mkD "_law_deed" s_law_deed) rfl).choose_spec⟩
  l_law_items := ⟨_, (c.def_ 39 (d := mkD "_law_items" s_law_items) rfl).choose, He.glo_ok KX G (c.fact 39 (f := .glo "_law_items") rfl), (c.def_ 39 (d := mkD "_law_items" s_law_items) rfl).choose_spec⟩
  l_law_count := ⟨_, (c.def_ 40 (d := mkD "_law_count" s_law_count) rfl).choose, He.glo_ok KX G (c.fact 40 (f := .glo "_law_count") rfl), (c.def_ 40 (d := mkD "_law_count" s_law_count) rfl).choose_spec⟩
  l_law_script := ⟨_, (c.def_ 41 (d := mkD "_law_script" s_law_script) rfl).choose, He.glo_ok KX G (c.fact 41 (f := .glo "_law_script") rfl), (c.def_ 41 (d := mkD "_law_script" s_law_script) rfl).choose_spec⟩
  l_law_company := ⟨_, (c.def_ 42 (d := mkD "_law_company" s_law_company) rfl).choose, He.glo_ok KX G (c.fact 42 (f := .glo "_law_company") rfl), (c.def_ 42 (d := mkD "_law_company" s_law_company) rfl).choose_spec⟩
  l_law_k := ⟨_, (c.def_ 43 (d := mkD "_law_k" s_law_k) rfl).choose, He.glo_ok KX G (c.fact 43 (f := .glo "_law_k") rfl), (c.def_ 43 (d := mkD "_law_k" s_law_k) rfl).choose_spec⟩
  l_law_scripts := ⟨_, (c.def_ 44 (d := mkD "_law_scripts" s_law_scripts) rfl).choose, He.glo_ok KX G (c.fact 44 (f := .glo "_law_scripts") rfl), (c.def_ 44 (d := mkD "_law_scripts" s_law_scripts) rfl).choose_spec⟩
  l_law_parted := ⟨_, (c.def_ 45 (d := mkD "_law_parted" s_law_parted) rfl).choose, He.glo_ok KX G (c.fact 45 (f := .glo "_law_parted") rfl), (c.def_ 45 (d := mkD "_law_parted" s_law_parted) rfl).choose_spec⟩
  l_law_starts := ⟨_, (c.def_ 46 (d := mkD "_law_starts" s_law_starts) rfl).choose, He.glo_ok KX G (c.fact 46 (f := .glo "_law_starts") rfl), (c.def_ 46 (d := mkD "_law_starts" s_law_starts) rfl).choose_spec⟩
  l_law_parted_at := ⟨_, (c.def_ 47 (d := mkD "_law_parted_at" s_law_parted_at) rfl).choose, He.glo_ok KX G (c.fact 47 (f := .glo "_law_parted_at") rfl), (c.def_ 47 (d := mkD "_law_parted_at" s_law_parted_at) rfl).choose_spec⟩
  l_law_right := ⟨_, (c.def_ 48 (d := mkD "_law_right" s_law_right) rfl).choose, He.glo_ok KX G (c.fact 48 (f := .glo "_law_right") rfl), (c.def_ 48 (d := mkD "_law_right" s_law_right) rfl).choose_spec⟩
  law := ⟨_, (c.def_ 49 (d := mkD "law" slaw) rfl).choose, He.glo_ok KX G (c.fact 49 (f := .glo "law") rfl), (c.def_ 49 (d := mkD "law" slaw) rfl).choose_spec⟩
end T2

set_option Elab.async false
set_option linter.all false
set_option maxRecDepth 100000
set_option maxHeartbeats 0
/-! TbEnd: the end. -/
namespace T2
open PySem PySem.Spec PySem.W PyProof.Rows L2
theorem law_ok {P : Program} {w : World} {K : PySem.W.Frag} {mg : Str → Option Value} {base : Heap} (T : Tx K mg) {f : Addr} {fd : FuncData} (F : FunD K "law" "law" (defArgs slaw) (defBody slaw) (defScope slaw) [] [] f fd) : FnOk P w K mg base CX0 10 f fd ["_law_script_here"] (spLaw K) := by
  have g_is_whole : D_is_whole P w K mg base := ok_is_whole T.m T.is_whole
  have g_is_tuple_of : D_is_tuple_of P w K mg base := ok_is_tuple_of T.m T.is_tuple_of 
  have g_are_whole : D_are_whole P w K mg base := ok_are_whole T.m T.are_whole g_is_whole
  have g_pairs_of : D_pairs_of P w K mg base := ok_pairs_of T.m T.pairs_of 
  have g_pair_of : D_pair_of P w K mg base := ok_pair_of T.m T.pair_of 
  have g_fits_tie : D_fits_tie P w K mg base := ok_fits_tie T.m T.fits_tie g_is_tuple_of g_are_whole
  have g_company_by : D_company_by P w K mg base := ok_company_by T.m T.company_by g_pairs_of
  have g_ties_in : D_ties_in P w K mg base := ok_ties_in T.m T.ties_in g_pairs_of
  have g_fits_company : D_fits_company P w K mg base := ok_fits_company T.m T.fits_company g_is_tuple_of g_is_whole g_fits_tie
  have g_need_named : D_need_named P w K mg base := ok_need_named T.m T.need_named g_is_whole
  have g_need_company : D_need_company P w K mg base := ok_need_company T.m T.need_company g_fits_company
  have g_answer_of : D_answer_of P w K mg base := ok_answer_of T.m T.answer_of g_pair_of
  have g_behind : D_behind P w K mg base := ok_behind T.m T.behind g_ties_in g_pairs_of g_company_by g_answer_of
  have g_run_by : D_run_by P w K mg base := ok_run_by T.m T.run_by g_pair_of g_behind
  have g_are_two_named : D_are_two_named P w K mg base := ok_are_two_named T.m T.are_two_named g_is_whole
  have g_are_answers : D_are_answers P w K mg base := ok_are_answers T.m T.are_answers g_is_tuple_of g_are_whole
  have g_fits_deed : D_fits_deed P w K mg base := ok_fits_deed T.m T.fits_deed g_is_tuple_of g_is_whole g_are_answers g_are_two_named
  have g_fits_choice : D_fits_choice P w K mg base := ok_fits_choice T.m T.fits_choice g_is_tuple_of g_are_two_named
  have g_items_in : D_items_in P w K mg base := ok_items_in T.m T.items_in g_fits_choice g_fits_deed
  have g_fits_script : D_fits_script P w K mg base := ok_fits_script T.m T.fits_script g_items_in
  have g_need_scripts : D_need_scripts P w K mg base := ok_need_scripts T.m T.need_scripts g_is_tuple_of g_fits_script
  have g_need_start : D_need_start P w K mg base := ok_need_start T.m T.need_start g_fits_company
  have g_twos_of : D_twos_of P w K mg base := ok_twos_of T.m T.twos_of g_pairs_of
  have g_parted_in : D_parted_in P w K mg base := ok_parted_in T.m T.parted_in g_run_by g_twos_of
  have g_lots_within : D_lots_within P w K mg base := ok_lots_within T.m T.lots_within 
  have g_views_at : D_views_at P w K mg base := ok_views_at T.m T.views_at g_pairs_of g_lots_within
  have g_parting_views : D_parting_views P w K mg base := ok_parting_views T.m T.parting_views g_views_at g_parted_in
  have g_parted_by : D_parted_by P w K mg base := ok_parted_by T.m T.parted_by g_need_named g_need_company g_need_scripts g_parted_in
  have g_parted_at : D_parted_at P w K mg base := ok_parted_at T.m T.parted_at g_need_named g_need_start g_need_scripts g_parting_views
  have g_l_law_two : D_l_law_two P w K mg base := ok_l_law_two T.m T.l_law_two 
  have g_l_law_pairs : D_l_law_pairs P w K mg base := ok_l_law_pairs T.m T.l_law_pairs 
  have g_l_law_knows : D_l_law_knows P w K mg base := ok_l_law_knows T.m T.l_law_knows g_l_law_two
  have g_l_law_behind : D_l_law_behind P w K mg base := ok_l_law_behind T.m T.l_law_behind g_l_law_two g_l_law_pairs g_l_law_knows
  have g_l_law_done0 : D_l_law_done0 P w K mg base := ok_l_law_done0 T.m T.l_law_done g_l_law_behind
  have g_l_law_done : D_l_law_done P w K mg base := ok_l_law_done T.m T.l_law_done g_l_law_behind g_l_law_knows g_l_law_done0
  have g_l_law_count0 : D_l_law_count0 P w K mg base := ok_l_law_count0 T.m T.l_law_count 
  have g_l_law_count : D_l_law_count P w K mg base := ok_l_law_count T.m T.l_law_count g_l_law_count0
  have g_l_law_parted : D_l_law_parted P w K mg base := ok_l_law_parted T.m T.l_law_parted g_l_law_done g_l_law_pairs
  have g_l_law_k : D_l_law_k P w K mg base := ok_l_law_k T.m T.l_law_k 
  have g_l_law_starts : D_l_law_starts P w K mg base := ok_l_law_starts T.m T.l_law_starts g_l_law_pairs
  have g_l_law_parted_at : D_l_law_parted_at P w K mg base := ok_l_law_parted_at T.m T.l_law_parted_at g_l_law_pairs g_l_law_parted
  have g_l_law_roll : D_l_law_roll P w K mg base := ok_l_law_roll T.m T.l_law_roll 
  have g_l_law_some : D_l_law_some P w K mg base := ok_l_law_some T.m T.l_law_some g_l_law_roll
  have g_l_law_answers : D_l_law_answers P w K mg base := ok_l_law_answers T.m T.l_law_answers g_l_law_roll
  have g_l_law_deed : D_l_law_deed P w K mg base := ok_l_law_deed T.m T.l_law_deed g_l_law_roll g_l_law_some g_l_law_answers
  have g_l_law_items0 : D_l_law_items0 P w K mg base := ok_l_law_items0 T.m T.l_law_items g_l_law_roll g_l_law_deed
  have g_l_law_items : D_l_law_items P w K mg base := ok_l_law_items T.m T.l_law_items g_l_law_roll g_l_law_some g_l_law_deed g_l_law_items0
  have g_l_law_script : D_l_law_script P w K mg base := ok_l_law_script T.m T.l_law_script g_l_law_items g_l_law_count
  have g_l_law_company : D_l_law_company P w K mg base := ok_l_law_company T.m T.l_law_company g_l_law_roll g_l_law_pairs
  have g_l_law_scripts : D_l_law_scripts P w K mg base := ok_l_law_scripts T.m T.l_law_scripts g_l_law_roll g_l_law_script g_l_law_count
  have g_l_law_right : D_l_law_right P w K mg base := ok_l_law_right T.m T.l_law_right g_parted_by g_parted_at g_l_law_roll g_l_law_some g_l_law_pairs g_l_law_company g_l_law_parted g_l_law_starts g_l_law_parted_at
  have g_cup : D_cup P w K mg base := ok_cup T.m T.l_law_cup
  exact ok_law T.m F g_cup g_l_law_some g_l_law_right g_l_law_scripts g_l_law_k g_parted_by g_parted_at
end T2
open PySem PySem.W PySem.Calls PyProof.Rows
theorem PySem.Challenge.cw_twobesides_k63_whole_scripts_parted_holds : PySem.Challenge.rw_twobesides_k63_whole_scripts_parted.Holds := by
  w_on; o_law
  refine HandSHeadRun.head_any (r := OpenLaw.row PySem.Challenge.rw_twobesides_k63_whole_scripts_parted) (q := view (OpenLaw.row PySem.Challenge.rw_twobesides_k63_whole_scripts_parted).prog [64]) (H := T2.hk) (ob := T2.ob) (M := 4000) (loose := T2.loose) (d := HandSHeadRun.topDef (OpenLaw.row PySem.Challenge.rw_twobesides_k63_whole_scripts_parted).prog 64) (kwd := []) T2.ob_eq
    (by kernel_rfl) (fun s => by kernel_rfl) T2.run (by kernel_rfl) (by kernel_rfl) (by kernel_rfl) (by rfl) (by first | assumption | decide +kernel) (by decide +kernel) ⟨rfl, rfl, rfl, rfl, rfl, by decide +kernel⟩ ?hw ?hc
  case hw => w_witness2
  case hc =>
    refine L2.walk_ofE (l := PySem.Challenge.rw_twobesides_k63_whole_scripts_parted) (n := 63) (k := 10) (x := "_law_script_here") (CX := L2.CX0) rfl (by decide) (by kernel_rfl) ⟨rfl, by decide, by decide⟩ ?F (fun _ _ _ _ z => z)
    intro w mg fa h Y G hmg0
    obtain ⟨K, KX, c⟩ := Y
    have hmg : mg ("law" : PySem.Str) = some (.ref fa) := by
      have e : (HandSHeadRun.topDef (OpenLaw.row PySem.Challenge.rw_twobesides_k63_whole_scripts_parted).prog 64).name = ("law" : PySem.Str) := by kernel_rfl
      rw [← e]
      exact hmg0
    have T := T2.tx_of KX G c.1 c.2
    obtain ⟨f, fd, hm, F⟩ := T.law.ex
    have e := hmg.symm.trans hm
    cases e
    have b := L2.FunD.bindsA (ps := ["_law_script_here"]) F fun _ _ _ _ _ _ us hl => match us, hl with | [_], _ => rfl
    exact ⟨K, fd, T2.spLaw K, KX, fun s v => b s [v] rfl, fun H a ns hl _ hS => ⟨a, ns, rfl, Nat.le_trans hl (by decide), hS, fun _ => rfl⟩, fun base _ _ => T2.law_ok T F⟩

